import PyProof.Rows.All
import Wide.All
import OpenK.AllK
import Wide.FinOn
import HandS.ForMost
import HandS.Wide
import HandS.WideBits
import HandS.EndBits
import HandS.IsInst
import HandS.TupAny
import HandS.TupMul
import HandS.Conv
import HandS.Walk
import HandS.Zip
import HandS.Flow
import HandS.Exc
import HandS.ExcOwn
import HandS.ExcIs
import HandS.WordsExc
import KE.DataEq
import KE.KDictKeyed
import HandS.NoneIn
import HandS.Rev
import HandS.Replace
import PyProof.Draws
import PyProof.StrWalks
import HandS.Text
import KE.KDictDisplayH
import KE.SortKeyed
import KE.DataCmp
import KE.DataMinMax
import HandS.Style
import HandS.ExcValue
import HandS.ExcBuiltin
import HandS.Codes
import PyProof.StrBlock2
import HandS.More
import PyProof.Rows.StrOr
import KE.KIntText
import HandS.ReplaceLit
import HandS.ReplaceDef
import PySem.Challenge.RW_hangrings_k46_numbers_read
set_option Elab.async false
set_option linter.all false
set_option maxRecDepth 100000
/-! Z1: data as trees, lists in a store by number; what it is to be represented over the hand layer's heap. -/
namespace Z
open PySem PySem.Spec PyProof.Rows L2

/-- data: never changes -/
inductive D where
  | non | bl (b : Bool) | int (i : Int) | str (x : Str) | tup (xs : List D) | lst (xs : List D)
/-- a value: data; a list of the store; a list that nobody writes; a tuple of values -/
inductive R where
  | d (x : D) | loc (n : Nat) | ro (xs : List D) | tr (xs : List R) | ex (x : Str)
  /-- a thing at a known place -/
  | ad (a : Addr)
/-- what stands in the store -/
inductive O where
  | lst (xs : List D)
  /-- a dict whose keys are tuples (of ints, None and such tuples); how often it was written -/
  | dct (ep : Nat) (kvs : List (D × D))
  /-- a dict whose keys are ints and texts -/
  | dk (kvs : List (Key × D))
  /-- a list at a known place, of any values -/
  | la (a : Addr) (xs : List R)
  /-- a dict at a known place, of ints and texts -/
  | da (a : Addr) (kvs : List (Key × R))
  /-- an instance of an own class at a known place -/
  | ob (a : Addr) (C : Str) (fs : List (Str × R))
abbrev Rho := List (Option R)
abbrev Sto := List O

/-- a caught exception of the class at C, kept at a -/
def XO (C : Addr) (a : Addr) : HO := .ext fun h => ∃ (oe : Obj), h.get? a = some oe ∧ Zc (.ref C) none oe ∧ ∃ vs, oe.data = .fields vs
/-- the dict at a, its entries -/
def DX (a : Addr) (ep : Nat) (es : List DictEntry) : HO := .ext fun h => ∃ (o : Obj), h.get? a = some o ∧ o.ExactDict ∧ o.data = .dict es.toArray ep
theorem xo_dx {C a : Addr} {ep : Nat} {es : List DictEntry} (e : XO C a = DX a ep es) : False := by
  have e1 := congrFun (HO.ext.inj e) { objs := Array.replicate (a + 1) { cls := .type "dict", data := .dict es.toArray ep } }
  have g : Heap.get? { objs := Array.replicate (a + 1) { cls := .type "dict", data := .dict es.toArray ep } } a = some { cls := .type "dict", data := .dict es.toArray ep } := by
    unfold Heap.get?
    simp [Array.getElem?_replicate]
  obtain ⟨oe, g1, _, vs, d⟩ := e1.mpr ⟨_, g, ⟨rfl, rfl, rfl⟩, rfl⟩
  rw [g] at g1; cases g1
  cases d
mutual
/-- data as a key -/
def keyN : D → Option NestedKey
  | .non => some .none
  | .int i => some (.num i)
  | .tup xs => match keysN xs with
    | some ks => some (.tup ks)
    | none => none
  | _ => none
def keysN : List D → Option (List NestedKey)
  | [] => some []
  | x :: xs => match keyN x, keysN xs with
    | some k, some ks => some (k :: ks)
    | _, _ => none
end
section
variable (K : PySem.W.Frag)
/-- a list that stays as it is -/
def Fz (H : Hp) (a : Addr) (vs : List V) : Prop :=
  (∃ o, H a = some (.frz o (.lst vs))) ∨
    ∃ (o : Obj) (its : Array Value) (n : Nat), K.lookup a = some o ∧ o.cls = .type "list" ∧ o.dict = none ∧ o.data = .seq its n ∧ its.size ≤ sizeLine ∧ Vals vs its.toList
mutual
def RepD (H : Hp) : D → V → Prop
  | .non, v => v = .non
  | .bl b, v => v = .bl b
  | .int i, v => v = .int i
  | .str x, v => v = .str x
  | .tup xs, v => ∃ a vs, v = .ref a ∧ SqT K H a vs ∧ RepDs H xs vs
  | .lst xs, v => ∃ a vs, v = .ref a ∧ Fz K H a vs ∧ RepDs H xs vs
def RepDs (H : Hp) : List D → List V → Prop
  | [], vs => vs = []
  | x :: xs, vs => ∃ v r, vs = v :: r ∧ RepD H x v ∧ RepDs H xs r
end
mutual
def RepR (m : List Addr) (H : Hp) : R → V → Prop
  | .d x, v => RepD K H x v
  | .loc n, v => ∃ a, m[n]? = some a ∧ v = .ref a
  | .ro xs, v => ∃ a vs, v = .ref a ∧ Fz K H a vs ∧ RepDs K H xs vs
  | .tr xs, v => ∃ a vs, v = .ref a ∧ SqT K H a vs ∧ RepRs m H xs vs
  | .ex x, v => ∃ a C, v = .ref a ∧ PySem.W.nsIn K mainGlobals x = some (some (.ref C)) ∧ H a = some (XO C a)
  | .ad a, v => v = .ref a
def RepRs (m : List Addr) (H : Hp) : List R → List V → Prop
  | [], vs => vs = []
  | x :: xs, vs => ∃ v r, vs = v :: r ∧ RepR m H x v ∧ RepRs m H xs r
end
def RepEn (H : Hp) (p : D × D) (e : DictEntry) : Prop := ∃ (b : Addr) (k : NestedKey), e.key = .ref b ∧ keyN p.1 = some k ∧ k.depth ≤ 8 ∧ (∀ w, e.hash = k.hash w) ∧ RepD K H p.1 (.ref b) ∧ ∃ v, RelV v e.val ∧ RepD K H p.2 v
def RepO (H : Hp) (a : Addr) : O → Prop
  | .lst xs => ∃ vs, H a = some (.lst vs) ∧ RepDs K H xs vs
  | .dct ep kvs => ∃ es, H a = some (DX a ep es) ∧ (a == sysModules) = false ∧ kvs.length ≤ sizeLine ∧ Paired (RepEn K H) kvs es ∧ (kvs.map fun p => keyN p.1).Nodup
  | .dk kvs => ∃ ks : List (Key × V), H a = some (.dK ks) ∧ Paired (fun (p : Key × D) (q : Key × V) => q.1 = p.1 ∧ RepD K H p.2 q.2) kvs ks
  | .la b xs => b = a ∧ ∃ vs, H a = some (.lst vs) ∧ RepRs K [] H xs vs
  | .da b kvs => b = a ∧ ∃ ks : List (Key × V), H a = some (.dK ks) ∧ Paired (fun (p : Key × R) (q : Key × V) => q.1 = p.1 ∧ RepR K [] H p.2 q.2) kvs ks
  | .ob b C fs => b = a ∧ ∃ (Ca dx : Addr) (vs : List (Str × V)), PySem.W.nsIn K mainGlobals C = some (some (.ref Ca)) ∧ H a = some (.ins Ca dx vs) ∧ Paired (fun (p : Str × R) (q : Str × V) => q.1 = p.1 ∧ RepR K [] H p.2 q.2) fs vs
structure RepS (m : List Addr) (H : Hp) (S : Sto) : Prop where
  nd : m.Nodup
  len : m.length = S.length
  at_ : ∀ (n : Nat) (o : O), S[n]? = some o → ∃ a, m[n]? = some a ∧ RepO K H a o
structure RepE (m : List Addr) (H : Hp) (r : Rho) (s : L2.St) : Prop where
  len : s.length = r.length
  at_ : ∀ (i : Nat) (x : R), r[i]? = some (some x) → ∃ v, s[i]? = some (some v) ∧ RepR K m H x v
end

structure Grow (m : List Addr) (H : Hp) (m' : List Addr) (H' : Hp) : Prop where
  pre : ∀ (n : Nat) a, m[n]? = some a → m'[n]? = some a
  tup : ∀ b xs, H b = some (.tup xs) → H' b = some (.tup xs)
  frz : ∀ b o u, H b = some (.frz o u) → H' b = some (.frz o u)
  xt : ∀ b C, H b = some (XO C b) → H' b = some (XO C b)
  frame : ∀ b o, H b = some o → b ∉ m → H' b = some o
  new : ∀ b, b ∈ m' → b ∉ m → H b = none

section
variable {K : PySem.W.Frag} {m m1 m2 : List Addr} {H H1 H2 : Hp} {S S1 : Sto} {a b p : Addr} {o : HO}
theorem Grow.refl : Grow m H m H := ⟨fun _ _ h => h, fun _ _ h => h, fun _ _ _ h => h, fun _ _ h => h, fun _ _ h _ => h, fun _ h n => absurd h n⟩
theorem mem_of_pre (h : ∀ (n : Nat) a, m[n]? = some a → m1[n]? = some a) : ∀ a, a ∈ m → a ∈ m1 := fun a ha => by
  obtain ⟨n, hn⟩ := List.getElem?_of_mem ha
  exact List.mem_of_getElem? (h n a hn)
theorem Grow.trans (g : Grow m H m1 H1) (k : Grow m1 H1 m2 H2) : Grow m H m2 H2 := by
  refine ⟨fun n a h => k.pre n a (g.pre n a h), fun b xs h => k.tup b xs (g.tup b xs h), fun b o u h => k.frz b o u (g.frz b o u h), fun b o h => k.xt b o (g.xt b o h), fun b o h hb => ?_, fun b hb hm => ?_⟩
  · refine k.frame b o (g.frame b o h hb) fun hm => ?_
    rw [g.new b hm hb] at h; cases h
  · by_cases h1 : b ∈ m1
    · exact g.new b h1 hm
    · cases e : H b with
      | none => rfl
      | some o => have q := g.frame b o e hm; rw [k.new b hb h1] at q; cases q
theorem rd_tup (g : Grow m H m1 H1) {xs : List V} (h : SqT K H a xs) : SqT K H1 a xs := by
  rcases h with (h | ⟨o, h⟩) | h
  · exact .inl (.inl (g.tup _ _ h))
  · exact .inl (.inr ⟨o, g.frz _ _ _ h⟩)
  · exact .inr h
theorem Fz.grow (g : Grow m H m1 H1) {xs : List V} (h : Fz K H a xs) : Fz K H1 a xs := by
  rcases h with ⟨o, h⟩ | h
  · exact .inl ⟨o, g.frz _ _ _ h⟩
  · exact .inr h
theorem Fz.sq {xs : List V} (h : Fz K H a xs) : SqL K H a xs := by
  rcases h with ⟨o, h⟩ | h
  · exact .inl (.inr ⟨o, h⟩)
  · exact .inr h
mutual
theorem RepD.grow (g : Grow m H m1 H1) : ∀ (x : D) (v : V), RepD K H x v → RepD K H1 x v
  | .non, _, h => h
  | .bl _, _, h => h
  | .int _, _, h => h
  | .str _, _, h => h
  | .tup xs, _, ⟨a, vs, e, h, r⟩ => ⟨a, vs, e, rd_tup g h, RepDs.grow g xs vs r⟩
  | .lst xs, _, ⟨a, vs, e, h, r⟩ => ⟨a, vs, e, h.grow g, RepDs.grow g xs vs r⟩
theorem RepDs.grow (g : Grow m H m1 H1) : ∀ (xs : List D) (vs : List V), RepDs K H xs vs → RepDs K H1 xs vs
  | [], _, h => h
  | x :: xs, _, ⟨v, r, e, h, t⟩ => ⟨v, r, e, RepD.grow g x v h, RepDs.grow g xs r t⟩
end
mutual
theorem RepR.grow (g : Grow m H m1 H1) : ∀ (x : R) (v : V), RepR K m H x v → RepR K m1 H1 x v
  | .d x, v, h => RepD.grow g x v h
  | .loc n, v, ⟨a, h, e⟩ => ⟨a, g.pre n a h, e⟩
  | .ro xs, v, ⟨a, vs, e, h, r⟩ => ⟨a, vs, e, h.grow g, RepDs.grow g xs vs r⟩
  | .tr xs, v, ⟨a, vs, e, h, r⟩ => ⟨a, vs, e, rd_tup g h, RepRs.grow g xs vs r⟩
  | .ex x, v, ⟨a, C, e, n, h⟩ => ⟨a, C, e, n, g.xt _ _ h⟩
  | .ad _, _, h => h
theorem RepRs.grow (g : Grow m H m1 H1) : ∀ (xs : List R) (vs : List V), RepRs K m H xs vs → RepRs K m1 H1 xs vs
  | [], _, h => h
  | x :: xs, _, ⟨v, r, e, h, t⟩ => ⟨v, r, e, RepR.grow g x v h, RepRs.grow g xs r t⟩
end
mutual
theorem RepR.conv (pre : ∀ (n : Nat) a, m[n]? = some a → m1[n]? = some a) (kd : ∀ x v, RepD K H x v → RepD K H1 x v) (kt : ∀ b xs, H b = some (.tup xs) → H1 b = some (.tup xs)) (kf : ∀ b o u, H b = some (.frz o u) → H1 b = some (.frz o u)) (kx : ∀ b C, H b = some (XO C b) → H1 b = some (XO C b)) : ∀ (x : R) (v : V), RepR K m H x v → RepR K m1 H1 x v
  | .d x, v, h => kd x v h
  | .loc n, v, ⟨a, h, e⟩ => ⟨a, pre n a h, e⟩
  | .ro xs, v, ⟨a, vs, e, h, r⟩ => by
    obtain ⟨a2, vs2, e2, h2, r2⟩ := kd (.lst xs) v ⟨a, vs, e, h, r⟩
    exact ⟨a2, vs2, e2, h2, r2⟩
  | .tr xs, v, ⟨a, vs, e, h, r⟩ => ⟨a, vs, e, (by
    rcases h with (h | ⟨o, h⟩) | h
    · exact .inl (.inl (kt _ _ h))
    · exact .inl (.inr ⟨o, kf _ _ _ h⟩)
    · exact .inr h), RepRs.conv pre kd kt kf kx xs vs r⟩
  | .ex x, v, ⟨a, C, e, n, h⟩ => ⟨a, C, e, n, kx _ _ h⟩
  | .ad _, _, h => h
theorem RepRs.conv (pre : ∀ (n : Nat) a, m[n]? = some a → m1[n]? = some a) (kd : ∀ x v, RepD K H x v → RepD K H1 x v) (kt : ∀ b xs, H b = some (.tup xs) → H1 b = some (.tup xs)) (kf : ∀ b o u, H b = some (.frz o u) → H1 b = some (.frz o u)) (kx : ∀ b C, H b = some (XO C b) → H1 b = some (XO C b)) : ∀ (xs : List R) (vs : List V), RepRs K m H xs vs → RepRs K m1 H1 xs vs
  | [], _, h => h
  | x :: xs, _, ⟨v, r, e, h, t⟩ => ⟨v, r, e, RepR.conv pre kd kt kf kx x v h, RepRs.conv pre kd kt kf kx xs r t⟩
end
theorem RepR.grow0 (g : Grow m H m1 H1) (x : R) (v : V) (h : RepR K [] H x v) : RepR K [] H1 x v := RepR.conv (fun _ _ h => h) (fun x v => RepD.grow g x v) g.tup g.frz g.xt x v h
theorem RepE.grow (g : Grow m H m1 H1) {r : Rho} {s : L2.St} (h : RepE K m H r s) : RepE K m1 H1 r s :=
  ⟨h.len, fun i x e => let ⟨v, e1, q⟩ := h.at_ i x e; ⟨v, e1, RepR.grow g x v q⟩⟩
theorem RepDs.len : ∀ {xs : List D} {vs : List V}, RepDs K H xs vs → vs.length = xs.length
  | [], _, h => by cases h; rfl
  | x :: xs, _, ⟨v, r, e, _, t⟩ => by subst e; simp [RepDs.len t]
theorem RepRs.len : ∀ {xs : List R} {vs : List V}, RepRs K m H xs vs → vs.length = xs.length
  | [], _, h => by cases h; rfl
  | x :: xs, _, ⟨v, r, e, _, t⟩ => by subst e; simp [RepRs.len t]
theorem RepDs.get : ∀ {xs : List D} {vs : List V} {i : Nat} {x : D}, RepDs K H xs vs → xs[i]? = some x → ∃ v, vs[i]? = some v ∧ RepD K H x v
  | [], _, _, _, _, e => by simp at e
  | x :: xs, _, 0, _, ⟨v, r, e, h, t⟩, q => by subst e; simp at q; subst q; exact ⟨v, rfl, h⟩
  | x :: xs, _, i + 1, y, ⟨v, r, e, h, t⟩, q => by
    subst e
    obtain ⟨u, h1, h2⟩ := RepDs.get (i := i) (x := y) t (by simpa using q)
    exact ⟨u, by simpa using h1, h2⟩
theorem RepRs.get : ∀ {xs : List R} {vs : List V} {i : Nat} {x : R}, RepRs K m H xs vs → xs[i]? = some x → ∃ v, vs[i]? = some v ∧ RepR K m H x v
  | [], _, _, _, _, e => by simp at e
  | x :: xs, _, 0, _, ⟨v, r, e, h, t⟩, q => by subst e; simp at q; subst q; exact ⟨v, rfl, h⟩
  | x :: xs, _, i + 1, y, ⟨v, r, e, h, t⟩, q => by
    subst e
    obtain ⟨u, h1, h2⟩ := RepRs.get (i := i) (x := y) t (by simpa using q)
    exact ⟨u, by simpa using h1, h2⟩
theorem RepDs.app : ∀ {xs ys : List D} {vs us : List V}, RepDs K H xs vs → RepDs K H ys us → RepDs K H (xs ++ ys) (vs ++ us)
  | [], _, _, _, h, k => by cases h; exact k
  | x :: xs, _, _, _, ⟨v, r, e, h, t⟩, k => by subst e; exact ⟨v, r ++ _, rfl, h, RepDs.app t k⟩
theorem RepDs.take : ∀ {xs : List D} {vs : List V} (n : Nat), RepDs K H xs vs → RepDs K H (xs.take n) (vs.take n)
  | _, _, 0, h => by simp [RepDs]
  | [], _, n + 1, h => by cases h; simp [RepDs]
  | x :: xs, _, n + 1, ⟨v, r, e, h, t⟩ => by subst e; exact ⟨v, r.take n, rfl, h, RepDs.take n t⟩
theorem RepDs.drop : ∀ {xs : List D} {vs : List V} (n : Nat), RepDs K H xs vs → RepDs K H (xs.drop n) (vs.drop n)
  | _, _, 0, h => by simpa using h
  | [], _, n + 1, h => by cases h; simp [RepDs]
  | x :: xs, _, n + 1, ⟨v, r, e, h, t⟩ => by subst e; simpa using RepDs.drop n t
theorem RepDs.set : ∀ {xs : List D} {vs : List V} {y : D} {u : V} (n : Nat), RepDs K H xs vs → RepD K H y u → RepDs K H (xs.set n y) (vs.set n u)
  | [], _, _, _, n, h, k => by cases h; simp [RepDs]
  | x :: xs, _, _, _, 0, ⟨v, r, e, h, t⟩, k => by subst e; exact ⟨_, r, rfl, k, t⟩
  | x :: xs, _, _, _, n + 1, ⟨v, r, e, h, t⟩, k => by subst e; exact ⟨v, _, rfl, h, RepDs.set n t k⟩
theorem RepDs.one {x : D} {v : V} (h : RepD K H x v) : RepDs K H [x] [v] := ⟨v, [], rfl, h, rfl⟩
/-- a row of values that are all data -/
def dats : List R → Option (List D)
  | [] => some []
  | .d x :: r => (dats r).map (x :: ·)
  | _ :: _ => none
theorem RepRs.dats : ∀ {xs : List R} {vs : List V} {ds : List D}, RepRs K m H xs vs → dats xs = some ds → RepDs K H ds vs
  | [], _, _, h, e => by simp [Z.dats] at e; subst e; exact h
  | .d x :: xs, _, ds, ⟨v, r, e1, h, t⟩, e => by
    simp only [Z.dats, Option.map_eq_some_iff] at e
    obtain ⟨ds', e2, rfl⟩ := e
    exact ⟨v, r, e1, h, RepRs.dats t e2⟩
  | .loc _ :: _, _, _, _, e => by cases e
  | .ro _ :: _, _, _, _, e => by cases e
  | .tr _ :: _, _, _, _, e => by cases e
  | .ex _ :: _, _, _, _, e => by cases e
  | .ad _ :: _, _, _, _, e => by cases e

theorem RepO.some {o : O} (h : RepO K H a o) : ∃ u, H a = some u := by
  cases o with
  | lst xs => obtain ⟨vs, e, _⟩ := h; exact ⟨_, e⟩
  | dct ep kvs => obtain ⟨vs, e, _⟩ := h; exact ⟨_, e⟩
  | dk kvs => obtain ⟨vs, e, _⟩ := h; exact ⟨_, e⟩
  | la b xs => obtain ⟨_, vs, e, _⟩ := h; exact ⟨_, e⟩
  | da b xs => obtain ⟨_, vs, e, _⟩ := h; exact ⟨_, e⟩
  | ob b C xs => obtain ⟨_, _, _, vs, _, e, _⟩ := h; exact ⟨_, e⟩
theorem RepS.tracked (r : RepS K m H S) (h : a ∈ m) : ∃ (n : Nat) (o : O), m[n]? = some a ∧ S[n]? = some o ∧ RepO K H a o := by
  obtain ⟨n, hn⟩ := List.getElem?_of_mem h
  have hl : n < m.length := (List.getElem?_eq_some_iff.mp hn).1
  have hs : n < S.length := by rw [← r.len]; exact hl
  obtain ⟨a', h1, h2⟩ := r.at_ n S[n] (List.getElem?_eq_getElem hs)
  rw [hn] at h1; cases h1
  exact ⟨n, _, hn, List.getElem?_eq_getElem hs, h2⟩
theorem RepS.notmem (r : RepS K m H S) (h : H p = none) : p ∉ m := fun hp => by
  obtain ⟨n, o, _, _, q⟩ := r.tracked hp
  obtain ⟨u, e⟩ := q.some
  rw [e] at h; cases h
theorem Grow.alloc (h : H p = none) : Grow m H m (upd H p o) :=
  ⟨fun _ _ e => e, fun b xs e => by rw [upd_ne (ne_of_none e h)]; exact e, fun b ob u e => by rw [upd_ne (ne_of_none e h)]; exact e, fun b u e => by rw [upd_ne (ne_of_none e h)]; exact e, fun b u e _ => by rw [upd_ne (ne_of_none e h)]; exact e, fun _ h n => absurd h n⟩
theorem RepDs.via (f : ∀ x v, RepD K H x v → RepD K H1 x v) : ∀ (xs : List D) (vs : List V), RepDs K H xs vs → RepDs K H1 xs vs
  | [], _, h => h
  | x :: xs, _, ⟨v, r, e, h, t⟩ => ⟨v, r, e, f x v h, RepDs.via f xs r t⟩
theorem RepEn.via (f : ∀ x v, RepD K H x v → RepD K H1 x v) {p : D × D} {e : DictEntry} (h : RepEn K H p e) : RepEn K H1 p e := by
  obtain ⟨b, k, h1, h2, h3, h4, h5, v, h6, h7⟩ := h
  exact ⟨b, k, h1, h2, h3, h4, f _ _ h5, v, h6, f _ _ h7⟩
/-- what stands at an address, where all data stays -/
theorem RepRs.via (f : ∀ x v, RepR K m H x v → RepR K m1 H1 x v) : ∀ (xs : List R) (vs : List V), RepRs K m H xs vs → RepRs K m1 H1 xs vs
  | [], _, h => h
  | x :: xs, _, ⟨v, r, e, h, t⟩ => ⟨v, r, e, f x v h, RepRs.via f xs r t⟩
theorem RepO.via {o : O} (f0 : ∀ x v, RepR K [] H x v → RepR K [] H1 x v) (h : RepO K H a o) (e : H1 a = H a) : RepO K H1 a o := by
  have f : ∀ x v, RepD K H x v → RepD K H1 x v := fun x v h => f0 (.d x) v h
  cases o with
  | la b xs => obtain ⟨h0, vs, e1, r⟩ := h; exact ⟨h0, vs, by rw [e]; exact e1, RepRs.via f0 xs vs r⟩
  | da b kvs => obtain ⟨h0, ks, e1, r⟩ := h; exact ⟨h0, ks, by rw [e]; exact e1, Paired.mapP r fun _ _ z => ⟨z.1, f0 _ _ z.2⟩⟩
  | ob b C fs => obtain ⟨h0, Ca, dx, vs, n, e1, r⟩ := h; exact ⟨h0, Ca, dx, vs, n, by rw [e]; exact e1, Paired.mapP r fun _ _ z => ⟨z.1, f0 _ _ z.2⟩⟩
  | lst xs => obtain ⟨vs, e1, r⟩ := h; exact ⟨vs, by rw [e]; exact e1, RepDs.via f xs vs r⟩
  | dct ep kvs => obtain ⟨es, e1, h2, h3, r, h4⟩ := h; exact ⟨es, by rw [e]; exact e1, h2, h3, Paired.mapP r fun _ _ z => z.via f, h4⟩
  | dk kvs => obtain ⟨ks, e1, r⟩ := h; exact ⟨ks, by rw [e]; exact e1, Paired.mapP r fun _ _ z => ⟨z.1, f _ _ z.2⟩⟩
theorem RepO.grow {o : O} (g : Grow m H m1 H1) (h : RepO K H a o) (e : H1 a = H a) : RepO K H1 a o := h.via (fun x v => RepR.grow0 g x v) e
theorem RepS.alloc (r : RepS K m H S) (h : H p = none) : RepS K m (upd H p o) S :=
  ⟨r.nd, r.len, fun n ob e => by
    obtain ⟨a, h1, h2⟩ := r.at_ n ob e
    obtain ⟨u, e2⟩ := h2.some
    exact ⟨a, h1, h2.grow (Grow.alloc (m := m) h) (upd_ne (ne_of_none e2 h))⟩⟩
/-- what stands at an address of no number yet is given the next number -/
theorem RepS.pushO (r : RepS K m H S) (hp : p ∉ m) {o : O} (h : RepO K H p o) : RepS K (m ++ [p]) H (S ++ [o]) := by
  refine ⟨?_, by simp [r.len], fun n ob e1 => ?_⟩
  · rw [List.nodup_append]
    exact ⟨r.nd, by simp, fun a ha b hb => by simp at hb; subst hb; exact fun q => hp (q ▸ ha)⟩
  · by_cases hn : n < S.length
    · rw [List.getElem?_append_left hn] at e1
      obtain ⟨a, h1, h2⟩ := r.at_ n ob e1
      exact ⟨a, by rw [List.getElem?_append_left (by rw [r.len]; exact hn)]; exact h1, h2⟩
    · rw [List.getElem?_append_right (by omega)] at e1
      by_cases h0 : n = S.length
      · subst h0
        simp at e1
        subst e1
        exact ⟨p, by rw [← r.len]; simp, h⟩
      · have : 0 < n - S.length := by omega
        rw [List.getElem?_eq_none (by simp; omega)] at e1; cases e1
theorem RepS.push (r : RepS K m H S) (hp : p ∉ m) {xs : List D} {vs : List V} (e : H p = some (.lst vs)) (h : RepDs K H xs vs) : RepS K (m ++ [p]) H (S ++ [.lst xs]) := r.pushO hp ⟨vs, e, h⟩
theorem Grow.push (h : H p = none) (g : Grow m H m1 H1) : Grow m H (m1 ++ [p]) H1 :=
  ⟨fun n a e => by rw [List.getElem?_append_left (List.getElem?_eq_some_iff.mp (g.pre n a e)).1]; exact g.pre n a e, g.tup, g.frz, g.xt, g.frame, fun b hb hn => by
    rcases List.mem_append.mp hb with q | q
    · exact g.new b q hn
    · simp at q; subst q; exact h⟩
/-- what can be written: it is no tuple, nothing locked, no exception -/
def Wr (p : Addr) (u : HO) : Prop := (∀ xs, u ≠ .tup xs) ∧ (∀ o v, u ≠ .frz o v) ∧ ∀ C, u ≠ XO C p
theorem wr_lst {vs : List V} : Wr p (.lst vs) := ⟨fun _ => (nomatch ·), fun _ _ => (nomatch ·), fun _ => (nomatch ·)⟩
theorem wr_dK {ks : List (Key × V)} : Wr p (.dK ks) := ⟨fun _ => (nomatch ·), fun _ _ => (nomatch ·), fun _ => (nomatch ·)⟩
theorem wr_dx {ep : Nat} {es : List DictEntry} : Wr p (DX p ep es) := ⟨fun _ => (nomatch ·), fun _ _ => (nomatch ·), fun _ e => xo_dx e.symm⟩
theorem Grow.writeO {n : Nat} {u u' : HO} (hn : m[n]? = some p) (e : H p = some u) (w : Wr p u) : Grow m H m (upd H p u') := by
  obtain ⟨w1, w2, w3⟩ := w
  refine ⟨fun _ _ e => e, fun b xs e1 => ?_, fun b ob v e1 => ?_, fun b C e1 => ?_, fun b v e1 hb => by rw [upd_ne (fun q => hb (by rw [show b = p from q]; exact List.mem_of_getElem? hn))]; exact e1, fun _ h n => absurd h n⟩
  · rw [upd_ne (ne_of e1 e (w1 xs).symm)]; exact e1
  · rw [upd_ne (ne_of e1 e (w2 ob v).symm)]; exact e1
  · by_cases hb : b = p
    · subst hb; rw [e] at e1; exact absurd (Option.some.inj e1) (w3 C)
    · rw [upd_ne hb]; exact e1
theorem RepS.writeO (r : RepS K m H S) {n : Nat} {u u' : HO} {o : O} (hn : m[n]? = some p) (e : H p = some u) (w : Wr p u) (h : RepO K (upd H p u') p o) : RepS K m (upd H p u') (S.set n o) := by
  have g : Grow m H m (upd H p u') := Grow.writeO hn e w
  refine ⟨r.nd, by simp [r.len], fun k ob e1 => ?_⟩
  by_cases hk : n = k
  · subst hk
    have hl : n < S.length := by rw [← r.len]; exact (List.getElem?_eq_some_iff.mp hn).1
    rw [List.getElem?_set_self hl] at e1
    cases e1
    exact ⟨p, hn, h⟩
  · rw [List.getElem?_set_ne hk] at e1
    obtain ⟨a, h1, h2⟩ := r.at_ k ob e1
    refine ⟨a, h1, h2.grow g (upd_ne fun q => ?_)⟩
    subst q
    obtain ⟨l1, e2⟩ := List.getElem?_eq_some_iff.mp hn
    obtain ⟨l2, e3⟩ := List.getElem?_eq_some_iff.mp h1
    exact hk ((List.getElem_inj r.nd).mp (e2.trans e3.symm))
theorem Grow.write {n : Nat} {vs vs' : List V} (hn : m[n]? = some p) (e : H p = some (.lst vs)) : Grow m H m (upd H p (.lst vs')) := Grow.writeO hn e wr_lst
theorem RepS.write (r : RepS K m H S) {n : Nat} {vs vs' : List V} {xs : List D} (hn : m[n]? = some p) (e : H p = some (.lst vs)) (h : RepDs K H xs vs') : RepS K m (upd H p (.lst vs')) (S.set n (.lst xs)) :=
  r.writeO hn e wr_lst ⟨vs', upd_same, RepDs.grow (Grow.writeO (m := m) hn e wr_lst) xs vs' h⟩
theorem Grow.fresh (g : Grow m H m1 H1) (r : RepS K m1 H1 S) (h : H1 p = none) : H p = none := by
  cases e : H p with
  | none => rfl
  | some u =>
    have n1 : p ∉ m1 := r.notmem h
    have := g.frame p u e (fun hp => n1 (mem_of_pre g.pre p hp))
    rw [h] at this; cases this
/-! ### a new list that nobody will write -/
mutual
theorem RepD.keep (kt : ∀ b xs, H b = some (.tup xs) → H1 b = some (.tup xs)) (kf : ∀ b o u, H b = some (.frz o u) → H1 b = some (.frz o u)) : ∀ (x : D) (v : V), RepD K H x v → RepD K H1 x v
  | .non, _, h => h
  | .bl _, _, h => h
  | .int _, _, h => h
  | .str _, _, h => h
  | .tup xs, _, ⟨a, vs, e, h, r⟩ => ⟨a, vs, e, (by
    rcases h with (h | ⟨o, h⟩) | h
    · exact .inl (.inl (kt _ _ h))
    · exact .inl (.inr ⟨o, kf _ _ _ h⟩)
    · exact .inr h), RepDs.keep kt kf xs vs r⟩
  | .lst xs, _, ⟨a, vs, e, h, r⟩ => ⟨a, vs, e, (by
    rcases h with ⟨o, h⟩ | h
    · exact .inl ⟨o, kf _ _ _ h⟩
    · exact .inr h), RepDs.keep kt kf xs vs r⟩
theorem RepDs.keep (kt : ∀ b xs, H b = some (.tup xs) → H1 b = some (.tup xs)) (kf : ∀ b o u, H b = some (.frz o u) → H1 b = some (.frz o u)) : ∀ (xs : List D) (vs : List V), RepDs K H xs vs → RepDs K H1 xs vs
  | [], _, h => h
  | x :: xs, _, ⟨v, r, e, h, t⟩ => ⟨v, r, e, RepD.keep kt kf x v h, RepDs.keep kt kf xs r t⟩
end
theorem kt_fz {vs : List V} {od : Obj} (e : H a = some (.lst vs)) : ∀ b xs, H b = some (.tup xs) → upd H a (.frz od (.lst vs)) b = some (.tup xs) := fun b xs h => by
  rw [upd_ne (ne_of h e (fun q => nomatch q))]; exact h
theorem kf_fz {vs : List V} {od : Obj} (e : H a = some (.lst vs)) : ∀ b o u, H b = some (.frz o u) → upd H a (.frz od (.lst vs)) b = some (.frz o u) := fun b o u h => by
  rw [upd_ne (ne_of h e (fun q => nomatch q))]; exact h
theorem RepS.frz (r : RepS K m H S) {vs : List V} {od : Obj} (ha : a ∉ m) (e : H a = some (.lst vs)) : RepS K m (upd H a (.frz od (.lst vs))) S :=
  ⟨r.nd, r.len, fun n ob e1 => by
    obtain ⟨b, h1, h2⟩ := r.at_ n ob e1
    refine ⟨b, h1, ?_⟩
    have hb : b ≠ a := fun q => ha (q ▸ List.mem_of_getElem? h1)
    exact h2.via (fun x v => RepR.conv (fun _ _ h => h) (fun x v => RepD.keep (kt_fz e) (kf_fz e) x v) (kt_fz e) (kf_fz e) (fun b C h => by rw [upd_ne (ne_of h e (fun q => nomatch q))]; exact h) x v) (upd_ne hb)⟩
theorem Grow.frz_new (g : Grow m H m1 H1) {vs : List V} {od : Obj} (h0 : H a = none) (e : H1 a = some (.lst vs)) : Grow m H m1 (upd H1 a (.frz od (.lst vs))) :=
  ⟨g.pre, fun b xs h => kt_fz e b xs (g.tup b xs h), fun b o u h => kf_fz e b o u (g.frz b o u h), fun b φ h => by rw [upd_ne (ne_of (g.xt b φ h) e (fun q => nomatch q))]; exact g.xt b φ h, fun b o h hb => by rw [upd_ne (ne_of_none h h0)]; exact g.frame b o h hb, g.new⟩
end
end Z

set_option Elab.async false
set_option linter.all false
set_option maxRecDepth 100000
/-! Z2: expressions over trees and a store; each rule is the hand layer's own, read there. -/
namespace Z
open PySem PySem.Spec PyProof.Rows L2

/-- what an expression hands on: a value, or a new list that stands at no number yet -/
inductive SV where
  | r (x : R) | f (xs : List D)
abbrev PK1 := SV → Sto → Prop
abbrev PE1 := Rho → Sto → PK1 → Prop
abbrev PT1 := Rho → Sto → (Bool → Sto → Prop) → Prop
abbrev PA1 := Rho → Sto → (List SV → Sto → Prop) → Prop

def RepV (K : PySem.W.Frag) (m : List Addr) (H H0 : Hp) : SV → V → Prop
  | .r x, v => RepR K m H x v
  | .f xs, v => ∃ a vs, v = .ref a ∧ H a = some (.lst vs) ∧ a ∉ m ∧ H0 a = none ∧ RepDs K H xs vs
def RepVs (K : PySem.W.Frag) (m : List Addr) (H H0 : Hp) : List SV → List V → Prop
  | [], vs => vs = []
  | x :: xs, vs => ∃ v r, vs = v :: r ∧ RepV K m H H0 x v ∧ RepVs K m H H0 xs r
section
variable {K : PySem.W.Frag} {m m1 m2 : List Addr} {H H0 H1 H2 : Hp} {S S1 S2 : Sto} {W : PK1} {Q : VK}
theorem RepV.grow (g : Grow m H m1 H1) {x : SV} {v : V} (h : RepV K m H H0 x v) : RepV K m1 H1 H0 x v := by
  cases x with
  | r x => exact RepR.grow g x v h
  | f xs =>
    obtain ⟨a, vs, e, h1, h2, h3, h4⟩ := h
    exact ⟨a, vs, e, g.frame a _ h1 h2, fun q => (by rw [g.new a q h2] at h1; cases h1), h3, RepDs.grow g xs vs h4⟩
theorem RepVs.grow (g : Grow m H m1 H1) : ∀ {xs : List SV} {vs : List V}, RepVs K m H H0 xs vs → RepVs K m1 H1 H0 xs vs
  | [], _, h => h
  | x :: xs, _, ⟨v, r, e, h, t⟩ => ⟨v, r, e, h.grow g, RepVs.grow g t⟩
/-- a fresh thing of a later start is one of the first start -/
theorem RepV.back (g : Grow m H m1 H1) (r : RepS K m1 H1 S) {x : SV} {v : V} (h : RepV K m2 H2 H1 x v) : RepV K m2 H2 H x v := by
  cases x with
  | r x => exact h
  | f xs => obtain ⟨a, vs, e, h1, h2, h3, h4⟩ := h; exact ⟨a, vs, e, h1, h2, g.fresh r h3, h4⟩
/-- what is wanted behind -/
def Fin (K : PySem.W.Frag) (m : List Addr) (H : Hp) (W : PK1) (Q : VK) : Prop :=
  ∀ x S' v m' H', W x S' → Grow m H m' H' → RepS K m' H' S' → RepV K m' H' H x v → Q v H'
theorem Fin.later (f : Fin K m H W Q) (g : Grow m H m1 H1) (r : RepS K m1 H1 S1) : Fin K m1 H1 W Q :=
  fun x S' v m' H' w g' r' q => f x S' v m' H' w (g.trans g') r' (q.back g r)
theorem Fin.here (f : Fin K m H W Q) (r : RepS K m H S) {x : SV} {v : V} (q : RepV K m H H x v) (w : W x S) : Q v H := f x S v m H w Grow.refl r q
/-- a new tuple -/
theorem Fin.tup (f : Fin K m H W Q) (r : RepS K m H S) {xs : List D} {vs : List V} (h : RepDs K H xs vs) (w : W (.r (.d (.tup xs))) S) : ∀ p, H p = none → Q (.ref p) (upd H p (.tup vs)) := fun p hp =>
  f _ S _ m _ w (Grow.alloc hp) (r.alloc hp) ⟨p, vs, rfl, .inl (.inl upd_same), RepDs.grow (m := m) (m1 := m) (Grow.alloc hp) xs vs h⟩
/-- a new list -/
theorem Fin.lst (f : Fin K m H W Q) (r : RepS K m H S) {xs : List D} {vs : List V} (h : RepDs K H xs vs) (w : W (.f xs) S) : ∀ p, H p = none → Q (.ref p) (upd H p (.lst vs)) := fun p hp =>
  f _ S _ m _ w (Grow.alloc hp) (r.alloc hp) ⟨p, vs, rfl, upd_same, r.notmem hp, hp, RepDs.grow (m := m) (m1 := m) (Grow.alloc hp) xs vs h⟩
end

def up (K : PySem.W.Frag) (w : PE1) : TE := fun s H Q => ∃ m r S W, RepE K m H r s ∧ RepS K m H S ∧ w r S W ∧ Fin K m H W Q
def upT (K : PySem.W.Frag) (w : PT1) : TT := fun s H Q => ∃ m r S W, RepE K m H r s ∧ RepS K m H S ∧ w r S W ∧ ∀ b S' m' H', W b S' → Grow m H m' H' → RepS K m' H' S' → Q b H'
def upA (K : PySem.W.Frag) (w : PA1) : TA := fun s H Q => ∃ m r S W, RepE K m H r s ∧ RepS K m H S ∧ w r S W ∧ ∀ xs S' vs m' H', W xs S' → Grow m H m' H' → RepS K m' H' S' → RepVs K m' H' H xs vs → Q vs H'
structure WE (X : Cx) (e : Expr) (w : PE1) : Prop where
  pe : PE X e (up X.K w)
structure WT (X : Cx) (e : Expr) (w : PT1) : Prop where
  pt : PT X e (upT X.K w)
structure WA (X : Cx) (es : List Expr) (w : PA1) : Prop where
  pa : PA X es (upA X.K w)
section
variable {X : Cx} {e a b c : Expr} {es : List Expr} {pos : Pos} {wa wb wc : PE1} {was : PA1}
theorem peImp {t t' : TE} (h : PE X e t) (k : ∀ s H Q, t' s H Q → t s H Q) : PE X e t' := ⟨fun pins s z H Q I q => h.run pins s z H Q I (k _ _ _ q)⟩
theorem ptImp {t t' : TT} (h : PT X e t) (k : ∀ s H Q, t' s H Q → t s H Q) : PT X e t' := ⟨fun pins s z H Q I q => h.run pins s z H Q I (k _ _ _ q)⟩
theorem paImp {t t' : TA} (h : PA X es t) (k : ∀ s H Q, t' s H Q → t s H Q) : PA X es t' := ⟨fun pos pins s z H Q I q => h.run pos pins s z H Q I (k _ _ _ q)⟩

/-! ### names, constants -/
abbrev wVar (i : Nat) : PE1 := fun r S W => match r[i]? with
  | some (some x) => W (.r x) S
  | _ => False
abbrev wC (x : D) : PE1 := fun _ S W => W (.r (.d x)) S
theorem we_var (i : Nat) {x : Str} {pos : Pos} (h : PE X (.Name x pos) (tVar i)) : WE X (.Name x pos) (wVar i) := ⟨peImp h fun s H Q ⟨m, r, S, W, hE, hS, hw, hf⟩ => by
  unfold wVar at hw
  split at hw
  · rename_i x e
    obtain ⟨v, e1, q⟩ := hE.at_ i x e
    exact ⟨v, e1, hf.here hS (x := .r x) q hw⟩
  · exact hw.elim⟩
theorem we_c {v : V} {x : D} (h : PE X e (tC v)) (k : ∀ H, RepD X.K H x v) : WE X e (wC x) := ⟨peImp h fun s H Q ⟨m, r, S, W, hE, hS, hw, hf⟩ => hf.here hS (x := .r (.d x)) (k H) hw⟩
theorem we_int {i : Int} {k pos} : WE X (.Constant (.int i) k pos) (wC (.int i)) := we_c pe_int fun _ => rfl
theorem we_bl {b k pos} : WE X (.Constant (.bool b) k pos) (wC (.bl b)) := we_c pe_bl fun _ => rfl
theorem we_non {k pos} : WE X (.Constant .none k pos) (wC .non) := we_c pe_non fun _ => rfl
theorem we_str {x k pos} : WE X (.Constant (.str x) k pos) (wC (.str x)) := we_c pe_str fun _ => rfl

/-! ### operators of two values -/
abbrev P2 := SV → SV → Sto → PK1 → Prop
def OpP (X : Cx) (f : Value → Value → Sem Value) (rp : P2) : Prop :=
  ∃ r : R2, OpR X f r ∧ ∀ x y S W v u m H H0 Q, RepS X.K m H S → RepV X.K m H H0 x v → RepV X.K m H H0 y u → rp x y S W → Fin X.K m H W Q → r v u H Q
theorem OpP.or {f : Value → Value → Sem Value} {p q : P2} (h : OpP X f p) (k : OpP X f q) : OpP X f (fun x y S W => p x y S W ∨ q x y S W) := by
  obtain ⟨r, h1, h2⟩ := h
  obtain ⟨t, k1, k2⟩ := k
  refine ⟨_, h1.or k1, fun x y S W v u m H H0 Q a b c d e => ?_⟩
  rcases d with d | d
  · exact .inl (h2 x y S W v u m H H0 Q a b c d e)
  · exact .inr (k2 x y S W v u m H H0 Q a b c d e)
theorem OpP.imp {f : Value → Value → Sem Value} {p q : P2} (h : OpP X f p) (k : ∀ x y S W, q x y S W → p x y S W) : OpP X f q := by
  obtain ⟨r, h1, h2⟩ := h
  exact ⟨r, h1, fun x y S W v u m H H0 Q a b c d e => h2 x y S W v u m H H0 Q a b c (k _ _ _ _ d) e⟩
abbrev wBin (rp : P2) (wa wb : PE1) : PE1 := fun r S W => wa r S fun x S1 => wb r S1 fun y S2 => rp x y S2 W
/-- two expressions in a row -/
theorem up2 {K : PySem.W.Frag} {s : L2.St} {H : Hp} {R : V → V → Hp → Prop} {m : List Addr} {r : Rho} {S : Sto} {Z : SV → SV → Sto → Prop} (hE : RepE K m H r s) (hS : RepS K m H S)
    (hw : wa r S fun x S1 => wb r S1 fun y S2 => Z x y S2)
    (h : ∀ x y S2 v u m2 H2, Z x y S2 → Grow m H m2 H2 → RepS K m2 H2 S2 → RepV K m2 H2 H x v → RepV K m2 H2 H y u → R v u H2) :
    up K wa s H fun v H1 => up K wb s H1 fun u H2 => R v u H2 :=
  ⟨m, r, S, _, hE, hS, hw, fun x S1 v m1 H1 h1 g1 r1 q1 => ⟨m1, r, S1, _, hE.grow g1, r1, h1, fun y S2 u m2 H2 h2 g2 r2 q2 => h x y S2 v u m2 H2 h2 (g1.trans g2) r2 (q1.grow g2) (q2.back g1 r1)⟩⟩
theorem op2 {f : Value → Value → Sem Value} {rp : P2} (ho : OpP X f rp) : ∃ r : R2, OpR X f r ∧ ∀ s H Q, up X.K (wBin rp wa wb) s H Q → tOp r (up X.K wa) (up X.K wb) s H Q := by
  obtain ⟨r, h1, h2⟩ := ho
  refine ⟨r, h1, fun s H Q ⟨m, ρ, S, W, hE, hS, hw, hf⟩ => up2 hE hS hw fun x y S2 v u m2 H2 z g2 r2 qx qy => ?_⟩
  exact h2 x y S2 W v u m2 H2 H Q r2 qx qy z (hf.later g2 r2)
theorem we_bin {op : Operator} {rp : P2} (ho : OpP X (binaryOp op) rp) (ha : WE X a wa) (hb : WE X b wb) : WE X (.BinOp a op b pos) (wBin rp wa wb) := by
  obtain ⟨r, h1, h2⟩ := op2 (wa := wa) (wb := wb) ho
  exact ⟨peImp (pe_op h1 ha.pe hb.pe) h2⟩
theorem we_cmp {op : CmpOp} {rp : P2} (ho : OpP X (compareOp op) rp) (ha : WE X a wa) (hb : WE X b wb) (hm : behindInMarks op b = false) : WE X (.Compare a [op] [b] pos) (wBin rp wa wb) := by
  obtain ⟨r, h1, h2⟩ := op2 (wa := wa) (wb := wb) ho
  exact ⟨peImp (pe_cmpR h1 ha.pe hb.pe hm) h2⟩
/-- a value that is a truth, as a test -/
abbrev wTest (w : PE1) : PT1 := fun r S W => w r S fun x S1 => match x with
  | .r (.d (.bl b)) => W b S1
  | _ => False
theorem upT_of {K : PySem.W.Frag} {w : PE1} {t : TE} (h : ∀ s H Q, up K w s H Q → t s H Q) : ∀ s H Q, upT K (wTest w) s H Q → tTest t s H Q := fun s H Q ⟨m, r, S, W, hE, hS, hw, hf⟩ => by
  refine h s H _ ⟨m, r, S, _, hE, hS, hw, fun x S' v m' H' hx g r' q => ?_⟩
  split at hx
  · rename_i b
    exact ⟨b, q, hf b S' m' H' hx g r'⟩
  · exact hx.elim
theorem wt_cmp {op : CmpOp} {rp : P2} (ho : OpP X (compareOp op) rp) (ha : WE X a wa) (hb : WE X b wb) (hm : behindInMarks op b = false) : WT X (.Compare a [op] [b] pos) (wTest (wBin rp wa wb)) := by
  obtain ⟨r, h1, h2⟩ := op2 (wa := wa) (wb := wb) ho
  exact ⟨ptImp (pt_cmpR h1 ha.pe hb.pe hm) (upT_of h2)⟩
theorem wt_val (ha : WE X a wa) (he : ∀ whole, isTrue a X.env whole = (do let v ← whole; standAt a.pos; holding [v] (truthy v)) := by intro _; rfl) : WT X a (wTest wa) :=
  ⟨ptImp (pt_val ha.pe he) (upT_of fun _ _ _ h => h)⟩
/-- the operators of one value -/
abbrev P1 := SV → Sto → PK1 → Prop
def UnP (X : Cx) (f : Value → Sem Value) (rp : P1) : Prop :=
  ∃ r : V → Hp → VK → Prop, UnR X f r ∧ ∀ x S W v m H H0 Q, RepS X.K m H S → RepV X.K m H H0 x v → rp x S W → Fin X.K m H W Q → r v H Q
abbrev wUn (rp : P1) (wa : PE1) : PE1 := fun r S W => wa r S fun x S1 => rp x S1 W
theorem up1 {K : PySem.W.Frag} {s : L2.St} {H : Hp} {R : V → Hp → Prop} {m : List Addr} {r : Rho} {S : Sto} {Z : SV → Sto → Prop} (hE : RepE K m H r s) (hS : RepS K m H S)
    (hw : wa r S fun x S1 => Z x S1) (h : ∀ x S2 v m2 H2, Z x S2 → Grow m H m2 H2 → RepS K m2 H2 S2 → RepV K m2 H2 H x v → R v H2) : up K wa s H fun v H1 => R v H1 :=
  ⟨m, r, S, _, hE, hS, hw, fun x S1 v m1 H1 h1 g1 r1 q1 => h x S1 v m1 H1 h1 g1 r1 q1⟩
theorem we_un {op : UnaryOp} {rp : P1} (ho : UnP X (unaryOp op) rp) (ha : WE X a wa) : WE X (.UnaryOp op a pos) (wUn rp wa) := by
  obtain ⟨r, h1, h2⟩ := ho
  exact ⟨peImp (pe_un h1 ha.pe) fun s H Q ⟨m, ρ, S, W, hE, hS, hw, hf⟩ => up1 hE hS hw fun x S2 v m2 H2 z g2 r2 qx => h2 x S2 W v m2 H2 H Q r2 qx z (hf.later g2 r2)⟩

/-! ### and, or, not -/
abbrev wAndT (t u : PT1) : PT1 := fun r S W => t r S fun b S1 => if b = true then u r S1 W else W false S1
abbrev wOrT (t u : PT1) : PT1 := fun r S W => t r S fun b S1 => if b = true then W true S1 else u r S1 W
abbrev wNotT (t : PT1) : PT1 := fun r S W => t r S fun b S1 => W (!b) S1
structure WW (X : Cx) (e : Expr) (w : PT1) : Prop where
  pw : PW X e (upT X.K w)
theorem pwImp {t t' : TT} (h : PW X e t) (k : ∀ s H Q, t' s H Q → t s H Q) : PW X e t' := ⟨fun wh pins s z H Q I q => h.run wh pins s z H Q I (k _ _ _ q)⟩
theorem WW.wt {w : PT1} (h : WW X e w) : WT X e w := ⟨h.pw.pt⟩
variable {ta tb : PT1} {rest : List Expr}
theorem ww_and1 (ha : WT X a ta) : WW X (.BoolOp .And [a] pos) ta := ⟨pw_and1 ha.pt⟩
theorem ww_or1 (ha : WT X a ta) : WW X (.BoolOp .Or [a] pos) ta := ⟨pw_or1 ha.pt⟩
theorem ww_and (ha : WT X a ta) (hb : WW X (.BoolOp .And (b :: rest) pos) tb) : WW X (.BoolOp .And (a :: b :: rest) pos) (wAndT ta tb) :=
  ⟨pwImp (pw_and ha.pt hb.pw) fun s H Q ⟨m, r, S, W, hE, hS, hw, hf⟩ => ⟨m, r, S, _, hE, hS, hw, fun b S1 m1 H1 h1 g1 r1 => by
    cases b with
    | true => exact ⟨m1, r, S1, W, hE.grow g1, r1, h1, fun b S2 m2 H2 h2 g2 r2 => hf b S2 m2 H2 h2 (g1.trans g2) r2⟩
    | false => exact hf false S1 m1 H1 h1 g1 r1⟩⟩
theorem ww_or (ha : WT X a ta) (hb : WW X (.BoolOp .Or (b :: rest) pos) tb) : WW X (.BoolOp .Or (a :: b :: rest) pos) (wOrT ta tb) :=
  ⟨pwImp (pw_or ha.pt hb.pw) fun s H Q ⟨m, r, S, W, hE, hS, hw, hf⟩ => ⟨m, r, S, _, hE, hS, hw, fun b S1 m1 H1 h1 g1 r1 => by
    cases b with
    | false => exact ⟨m1, r, S1, W, hE.grow g1, r1, h1, fun b S2 m2 H2 h2 g2 r2 => hf b S2 m2 H2 h2 (g1.trans g2) r2⟩
    | true => exact hf true S1 m1 H1 h1 g1 r1⟩⟩
theorem wt_not (ha : WT X a ta) : WT X (.UnaryOp .Not a pos) (wNotT ta) :=
  ⟨ptImp (pt_not ha.pt) fun s H Q ⟨m, r, S, W, hE, hS, hw, hf⟩ => ⟨m, r, S, _, hE, hS, hw, fun b S1 m1 H1 h1 g1 r1 => hf _ S1 m1 H1 h1 g1 r1⟩⟩
/-- .. as values -/
abbrev wAndV (wa wb : PE1) : PE1 := fun r S W => wa r S fun x S1 => match x with
  | .r (.d (.bl b)) => if b = true then wb r S1 W else W (.r (.d (.bl false))) S1
  | _ => False
abbrev wOrV (wa wb : PE1) : PE1 := fun r S W => wa r S fun x S1 => match x with
  | .r (.d (.bl b)) => if b = true then W (.r (.d (.bl true))) S1 else wb r S1 W
  | _ => False
abbrev wNotV (wa : PE1) : PE1 := fun r S W => wa r S fun x S1 => match x with
  | .r (.d (.bl b)) => W (.r (.d (.bl (!b)))) S1
  | _ => False
theorem we_one {op} (h : WE X a wa) : WE X (.BoolOp op [a] pos) wa := ⟨pe_one h.pe⟩
theorem we_and (ha : WE X a wa) (hb : WE X (.BoolOp .And (b :: rest) pos) wb) : WE X (.BoolOp .And (a :: b :: rest) pos) (wAndV wa wb) :=
  ⟨peImp (pe_and ha.pe hb.pe) fun s H Q ⟨m, r, S, W, hE, hS, hw, hf⟩ => up1 hE hS hw fun x S1 v m1 H1 h1 g1 r1 q1 => by
    split at h1
    · rename_i b
      refine ⟨b, q1, ?_⟩
      cases b with
      | true => exact ⟨m1, r, S1, W, hE.grow g1, r1, h1, hf.later g1 r1⟩
      | false => exact hf _ S1 _ m1 H1 h1 g1 r1 rfl
    · exact h1.elim⟩
theorem we_or (ha : WE X a wa) (hb : WE X (.BoolOp .Or (b :: rest) pos) wb) : WE X (.BoolOp .Or (a :: b :: rest) pos) (wOrV wa wb) :=
  ⟨peImp (pe_or ha.pe hb.pe) fun s H Q ⟨m, r, S, W, hE, hS, hw, hf⟩ => up1 hE hS hw fun x S1 v m1 H1 h1 g1 r1 q1 => by
    split at h1
    · rename_i b
      refine ⟨b, q1, ?_⟩
      cases b with
      | false => exact ⟨m1, r, S1, W, hE.grow g1, r1, h1, hf.later g1 r1⟩
      | true => exact hf _ S1 _ m1 H1 h1 g1 r1 rfl
    · exact h1.elim⟩
theorem we_not (ha : WE X a wa) : WE X (.UnaryOp .Not a pos) (wNotV wa) :=
  ⟨peImp (pe_not ha.pe) fun s H Q ⟨m, r, S, W, hE, hS, hw, hf⟩ => up1 hE hS hw fun x S1 v m1 H1 h1 g1 r1 q1 => by
    split at h1
    · rename_i b
      exact ⟨b, q1, hf _ S1 _ m1 H1 h1 g1 r1 rfl⟩
    · exact h1.elim⟩
/-- a if t else b -/
abbrev wIfE (t : PT1) (wa wb : PE1) : PE1 := fun r S W => t r S fun b S1 => if b = true then wa r S1 W else wb r S1 W
theorem we_ifE (hc : WT X c ta) (ha : WE X a wa) (hb : WE X b wb) : WE X (.IfExp c a b pos) (wIfE ta wa wb) :=
  ⟨peImp (pe_ifExp hc.pt ha.pe hb.pe) fun s H Q ⟨m, r, S, W, hE, hS, hw, hf⟩ => ⟨m, r, S, _, hE, hS, hw, fun b S1 m1 H1 h1 g1 r1 => by
    cases b with
    | true => exact ⟨m1, r, S1, W, hE.grow g1, r1, h1, hf.later g1 r1⟩
    | false => exact ⟨m1, r, S1, W, hE.grow g1, r1, h1, hf.later g1 r1⟩⟩⟩

/-! ### rows of expressions, tuples, lists -/
abbrev wNil : PA1 := fun _ S W => W [] S
abbrev wCons (wa : PE1) (ws : PA1) : PA1 := fun r S W => wa r S fun x S1 => ws r S1 fun xs S2 => W (x :: xs) S2
theorem wa_nil : WA X [] wNil := ⟨paImp pa_nil fun s H Q ⟨m, r, S, W, hE, hS, hw, hf⟩ => hf [] S [] m H hw Grow.refl hS rfl⟩
theorem wa_cons (ha : WE X e wa) (hr : WA X es was) (hs : starEach (e :: es) X.env = (false, eval e X.env) :: starEach es X.env := by rfl) : WA X (e :: es) (wCons wa was) :=
  ⟨paImp (pa_cons ha.pe hr.pa hs) fun s H Q ⟨m, r, S, W, hE, hS, hw, hf⟩ => up1 hE hS hw fun x S1 v m1 H1 h1 g1 r1 q1 =>
    ⟨m1, r, S1, _, hE.grow g1, r1, h1, fun xs S2 vs m2 H2 h2 g2 r2 q2 => hf _ S2 _ m2 H2 h2 (g1.trans g2) r2 ⟨v, vs, rfl, q1.grow g2, (by
      have back : ∀ {xs : List SV} {vs : List V}, RepVs X.K m2 H2 H1 xs vs → RepVs X.K m2 H2 H xs vs := by
        intro xs
        induction xs with
        | nil => intro vs h; exact h
        | cons y ys ih => intro vs ⟨v, r, e, h, t⟩; exact ⟨v, r, e, h.back g1 r1, ih t⟩
      exact back q2)⟩⟩⟩
/-- a row of values, none of them a new list -/
def rsOf : List SV → Option (List R)
  | [] => some []
  | .r x :: xs => (rsOf xs).map (x :: ·)
  | .f _ :: _ => none
/-- a new list in a row (one at most) is given a number -/
def bindVs : List SV → Sto → (List R → Sto → Prop) → Prop
  | [], S, W => W [] S
  | .r x :: xs, S, W => bindVs xs S fun rs S1 => W (x :: rs) S1
  | .f l :: xs, S, W => match rsOf xs with
    | some rs => W (.loc S.length :: rs) (S ++ [.lst l])
    | none => False
abbrev dataOf : List SV → Option (List D)
  | [] => some []
  | .r (.d x) :: r => (dataOf r).map (x :: ·)
  | _ :: _ => none
theorem RepVs.data {K : PySem.W.Frag} {m : List Addr} {H H0 : Hp} : ∀ {xs : List SV} {vs : List V} {ds : List D}, RepVs K m H H0 xs vs → dataOf xs = some ds → RepDs K H ds vs
  | [], _, _, h, e => by simp [dataOf] at e; subst e; exact h
  | .r (.d x) :: xs, _, ds, ⟨v, r, e1, h, t⟩, e => by
    simp only [dataOf, Option.map_eq_some_iff] at e
    obtain ⟨ds', e2, rfl⟩ := e
    exact ⟨v, r, e1, h, RepVs.data t e2⟩
  | .r (.loc _) :: _, _, _, _, e => by cases e
  | .r (.ro _) :: _, _, _, _, e => by cases e
  | .r (.tr _) :: _, _, _, _, e => by cases e
  | .r (.ex _) :: _, _, _, _, e => by cases e
  | .r (.ad _) :: _, _, _, _, e => by cases e
  | .f _ :: _, _, _, _, e => by cases e
theorem RepVs.len {K : PySem.W.Frag} {m : List Addr} {H H0 : Hp} : ∀ {xs : List SV} {vs : List V}, RepVs K m H H0 xs vs → vs.length = xs.length
  | [], _, h => by cases h; rfl
  | x :: xs, _, ⟨v, r, e, _, t⟩ => by subst e; simp [RepVs.len t]
abbrev wTup (ws : PA1) : PE1 := fun r S W => ws r S fun xs S1 => match dataOf xs with
  | some ds => ds.length ≤ 16777216 ∧ W (.r (.d (.tup ds))) S1
  | none => False
abbrev wLst (ws : PA1) : PE1 := fun r S W => ws r S fun xs S1 => match dataOf xs with
  | some ds => ds.length ≤ 16777216 ∧ W (.f ds) S1
  | none => False
theorem we_tup {x1} (h : WA X es was) : WE X (.Tuple es x1 pos) (wTup was) :=
  ⟨peImp (pe_tup h.pa) fun s H Q ⟨m, r, S, W, hE, hS, hw, hf⟩ => ⟨m, r, S, _, hE, hS, hw, fun xs S1 vs m1 H1 h1 g1 r1 q1 => by
    split at h1
    · rename_i ds e
      have q := q1.data e
      exact ⟨by rw [q.len, sizeLine_eq]; exact h1.1, (hf.later g1 r1).tup r1 q h1.2⟩
    · exact h1.elim⟩⟩
theorem we_lst (h : WA X es was) : WE X (.List es pos) (wLst was) :=
  ⟨peImp (pe_lst h.pa) fun s H Q ⟨m, r, S, W, hE, hS, hw, hf⟩ => ⟨m, r, S, _, hE, hS, hw, fun xs S1 vs m1 H1 h1 g1 r1 q1 => by
    split at h1
    · rename_i ds e
      have q := q1.data e
      exact ⟨by rw [q.len, sizeLine_eq]; exact h1.1, (hf.later g1 r1).lst r1 q h1.2⟩
    · exact h1.elim⟩⟩

/-! ### what a value holds in a row -/
/-- is it a list of the store? -/
abbrev isLo (S : Sto) (n : Nat) : Bool := match S[n]? with
  | some (.lst _) => true
  | _ => false
theorem isLo_get {S : Sto} {n : Nat} (h : isLo S n = true) : ∃ xs, S[n]? = some (.lst xs) := by
  unfold isLo at h
  split at h
  · rename_i xs e; exact ⟨xs, e⟩
  · cases h
/-- the items of a list or a tuple -/
abbrev seqOf (S : Sto) : SV → Option (List D)
  | .r (.d (.tup xs)) => some xs
  | .r (.d (.lst xs)) => some xs
  | .r (.loc n) => match S[n]? with
    | some (.lst xs) => some xs
    | _ => none
  | .r (.ro xs) => some xs
  | .f xs => some xs
  | _ => none
/-- is it a list (no tuple)? -/
def isLst : SV → Bool
  | .r (.loc _) | .r (.ro _) | .f _ | .r (.d (.lst _)) => true
  | _ => false
theorem RepV.seq {K : PySem.W.Frag} {m : List Addr} {H H0 : Hp} {S : Sto} {x : SV} {v : V} {xs : List D} (h : RepV K m H H0 x v) (r : RepS K m H S) (e : seqOf S x = some xs) :
    ∃ a vs, v = .ref a ∧ RepDs K H xs vs ∧ if isLst x = true then SqL K H a vs else SqT K H a vs := by
  cases x with
  | f ys =>
    obtain ⟨a, vs, e1, h1, _, _, h4⟩ := h
    simp only [seqOf, Option.some.injEq] at e; subst e
    exact ⟨a, vs, e1, h4, .inl (.inl h1)⟩
  | r y =>
    cases y with
    | loc n =>
      obtain ⟨a, h1, e1⟩ := h
      simp only [seqOf] at e
      split at e
      · rename_i ys e2
        cases e
        obtain ⟨a', h1', vs, h2, h3⟩ := r.at_ n _ e2
        rw [h1] at h1'; cases h1'
        exact ⟨a, vs, e1, h3, .inl (.inl h2)⟩
      · cases e
    | ro ys =>
      obtain ⟨a, vs, e1, h1, h2⟩ := h
      simp only [seqOf, Option.some.injEq] at e; subst e
      exact ⟨a, vs, e1, h2, h1.sq⟩
    | tr ys => cases e
    | ex z => cases e
    | ad z => cases e
    | d y =>
      cases y with
      | tup ys =>
        obtain ⟨a, vs, e1, h1, h2⟩ := h
        simp only [seqOf, Option.some.injEq] at e; subst e
        exact ⟨a, vs, e1, h2, h1⟩
      | lst ys =>
        obtain ⟨a, vs, e1, h1, h2⟩ := h
        simp only [seqOf, Option.some.injEq] at e; subst e
        exact ⟨a, vs, e1, h2, h1.sq⟩
      | non => cases e
      | bl _ => cases e
      | int _ => cases e
      | str _ => cases e
/-- a list that may be added to: one of the store, or a new one -/
theorem RepV.lst {K : PySem.W.Frag} {m : List Addr} {H H0 : Hp} {S : Sto} {x : SV} {v : V} {xs : List D} (h : RepV K m H H0 x v) (r : RepS K m H S) (e : seqOf S x = some xs) (hl : isLst x = true) (ho : (∀ ys, x ≠ .r (.ro ys)) ∧ ∀ ys, x ≠ .r (.d (.lst ys))) :
    ∃ a vs, v = .ref a ∧ RepDs K H xs vs ∧ H a = some (.lst vs) := by
  cases x with
  | f ys =>
    obtain ⟨a, vs, e1, h1, _, _, h4⟩ := h
    simp only [seqOf, Option.some.injEq] at e; subst e
    exact ⟨a, vs, e1, h4, h1⟩
  | r y =>
    cases y with
    | loc n =>
      obtain ⟨a, h1, e1⟩ := h
      simp only [seqOf] at e
      split at e
      · rename_i ys e2
        cases e
        obtain ⟨a', h1', vs, h2, h3⟩ := r.at_ n _ e2
        rw [h1] at h1'; cases h1'
        exact ⟨a, vs, e1, h3, h2⟩
      · cases e
    | ro ys => exact absurd rfl (ho.1 ys)
    | tr ys => cases e
    | ex z => cases e
    | ad z => cases e
    | d y =>
      cases y with
      | lst ys => exact absurd rfl (ho.2 ys)
      | _ => cases hl
end
end Z

set_option Elab.async false
set_option linter.all false
set_option maxRecDepth 100000
/-! Z3: the operators and built-ins. -/
namespace Z
open PySem PySem.Spec PyProof.Rows L2
section
variable {X : Cx}

/-! ### ints -/
abbrev svi (i : Int) : SV := .r (.d (.int i))
abbrev svb (b : Bool) : SV := .r (.d (.bl b))
abbrev svt (xs : List D) : SV := .r (.d (.tup xs))
abbrev pInt (C : Int → Int → Prop) (g : Int → Int → Int) : P2 := fun x y S W => match x, y with
  | .r (.d (.int i)), .r (.d (.int j)) => C i j ∧ W (.r (.d (.int (g i j)))) S
  | _, _ => False
theorem opp_int {f : Value → Value → Sem Value} {C C' : Int → Int → Prop} {g : Int → Int → Int} (h : OpR X f (rI C' fun i j => .int (g i j))) (hc : ∀ i j, C i j → C' i j) : OpP X f (pInt C g) := by
  refine ⟨_, h, fun x y S W v u m H H0 Q r qx qy w f => ?_⟩
  unfold pInt at w
  split at w
  · rename_i i j
    exact ⟨i, j, qx, qy, hc i j w.1, f.here r (x := svi (g i j)) rfl w.2⟩
  · exact w.elim
structure CDv (i j : Int) : Prop where
  ne : j ≠ 0
  lt : j.natAbs < 2 ^ 9000
/-- sealed: the kernel must not look inside -/
structure MulOk (i j : Int) : Prop where
  ok : IntMulOk i j
def CPw (i j : Int) : Prop := 0 ≤ j ∧ j ≤ 1000000 ∧ (i.natAbs < 2 ^ 64 ∨ (j ≤ 16 ∧ i.natAbs < 2 ^ 60000))
theorem CPw.sz {i j : Int} (h : CPw i j) : (Builtin.Int.intBits i : Int) * j ≤ 2 ^ 27 := by
  obtain ⟨h0, h1, h2 | ⟨h3, h4⟩⟩ := h
  · exact bits_mul_le h2 h0 h1
  · have hb := intBits_le h4
    have : (Builtin.Int.intBits i : Int) * j ≤ 60000 * j := Int.mul_le_mul_of_nonneg_right (by omega) h0
    omega
def CSh (i j : Int) : Prop := 0 ≤ j ∧ (Builtin.Int.intBits i : Int) + j ≤ 2 ^ 27
abbrev pSub : P2 := pInt (fun _ _ => True) fun i j => i - j
abbrev pDiv : P2 := pInt CDv fun i j => i.fdiv j
abbrev pMod : P2 := pInt (fun _ j => j ≠ 0) fun i j => i.fmod j
abbrev pPow : P2 := pInt CPw fun i j => i ^ j.toNat
abbrev pShl : P2 := pInt CSh fun i j => i * 2 ^ j.toNat
theorem op_mulI : OpR X (binaryOp .Mult) (rI MulOk fun i j => .int (i * j)) := opI fun _ _ _ _ _ _ _ hc q => mul_int q hc.ok
theorem op_divI : OpR X (binaryOp .FloorDiv) (rI CDv fun i j => .int (i.fdiv j)) := opI fun _ _ _ _ _ _ _ hc q => floordiv_int hc.1 q (.inl (PyProof.noPylong_of_log2 (PySem.Flt.log2_lt_of (by decide) hc.2)))
theorem op_shlI : OpR X (binaryOp .LShift) (rI CSh fun i j => .int (i * 2 ^ j.toNat)) := opI fun _ _ _ _ _ _ _ hc q => lshift_int hc.1 hc.2 q
theorem rI0_I {g : Int → Int → V} {f : Value → Value → Sem Value} (h : OpR X f (rI0 g)) : OpR X f (rI (fun _ _ => True) g) := by
  intro pins s σ H x y v u Q I rx ry q
  obtain ⟨i, j, e1, e2, _, q⟩ := q
  exact h pins s σ H x y v u Q I rx ry ⟨i, j, e1, e2, q⟩
theorem o_sub : OpP X (binaryOp .Sub) pSub := opp_int (rI0_I op_sub) fun _ _ h => h
theorem o_div : OpP X (binaryOp .FloorDiv) pDiv := opp_int op_divI fun _ _ h => h
theorem o_mod : OpP X (binaryOp .Mod) pMod := opp_int op_modN fun _ _ h => h
theorem op_powX : OpR X (binaryOp .Pow) (rI CPw fun i j => .int (i ^ j.toNat)) := opI fun _ _ _ _ _ _ _ hc q => pow_int hc.1 hc.sz q
theorem o_pow : OpP X (binaryOp .Pow) pPow := opp_int op_powX fun _ _ h => h
theorem o_shl : OpP X (binaryOp .LShift) pShl := opp_int op_shlI fun _ _ h => h
/-- comparisons of ints -/
abbrev pCmp (g : Int → Int → Bool) : P2 := fun x y S W => match x, y with
  | .r (.d (.int i)), .r (.d (.int j)) => W (.r (.d (.bl (g i j)))) S
  | _, _ => False
theorem opp_cmp {f : Value → Value → Sem Value} {g : Int → Int → Bool} (h : OpR X f (rI0 fun i j => .bl (g i j))) : OpP X f (pCmp g) := by
  refine ⟨_, h, fun x y S W v u m H H0 Q r qx qy w f => ?_⟩
  unfold pCmp at w
  split at w
  · rename_i i j
    exact ⟨i, j, qx, qy, f.here r (x := svb (g i j)) rfl w⟩
  · exact w.elim
abbrev pLt : P2 := pCmp fun i j => decide (i < j)
abbrev pLe : P2 := pCmp fun i j => decide (i ≤ j)
abbrev pGt : P2 := pCmp fun i j => decide (j < i)
abbrev pGe : P2 := pCmp fun i j => decide (j ≤ i)
theorem o_lt : OpP X (compareOp .Lt) pLt := opp_cmp op_lt
theorem o_le : OpP X (compareOp .LtE) pLe := opp_cmp op_le
theorem o_gt : OpP X (compareOp .Gt) pGt := opp_cmp op_gt
theorem o_ge : OpP X (compareOp .GtE) pGe := opp_cmp op_ge
abbrev pNeg : P1 := fun x S W => match x with
  | .r (.d (.int i)) => W (.r (.d (.int (-i)))) S
  | _ => False
theorem u_neg : UnP X (unaryOp .USub) pNeg := by
  refine ⟨_, un_neg, fun x S W v m H H0 Q r qx w f => ?_⟩
  unfold pNeg at w
  split at w
  · rename_i i
    exact ⟨i, qx, f.here r (x := svi (-i)) rfl w⟩
  · exact w.elim

/-! ### + and * also of rows -/
def wrL : SV → Bool
  | .r (.loc _) | .f _ => true
  | _ => false
theorem wrL_of {x : SV} (h : wrL x = true) : isLst x = true ∧ (∀ ys, x ≠ .r (.ro ys)) ∧ ∀ ys, x ≠ .r (.d (.lst ys)) := by
  cases x with
  | f xs => exact ⟨rfl, (fun _ q => nomatch q), fun _ q => nomatch q⟩
  | r y => cases y with
    | loc n => exact ⟨rfl, (fun _ q => nomatch q), fun _ q => nomatch q⟩
    | d _ => cases h
    | ro _ => cases h
    | tr _ => cases h
    | ex _ => cases h
    | ad _ => cases h
abbrev pAddI : P2 := fun x y S W => match x, y with
  | .r (.d (.int i)), .r (.d (.int j)) => W (.r (.d (.int (i + j)))) S
  | .r (.d (.tup xs)), .r (.d (.tup ys)) => xs.length + ys.length ≤ 16777216 ∧ W (.r (.d (.tup (xs ++ ys)))) S
  | _, _ => False
/-- two lists -/
abbrev pCat : P2 := fun x y S W => match wrL x && wrL y, seqOf S x, seqOf S y with
  | true, some xs, some ys => xs.length + ys.length ≤ 16777216 ∧ W (.f (xs ++ ys)) S
  | _, _, _ => False
theorem o_cat : OpP X (binaryOp .Add) pCat := by
  refine ⟨_, op_cat, fun x y S W v u m H H0 Q r qx qy w f => ?_⟩
  unfold pCat at w
  split at w
  · rename_i xs ys e0 e1 e2
    rw [Bool.and_eq_true] at e0
    obtain ⟨a, vs, rfl, h1, h2⟩ := qx.lst r e1 (wrL_of e0.1).1 (wrL_of e0.1).2
    obtain ⟨b, us, rfl, h3, h4⟩ := qy.lst r e2 (wrL_of e0.2).1 (wrL_of e0.2).2
    exact ⟨a, b, vs, us, rfl, rfl, h2, h4, by rw [h1.len, h3.len, sizeLine_eq]; exact w.1, f.lst r (h1.app h3) w.2⟩
  · exact w.elim
theorem o_addI : OpP X (binaryOp .Add) pAddI := by
  have a1 : OpP X (binaryOp .Add) (pInt (fun _ _ => True) fun i j => i + j) := opp_int (rI0_I op_add) fun _ _ h => h
  have a2 : OpP X (binaryOp .Add) (fun x y S W => ∃ xs ys, x = svt xs ∧ y = svt ys ∧ xs.length + ys.length ≤ 16777216 ∧ W (svt (xs ++ ys)) S) := by
    refine ⟨_, op_catA, fun x y S W v u m H H0 Q r qx qy w f => ?_⟩
    obtain ⟨xs, ys, rfl, rfl, hl, w⟩ := w
    obtain ⟨a, vs, rfl, h1, h2⟩ := qx
    obtain ⟨b, us, rfl, h3, h4⟩ := qy
    refine ⟨a, b, vs, us, rfl, rfl, h1, h3, by rw [RepDs.len h2, RepDs.len h4, sizeLine_eq]; exact hl, fun e => ?_, fun e1 e2 => ?_, fun _ _ => f.tup r (RepDs.app h2 h4) w⟩
    · subst e
      have : xs = [] := by have := RepDs.len h2; simpa using this.symm
      subst this
      exact f.here r (x := svt ys) ⟨b, us, rfl, h3, h4⟩ (by simpa using w)
    · subst e2
      have : ys = [] := by have := RepDs.len h4; simpa using this.symm
      subst this
      exact f.here r (x := svt xs) ⟨a, vs, rfl, h1, h2⟩ (by simpa using w)
  refine (a1.or a2).imp fun x y S W w => ?_
  unfold pAddI at w
  split at w
  · exact .inl ⟨trivial, w⟩
  · exact .inr ⟨_, _, rfl, rfl, w⟩
  · exact w.elim
abbrev pMulI : P2 := fun x y S W => match x, y with
  | .r (.d (.int i)), .r (.d (.int j)) => MulOk i j ∧ W (.r (.d (.int (i * j)))) S
  | .r (.d (.tup xs)), .r (.d (.int k)) => xs ≠ [] ∧ 2 ≤ k ∧ k ≤ 1000 ∧ xs.length ≤ 1000 ∧ W (.r (.d (.tup (List.replicate k.toNat xs).flatten))) S
  | _, _ => False
theorem RepDs.rep {K : PySem.W.Frag} {H : Hp} {xs : List D} {vs : List V} (h : RepDs K H xs vs) : ∀ k : Nat, RepDs K H (List.replicate k xs).flatten (List.replicate k vs).flatten
  | 0 => by simp [RepDs]
  | k + 1 => by
    rw [List.replicate_succ, List.replicate_succ, List.flatten_cons, List.flatten_cons]
    exact h.app (RepDs.rep h k)
theorem o_mulI : OpP X (binaryOp .Mult) pMulI := by
  have a1 : OpP X (binaryOp .Mult) (pInt MulOk fun i j => i * j) := opp_int op_mulI fun _ _ h => h
  have a2 : OpP X (binaryOp .Mult) (fun x y S W => ∃ xs k, x = svt xs ∧ y = svi k ∧ xs ≠ [] ∧ 2 ≤ k ∧ k ≤ 1000 ∧ xs.length ≤ 1000 ∧ W (svt (List.replicate k.toNat xs).flatten) S) := by
    refine ⟨_, op_repT, fun x y S W v u m H H0 Q r qx qy w f => ?_⟩
    obtain ⟨xs, k, rfl, rfl, hne, h1, h2, hl, w⟩ := w
    obtain ⟨a, vs, rfl, h3, h4⟩ := qx
    have hlen := RepDs.len h4
    refine ⟨a, k, vs, rfl, qy, h3, fun e => hne ?_, h1, h2, by rw [hlen]; exact hl, f.tup r (RepDs.rep h4 _) w⟩
    subst e
    simpa using hlen.symm
  refine (a1.or a2).imp fun x y S W w => ?_
  unfold pMulI at w
  split at w
  · exact .inl w
  · exact .inr ⟨_, _, rfl, rfl, w⟩
  · exact w.elim

/-! ### equality -/
mutual
def py : D → PyData
  | .non => .none
  | .bl b => .bool b
  | .int i => .int i
  | .str x => .str x
  | .tup xs => .tuple (pys xs)
  | .lst xs => .list (pys xs)
def pys : List D → List PyData
  | [] => []
  | x :: xs => py x :: pys xs
end
theorem py_plains : ∀ xs : List D, PyData.plainAll (pys xs) = true := by
  have h : (∀ x : D, PyData.plain (py x) = true) ∧ ∀ xs : List D, PyData.plainAll (pys xs) = true := by
    constructor
    · intro x
      exact D.rec (motive_1 := fun x => PyData.plain (py x) = true) (motive_2 := fun xs => PyData.plainAll (pys xs) = true) rfl (fun _ => rfl) (fun _ => rfl) (fun _ => rfl) (fun xs h => by simpa [py, PyData.plain] using h) (fun xs h => by simpa [py, PyData.plain] using h) rfl (fun x xs h1 h2 => by simp [pys, PyData.plainAll, h1, h2]) x
    · intro xs
      exact D.rec_1 (motive_1 := fun x => PyData.plain (py x) = true) (motive_2 := fun xs => PyData.plainAll (pys xs) = true) rfl (fun _ => rfl) (fun _ => rfl) (fun _ => rfl) (fun xs h => by simpa [py, PyData.plain] using h) (fun xs h => by simpa [py, PyData.plain] using h) rfl (fun x xs h1 h2 => by simp [pys, PyData.plainAll, h1, h2]) xs
  exact h.2
theorem py_plain (x : D) : PyData.plain (py x) = true := by
  have := py_plains [x]
  simpa [pys, PyData.plainAll] using this
mutual
theorem RepD.dp {K : PySem.W.Frag} {H : Hp} : ∀ (x : D) (v : V), RepD K H x v → Dp K H v (py x)
  | .non, v, h => by cases h; exact .non
  | .bl b, v, h => by cases h; exact .bl b
  | .int i, v, h => by cases h; exact .int i
  | .str x, v, h => by cases h; exact .str x
  | .tup xs, v, ⟨a, vs, e, h, r⟩ => by subst e; exact .tup h (RepDs.dp xs vs r)
  | .lst xs, v, ⟨a, vs, e, h, r⟩ => by subst e; exact .lst h.sq (RepDs.dp xs vs r)
theorem RepDs.dp {K : PySem.W.Frag} {H : Hp} : ∀ (xs : List D) (vs : List V), RepDs K H xs vs → DpAll K H vs (pys xs)
  | [], v, h => by cases h; exact .nil
  | x :: xs, _, ⟨v, r, e, h, t⟩ => by subst e; exact .cons (RepD.dp x v h) (RepDs.dp xs r t)
end
/-- what the items of a tuple of values read as -/
def pyTr (S : Sto) : List R → Option (List PyData)
  | [] => some []
  | .d x :: r => (pyTr S r).map (py x :: ·)
  | .loc n :: r => match S[n]? with
    | some (.lst xs) => (pyTr S r).map (.list (pys xs) :: ·)
    | _ => none
  | _ :: _ => none
theorem RepRs.pyT {K : PySem.W.Frag} {m : List Addr} {H : Hp} {S : Sto} (r : RepS K m H S) : ∀ {xs : List R} {vs : List V} {ds : List PyData}, RepRs K m H xs vs → pyTr S xs = some ds → DpAll K H vs ds ∧ PyData.plainAll ds = true
  | [], vs, ds, h, e => by cases h; simp only [pyTr, Option.some.injEq] at e; subst e; exact ⟨.nil, rfl⟩
  | .d x :: xs, _, ds, ⟨v, t, e1, h, q⟩, e => by
    subst e1
    simp only [pyTr, Option.map_eq_some_iff] at e
    obtain ⟨ds', e2, rfl⟩ := e
    obtain ⟨h1, h2⟩ := RepRs.pyT r q e2
    exact ⟨.cons (RepD.dp x v h) h1, by simp [PyData.plainAll, py_plain, h2]⟩
  | .loc n :: xs, _, ds, ⟨v, t, e1, ⟨a, h, e0⟩, q⟩, e => by
    subst e1 e0
    simp only [pyTr] at e
    split at e
    · rename_i ys e3
      rw [Option.map_eq_some_iff] at e
      obtain ⟨ds', e2, rfl⟩ := e
      obtain ⟨h1, h2⟩ := RepRs.pyT r q e2
      obtain ⟨a', h', vs, k1, k2⟩ := r.at_ n _ e3
      rw [h] at h'; cases h'
      exact ⟨.cons (.lst (.inl (.inl k1)) (RepDs.dp ys vs k2)) h1, by simp [PyData.plainAll, PyData.plain, py_plains, h2]⟩
    · cases e
  | .ro _ :: _, _, _, _, e => by cases e
  | .ex _ :: _, _, _, _, e => by cases e
  | .ad _ :: _, _, _, _, e => by cases e
  | .tr _ :: _, _, _, _, e => by cases e
/-- what a value reads as -/
def pyOf (S : Sto) : SV → Option PyData
  | .r (.d x) => some (py x)
  | .r (.loc n) => match S[n]? with
    | some (.lst xs) => some (.list (pys xs))
    | _ => none
  | .r (.ro xs) => some (.list (pys xs))
  | .f xs => some (.list (pys xs))
  | .r (.tr xs) => (pyTr S xs).map PyData.tuple
  | .r (.ex _) => none
  | .r (.ad _) => none
theorem RepV.py {K : PySem.W.Frag} {m : List Addr} {H H0 : Hp} {S : Sto} {x : SV} {v : V} {d : PyData} (h : RepV K m H H0 x v) (r : RepS K m H S) (e : pyOf S x = some d) : Dp K H v d ∧ PyData.plain d = true := by
  cases x with
  | f ys =>
    obtain ⟨a, vs, rfl, h1, _, _, h4⟩ := h
    simp only [pyOf, Option.some.injEq] at e; subst e
    exact ⟨.lst (.inl (.inl h1)) (RepDs.dp ys vs h4), by simp [PyData.plain, py_plains]⟩
  | r y =>
    cases y with
    | d y => simp only [pyOf, Option.some.injEq] at e; subst e; exact ⟨RepD.dp y v h, py_plain y⟩
    | tr ys =>
      obtain ⟨a, vs, rfl, h1, h2⟩ := h
      simp only [pyOf, Option.map_eq_some_iff] at e
      obtain ⟨ds, e1, rfl⟩ := e
      obtain ⟨k1, k2⟩ := RepRs.pyT r h2 e1
      exact ⟨.tup h1 k1, by simpa [PyData.plain] using k2⟩
    | ex ys => cases e
    | ad ys => cases e
    | ro ys =>
      obtain ⟨a, vs, rfl, h1, h2⟩ := h
      simp only [pyOf, Option.some.injEq] at e; subst e
      exact ⟨.lst h1.sq (RepDs.dp ys vs h2), by simp [PyData.plain, py_plains]⟩
    | loc n =>
      obtain ⟨a, h1, rfl⟩ := h
      simp only [pyOf] at e
      split at e
      · rename_i ys e2
        cases e
        obtain ⟨a', h1', vs, h2, h3⟩ := r.at_ n _ e2
        rw [h1] at h1'; cases h1'
        exact ⟨.lst (.inl (.inl h2)) (RepDs.dp ys vs h3), by simp [PyData.plain, py_plains]⟩
      · cases e
abbrev pEqB (neg : Bool) : P2 := fun x y S W => match pyOf S x, pyOf S y with
  | some d, some e => min d.depth e.depth ≤ 64 ∧ W (.r (.d (.bl (if neg then !PyData.eqv d e else PyData.eqv d e)))) S
  | _, _ => False
abbrev pEq : P2 := pEqB false
abbrev pNe : P2 := pEqB true
theorem o_eq (hu : X.A.units + 64 < cLine) : OpP X (compareOp .Eq) pEq := by
  refine ⟨fun x y H Q => ∃ d e, Dp X.K H x d ∧ Dp X.K H y e ∧ d.plain = true ∧ e.plain = true ∧ min d.depth e.depth ≤ 64 ∧ Q (.bl (PyData.eqv d e)) H, ?_, fun x y S W v u m H H0 Q r qx qy w f => ?_⟩
  · intro pins s σ H x y v u Q I rx ry h
    obtain ⟨d, e, hd, he, sd, se, hm, q⟩ := h
    obtain ⟨as, r1⟩ := Dp.reads I d x v hd rx
    obtain ⟨bs, r2⟩ := Dp.reads I e y u he ry
    exact SeqAt.eq_plain r1 r2 sd se (by omega) ⟨.bl _, H, I, rfl, q⟩
  · simp only [pEq, pNe, pEqB] at w
    split at w
    · rename_i d e e1 e2
      obtain ⟨h1, h2⟩ := qx.py r e1
      obtain ⟨h3, h4⟩ := qy.py r e2
      exact ⟨d, e, h1, h3, h2, h4, w.1, f.here r (x := svb _) rfl w.2⟩
    · exact w.elim
theorem o_ne (hu : X.A.units + 64 < cLine) : OpP X (compareOp .NotEq) pNe := by
  refine ⟨fun x y H Q => ∃ d e, Dp X.K H x d ∧ Dp X.K H y e ∧ d.plain = true ∧ e.plain = true ∧ min d.depth e.depth ≤ 64 ∧ Q (.bl (!PyData.eqv d e)) H, ?_, fun x y S W v u m H H0 Q r qx qy w f => ?_⟩
  · intro pins s σ H x y v u Q I rx ry h
    obtain ⟨d, e, hd, he, sd, se, hm, q⟩ := h
    obtain ⟨as, r1⟩ := Dp.reads I d x v hd rx
    obtain ⟨bs, r2⟩ := Dp.reads I e y u he ry
    exact SeqAt.ne_plain r1 r2 sd se (by omega) ⟨.bl _, H, I, rfl, q⟩
  · simp only [pEq, pNe, pEqB] at w
    split at w
    · rename_i d e e1 e2
      obtain ⟨h1, h2⟩ := qx.py r e1
      obtain ⟨h3, h4⟩ := qy.py r e2
      exact ⟨d, e, h1, h3, h2, h4, w.1, f.here r (x := svb _) rfl w.2⟩
    · exact w.elim
/-- in, not in: an item of a row -/
abbrev pInB (neg : Bool) : P2 := fun x y S W => match pyOf S x, seqOf S y with
  | some d, some ys => d.depth ≤ 60 ∧ W (.r (.d (.bl (if neg then !((pys ys).any fun z => PyData.eqv z d) else (pys ys).any fun z => PyData.eqv z d)))) S
  | _, _ => False
theorem RepV.reads {K : PySem.W.Frag} {m : List Addr} {H H0 : Hp} {S : Sto} {y : SV} {v : V} {ys : List D} (h : RepV K m H H0 y v) (r : RepS K m H S) (e : seqOf S y = some ys) : Dp K H v (if isLst y = true then .list (pys ys) else .tuple (pys ys)) := by
  obtain ⟨a, vs, rfl, h1, h2⟩ := h.seq r e
  split at h2 <;> rename_i hl
  · rw [if_pos hl]; exact .lst h2 (RepDs.dp ys vs h1)
  · rw [if_neg hl]; exact .tup h2 (RepDs.dp ys vs h1)
theorem o_in (hu : X.A.units + 64 < cLine) : OpP X (compareOp .In) (pInB false) := by
  refine ⟨fun x y H Q => ∃ d ys b, Dp X.K H x d ∧ Dp X.K H y (if b = true then .list ys else .tuple ys) ∧ d.plain = true ∧ PyData.plainAll ys = true ∧ d.depth ≤ 60 ∧ Q (.bl (ys.any fun z => PyData.eqv z d)) H, ?_, fun x y S W v u m H H0 Q r qx qy w f => ?_⟩
  · intro pins s σ H x y v u Q I rx ry h
    obtain ⟨d, ys, b, hd, he, sd, se, hm, q⟩ := h
    obtain ⟨as, r1⟩ := Dp.reads I d x v hd rx
    obtain ⟨bs, r2⟩ := Dp.reads I _ y u he ry
    cases b with
    | true => exact SeqAt.in_list_data r2 r1 se sd (by omega) ⟨.bl _, H, I, rfl, q⟩
    | false => exact SeqAt.in_tuple_data r2 r1 se sd (by omega) ⟨.bl _, H, I, rfl, q⟩
  · unfold pInB at w
    split at w
    · rename_i d ys e1 e2
      obtain ⟨h1, h2⟩ := qx.py r e1
      exact ⟨d, pys ys, isLst y, h1, qy.reads r e2, h2, py_plains ys, w.1, f.here r (x := svb _) rfl w.2⟩
    · exact w.elim
theorem o_nin (hu : X.A.units + 64 < cLine) : OpP X (compareOp .NotIn) (pInB true) := by
  refine ⟨fun x y H Q => ∃ d ys b, Dp X.K H x d ∧ Dp X.K H y (if b = true then .list ys else .tuple ys) ∧ d.plain = true ∧ PyData.plainAll ys = true ∧ d.depth ≤ 60 ∧ Q (.bl (!(ys.any fun z => PyData.eqv z d))) H, ?_, fun x y S W v u m H H0 Q r qx qy w f => ?_⟩
  · intro pins s σ H x y v u Q I rx ry h
    obtain ⟨d, ys, b, hd, he, sd, se, hm, q⟩ := h
    obtain ⟨as, r1⟩ := Dp.reads I d x v hd rx
    obtain ⟨bs, r2⟩ := Dp.reads I _ y u he ry
    cases b with
    | true => exact SeqAt.notIn_list_data r2 r1 se sd (by omega) ⟨.bl _, H, I, rfl, q⟩
    | false => exact SeqAt.notIn_tuple_data r2 r1 se sd (by omega) ⟨.bl _, H, I, rfl, q⟩
  · unfold pInB at w
    split at w
    · rename_i d ys e1 e2
      obtain ⟨h1, h2⟩ := qx.py r e1
      exact ⟨d, pys ys, isLst y, h1, qy.reads r e2, h2, py_plains ys, w.1, f.here r (x := svb _) rfl w.2⟩
    · exact w.elim
/-- is None, is not None -/
def isNon : SV → Bool
  | .r (.d .non) => true
  | _ => false
abbrev pIsN (neg : Bool) : P2 := fun x y S W => match y with
  | .r (.d .non) => W (.r (.d (.bl (if neg then !isNon x else isNon x)))) S
  | _ => False
theorem isNon_of {K : PySem.W.Frag} {m : List Addr} {H H0 : Hp} {x : SV} {v : V} (h : RepV K m H H0 x v) : decide (v = V.non) = isNon x := by
  cases x with
  | f ys => obtain ⟨a, vs, rfl, _⟩ := h; rfl
  | r y =>
    cases y with
    | loc n => obtain ⟨a, _, rfl⟩ := h; rfl
    | ro n => obtain ⟨a, _, rfl, _⟩ := h; rfl
    | tr n => obtain ⟨a, _, rfl, _⟩ := h; rfl
    | ex n => obtain ⟨a, _, rfl, _⟩ := h; rfl
    | ad n => cases h; rfl
    | d y =>
      cases y with
      | non => cases h; rfl
      | bl _ => cases h; rfl
      | int _ => cases h; rfl
      | str _ => cases h; rfl
      | tup _ => obtain ⟨a, _, rfl, _⟩ := h; rfl
      | lst _ => obtain ⟨a, _, rfl, _⟩ := h; rfl
theorem o_isN : OpP X (compareOp .Is) (pIsN false) := by
  refine ⟨_, op_isN, fun x y S W v u m H H0 Q r qx qy w f => ?_⟩
  unfold pIsN at w
  split at w
  · exact ⟨qy, by rw [isNon_of qx]; exact f.here r (x := svb _) rfl w⟩
  · exact w.elim
theorem o_notN : OpP X (compareOp .IsNot) (pIsN true) := by
  refine ⟨_, op_notN, fun x y S W v u m H H0 Q r qx qy w f => ?_⟩
  unfold pIsN at w
  split at w
  · exact ⟨qy, by rw [isNon_of qx]; exact f.here r (x := svb _) rfl w⟩
  · exact w.elim
end

/-! ### items, slices -/
section
variable {X : Cx} {e a b : Expr} {es : List Expr} {pos p2 : Pos} {wa wb wl wh : PE1} {was : PA1}
def getI (xs : List D) (k : Int) : Option D := if 0 ≤ k then xs[k.toNat]? else if -(xs.length : Int) ≤ k then xs[(k + xs.length).toNat]? else none
abbrev pIx : P2 := fun x y S W => match seqOf S x, y with
  | some xs, .r (.d (.int k)) => match getI xs k with
    | some z => W (.r (.d z)) S
    | none => False
  | _, _ => False
theorem RepDs.atI {K : PySem.W.Frag} {H : Hp} {xs : List D} {vs : List V} {k : Int} {z : D} (h : RepDs K H xs vs) (e : getI xs k = some z) : ∃ v, L2.atI vs k = some v ∧ RepD K H z v := by
  unfold getI at e
  unfold L2.atI ixN
  have hl := RepDs.len h
  rw [hl]
  by_cases h0 : 0 ≤ k
  · rw [if_pos h0] at e
    obtain ⟨v, h1, h2⟩ := RepDs.get h e
    have : k.toNat < vs.length := (List.getElem?_eq_some_iff.mp h1).1
    rw [if_pos h0, if_pos (by omega)]
    exact ⟨v, h1, h2⟩
  · rw [if_neg h0] at e
    split at e
    · rename_i h1
      obtain ⟨v, h2, h3⟩ := RepDs.get h e
      rw [if_neg h0, if_pos h1]
      exact ⟨v, h2, h3⟩
    · cases e
theorem we_ix (ha : WE X a wa) (hb : WE X b wb) (hs : PlainIx b) : WE X (.Subscript a b pos) (wBin pIx wa wb) := by
  refine ⟨peImp (pe_ix (ix_list.or ix_tup) ha.pe hb.pe hs) fun s H Q ⟨m, ρ, S, W, hE, hS, hw, hf⟩ => up2 hE hS hw fun x y S2 v u m2 H2 z g2 r2 qx qy => ?_⟩
  unfold pIx at z
  split at z
  · rename_i xs k e1
    split at z
    · rename_i d e2
      obtain ⟨p, vs, rfl, h1, h2⟩ := qx.seq r2 e1
      obtain ⟨w, h3, h4⟩ := RepDs.atI h1 e2
      have fin := hf.later g2 r2
      split at h2
      · exact .inl ⟨p, vs, k, w, rfl, qy, h2, h3, fin.here r2 (x := .r (.d d)) h4 z⟩
      · exact .inr ⟨p, vs, k, w, rfl, qy, h2, h3, fin.here r2 (x := .r (.d d)) h4 z⟩
    · exact z.elim
  · exact z.elim
/-- a slice's bound -/
structure WO (X : Cx) (e : Option Expr) (w : Rho → Sto → (Option Int → Sto → Prop) → Prop) : Prop where
  po : PO X e (fun s H Q => ∃ m r S W, RepE X.K m H r s ∧ RepS X.K m H S ∧ w r S W ∧ ∀ o S' m' H', W o S' → Grow m H m' H' → RepS X.K m' H' S' → Q o H')
abbrev wNo : Rho → Sto → (Option Int → Sto → Prop) → Prop := fun _ S W => W none S
abbrev wSome (w : PE1) : Rho → Sto → (Option Int → Sto → Prop) → Prop := fun r S W => w r S fun x S1 => match x with
  | .r (.d (.int i)) => W (some i) S1
  | _ => False
theorem wo_none : WO X none wNo := ⟨⟨fun pins s z H Q I ⟨m, r, S, W, hE, hS, hw, hf⟩ => (po_none (X := X)).run pins s z H Q I (hf none S m H hw Grow.refl hS)⟩⟩
theorem wo_some (h : WE X e wa) : WO X (some e) (wSome wa) := ⟨⟨fun pins s z H Q I ⟨m, r, S, W, hE, hS, hw, hf⟩ => (po_some h.pe).run pins s z H Q I (up1 hE hS hw fun x S1 v m1 H1 h1 g1 r1 q1 => by
    split at h1
    · rename_i i
      exact ⟨i, q1, hf _ S1 m1 H1 h1 g1 r1⟩
    · exact h1.elim)⟩⟩
def cutD (xs : List D) (lo hi : Option Int) : List D := (xs.drop (HT.sIx xs.length 0 lo)).take (HT.sIx xs.length xs.length hi - HT.sIx xs.length 0 lo)
abbrev wSl (wa : PE1) (wl wh : Rho → Sto → (Option Int → Sto → Prop) → Prop) : PE1 := fun r S W => wa r S fun x S1 => wl r S1 fun lo S2 => wh r S2 fun hi S3 => match seqOf S3 x with
  | some xs => W (if isLst x then .f (cutD xs lo hi) else .r (.d (.tup (cutD xs lo hi)))) S3
  | none => False
theorem RepDs.cut {K : PySem.W.Frag} {H : Hp} {xs : List D} {vs : List V} (h : RepDs K H xs vs) (lo hi : Option Int) : RepDs K H (cutD xs lo hi) (cutV vs lo hi) := by
  unfold cutD cutV
  rw [RepDs.len h]
  exact (h.drop _).take _
theorem cut_whole {xs : List D} {lo hi : Option Int} (h : HT.sIx xs.length 0 lo = 0 ∧ HT.sIx xs.length xs.length hi = xs.length) : cutD xs lo hi = xs := by
  unfold cutD
  rw [h.1, h.2]; simp
theorem we_slice {lo hi : Option Expr} {wl wh : Rho → Sto → (Option Int → Sto → Prop) → Prop} (ha : WE X a wa) (hl : WO X lo wl) (hh : WO X hi wh) : WE X (.Subscript a (.Slice lo hi none p2) pos) (wSl wa wl wh) := by
  refine ⟨peImp (pe_slice (sl_list.or sl_tupA) ha.pe hl.po hh.po) fun s H Q ⟨m, ρ, S, W, hE, hS, hw, hf⟩ => up1 hE hS hw fun x S1 v m1 H1 h1 g1 r1 q1 => ?_⟩
  refine ⟨m1, ρ, S1, _, hE.grow g1, r1, h1, fun lo S2 m2 H2 h2 g2 r2 => ⟨m2, ρ, S2, _, (hE.grow g1).grow g2, r2, h2, fun hi S3 m3 H3 h3 g3 r3 => ?_⟩⟩
  split at h3
  · rename_i xs e
    have g13 := g2.trans g3
    obtain ⟨p, vs, rfl, k1, k2⟩ := (q1.grow g13).seq r3 e
    have fin := hf.later (g1.trans g13) r3
    have hc := k1.cut lo hi
    split at k2 <;> rename_i hl
    · rw [if_pos hl] at h3
      exact .inl ⟨p, vs, rfl, k2, fin.lst r3 hc h3⟩
    · rw [if_neg hl] at h3
      refine .inr ⟨p, vs, rfl, k2, fun hw => ?_, fun _ => fin.tup r3 hc h3⟩
      rw [RepDs.len k1] at hw
      rw [cut_whole hw] at h3
      exact fin.here r3 (x := svt xs) ⟨p, vs, rfl, k2, k1⟩ h3
  · exact h3.elim

/-! ### built-in functions -/
abbrev PF := List SV → Sto → PK1 → Prop
def FnP (X : Cx) (f : Value) (rp : PF) : Prop :=
  ∃ r : List V → Hp → VK → Prop, CallR X f r ∧ ∀ xs S W vs m H H0 Q, RepS X.K m H S → RepVs X.K m H H0 xs vs → rp xs S W → Fin X.K m H W Q → r vs H Q
abbrev wFn (rp : PF) (ws : PA1) : PE1 := fun r S W => ws r S fun xs S1 => rp xs S1 W
theorem we_blt {id : String} {x : Str} {p : Pos} {rp : PF} (hc : FnP X (.builtin id) rp) (hg : Gl X x) (hm : X.mg x = none) (hv : bootBuiltins x = some (.builtin id)) (ha : WA X (e :: es) was) (hn : x ≠ "__name__" := by decide) (hdb : (x == ("__debug__" : Str)) = false := by decide)
    (he : starEach (e :: es) X.env = (false, eval e X.env) :: starEach es X.env := by rfl) (hpl : (backTo pos (starEach es X.env)).any (·.1) = false := by rfl) : WE X (.Call (.Name x p) (e :: es) [] pos) (wFn rp was) := by
  obtain ⟨r, h1, h2⟩ := hc
  exact ⟨peImp (pe_callB h1 hg hm hv ha.pa hn hdb he hpl) fun s H Q ⟨m, ρ, S, W, hE, hS, hw, hf⟩ => ⟨m, ρ, S, _, hE, hS, hw, fun xs S1 vs m1 H1 k1 g1 r1 q1 => h2 xs S1 W vs m1 H1 H Q r1 q1 k1 (hf.later g1 r1)⟩⟩
theorem we_ty {T : String} {x : Str} {p : Pos} {rp : PF} (hc : FnP X (.type T) rp) (hg : Gl X x) (hm : X.mg x = none) (hv : bootBuiltins x = some (.type T)) (ha : WA X (e :: es) was) (hn : x ≠ "__name__" := by decide) (hdb : (x == ("__debug__" : Str)) = false := by decide)
    (he : starEach (e :: es) X.env = (false, eval e X.env) :: starEach es X.env := by rfl) (hpl : (backTo pos (starEach es X.env)).any (·.1) = false := by rfl) : WE X (.Call (.Name x p) (e :: es) [] pos) (wFn rp was) := by
  obtain ⟨r, h1, h2⟩ := hc
  exact ⟨peImp (pe_callTy h1 hg hm hv ha.pa hn hdb he hpl) fun s H Q ⟨m, ρ, S, W, hE, hS, hw, hf⟩ => ⟨m, ρ, S, _, hE, hS, hw, fun xs S1 vs m1 H1 k1 g1 r1 q1 => h2 xs S1 W vs m1 H1 H Q r1 q1 k1 (hf.later g1 r1)⟩⟩
theorem RepVs.one {K : PySem.W.Frag} {m : List Addr} {H H0 : Hp} {x : SV} {vs : List V} (h : RepVs K m H H0 [x] vs) : ∃ v, vs = [v] ∧ RepV K m H H0 x v := by
  obtain ⟨v, r, e, h1, h2⟩ := h; cases h2; exact ⟨v, e, h1⟩
theorem RepVs.two {K : PySem.W.Frag} {m : List Addr} {H H0 : Hp} {x y : SV} {vs : List V} (h : RepVs K m H H0 [x, y] vs) : ∃ v u, vs = [v, u] ∧ RepV K m H H0 x v ∧ RepV K m H H0 y u := by
  obtain ⟨v, r, rfl, h1, h2⟩ := h
  obtain ⟨u, rfl, h3⟩ := RepVs.one h2
  exact ⟨v, u, rfl, h1, h3⟩
abbrev fLen : PF := fun xs S W => match xs with
  | [x] => match seqOf S x with
    | some ys => W (.r (.d (.int ys.length))) S
    | none => False
  | _ => False
theorem f_len : FnP X (.builtin "len") fLen := by
  refine ⟨_, call_len_seq, fun xs S W vs m H H0 Q r q w f => ?_⟩
  unfold fLen at w
  split at w
  · rename_i x
    obtain ⟨v, rfl, q1⟩ := q.one
    split at w
    · rename_i ys e
      obtain ⟨p, us, rfl, h1, h2⟩ := q1.seq r e
      refine ⟨p, us, rfl, ?_, ?_⟩
      · split at h2
        · exact .inl h2
        · exact .inr h2
      · rw [RepDs.len h1]; exact f.here r (x := svi _) rfl w
    · exact w.elim
  · exact w.elim
abbrev fTup : PF := fun xs S W => match xs with
  | [x] => match seqOf S x with
    | some ys => W (.r (.d (.tup ys))) S
    | none => False
  | _ => False
theorem f_tup : FnP X (.type "tuple") fTup := by
  refine ⟨_, call_tuple_of, fun xs S W vs m H H0 Q r q w f => ?_⟩
  unfold fTup at w
  split at w
  · rename_i x
    obtain ⟨v, rfl, q1⟩ := q.one
    split at w
    · rename_i ys e
      obtain ⟨p, us, rfl, h1, h2⟩ := q1.seq r e
      refine ⟨p, us, rfl, ?_⟩
      split at h2
      · exact .inl ⟨h2, f.tup r h1 w⟩
      · exact .inr ⟨h2, f.here r (x := svt ys) ⟨p, us, rfl, h2, h1⟩ w⟩
    · exact w.elim
  · exact w.elim
abbrev fList : PF := fun xs S W => match xs with
  | [x] => match seqOf S x with
    | some ys => W (.f ys) S
    | none => False
  | _ => False
theorem f_list : FnP X (.type "list") fList := by
  refine ⟨_, call_list_of, fun xs S W vs m H H0 Q r q w f => ?_⟩
  unfold fList at w
  split at w
  · rename_i x
    obtain ⟨v, rfl, q1⟩ := q.one
    split at w
    · rename_i ys e
      obtain ⟨p, us, rfl, h1, h2⟩ := q1.seq r e
      refine ⟨p, us, rfl, ?_, f.lst r h1 w⟩
      split at h2
      · exact .inl h2
      · exact .inr h2
    · exact w.elim
  · exact w.elim
/-- the ints of a row -/
def intsOf : List D → Option (List Int)
  | [] => some []
  | .int i :: r => (intsOf r).map (i :: ·)
  | _ :: _ => none
theorem intsOf_map : ∀ ns : List Int, intsOf (ns.map D.int) = some ns
  | [] => rfl
  | n :: ns => by simp [intsOf, intsOf_map ns]
theorem ints_eq : ∀ {xs : List D} {ns : List Int}, intsOf xs = some ns → xs = ns.map D.int
  | [], ns, h => by simp [intsOf] at h; subst h; rfl
  | .int i :: xs, ns, h => by
    simp only [intsOf, Option.map_eq_some_iff] at h
    obtain ⟨r, h1, rfl⟩ := h
    rw [ints_eq h1]; rfl
  | .non :: _, _, h => by cases h
  | .bl _ :: _, _, h => by cases h
  | .str _ :: _, _, h => by cases h
  | .tup _ :: _, _, h => by cases h
  | .lst _ :: _, _, h => by cases h
theorem RepDs.toInts {K : PySem.W.Frag} {H : Hp} : ∀ {ns : List Int} {vs : List V}, RepDs K H (ns.map D.int) vs → vs = ns.map V.int
  | [], _, h => h
  | n :: ns, _, ⟨v, r, e, h, t⟩ => by subst e; rw [RepDs.toInts t, show v = V.int n from h]; rfl
theorem repInts {K : PySem.W.Frag} {H : Hp} : ∀ ns : List Int, RepDs K H (ns.map D.int) (ns.map V.int)
  | [] => rfl
  | n :: ns => ⟨_, _, rfl, rfl, repInts ns⟩
abbrev fSum : PF := fun xs S W => match xs with
  | [x] => match isLst x, (seqOf S x).bind intsOf with
    | true, some ns => W (.r (.d (.int ns.sum))) S
    | _, _ => False
  | _ => False
theorem f_sum (hc : X.calm = true) : FnP X (.builtin "sum") fSum := by
  refine ⟨_, cr_sum hc, fun xs S W vs m H H0 Q r q w f => ?_⟩
  unfold fSum at w
  split at w
  · rename_i x
    obtain ⟨v, rfl, q1⟩ := q.one
    split at w
    · rename_i ns hl e
      rw [Option.bind_eq_some_iff] at e
      obtain ⟨ys, e1, e2⟩ := e
      rw [ints_eq e2] at e1
      obtain ⟨p, us, rfl, h1, h2⟩ := q1.seq r e1
      rw [if_pos hl] at h2
      rw [RepDs.toInts h1] at h2
      exact ⟨p, ns, rfl, h2, f.here r (x := svi _) rfl w⟩
    · exact w.elim
  · exact w.elim
abbrev fAbs : PF := fun xs S W => match xs with
  | [.r (.d (.int i))] => W (.r (.d (.int i.natAbs))) S
  | _ => False
theorem f_abs : FnP X (.builtin "abs") fAbs := by
  refine ⟨_, call_abs, fun xs S W vs m H H0 Q r q w f => ?_⟩
  unfold fAbs at w
  split at w
  · rename_i i
    obtain ⟨v, rfl, q1⟩ := q.one
    obtain rfl : v = V.int i := q1
    refine ⟨i, rfl, ?_⟩
    have e : (if i < 0 then -i else i) = (i.natAbs : Int) := by split <;> omega
    rw [e]
    exact f.here r (x := svi _) rfl w
  · exact w.elim
abbrev fMax2 : PF := fun xs S W => match xs with
  | [.r (.d (.int i)), .r (.d (.int j))] => W (.r (.d (.int (max i j)))) S
  | _ => False
theorem f_max2 (hc : X.calm = true) : FnP X (.builtin "max") fMax2 := by
  refine ⟨_, call_max2 hc, fun xs S W vs m H H0 Q r q w f => ?_⟩
  unfold fMax2 at w
  split at w
  · rename_i i j
    obtain ⟨v, u, rfl, q1, q2⟩ := q.two
    obtain rfl : v = V.int i := q1
    obtain rfl : u = V.int j := q2
    refine ⟨i, j, rfl, ?_⟩
    have e : (if j > i then j else i) = max i j := by split <;> omega
    rw [e]
    exact f.here r (x := svi _) rfl w
  · exact w.elim
abbrev fMin2 : PF := fun xs S W => match xs with
  | [.r (.d (.int i)), .r (.d (.int j))] => W (.r (.d (.int (min i j)))) S
  | _ => False
theorem f_min2 (hc : X.calm = true) : FnP X (.builtin "min") fMin2 := by
  refine ⟨_, call_min2 hc, fun xs S W vs m H H0 Q r q w f => ?_⟩
  unfold fMin2 at w
  split at w
  · rename_i i j
    obtain ⟨v, u, rfl, q1, q2⟩ := q.two
    obtain rfl : v = V.int i := q1
    obtain rfl : u = V.int j := q2
    refine ⟨i, j, rfl, ?_⟩
    have e : (if j < i then j else i) = min i j := by split <;> omega
    rw [e]
    exact f.here r (x := svi _) rfl w
  · exact w.elim
/-- max of a list of ints: said by what is true of it -/
abbrev fMax1 : PF := fun xs S W => match xs with
  | [x] => match isLst x, (seqOf S x).bind intsOf with
    | true, some ns => ns ≠ [] ∧ ∀ m, m ∈ ns → (∀ y, y ∈ ns → y ≤ m) → W (.r (.d (.int m))) S
    | _, _ => False
  | _ => False
theorem f_max1 (hc : X.calm = true) : FnP X (.builtin "max") fMax1 := by
  refine ⟨_, cr_max hc, fun xs S W vs m H H0 Q r q w f => ?_⟩
  unfold fMax1 at w
  split at w
  · rename_i x
    obtain ⟨v, rfl, q1⟩ := q.one
    split at w
    · rename_i ns hl e
      rw [Option.bind_eq_some_iff] at e
      obtain ⟨ys, e1, e2⟩ := e
      rw [ints_eq e2] at e1
      obtain ⟨p, us, rfl, h1, h2⟩ := q1.seq r e1
      rw [if_pos hl] at h2
      rw [RepDs.toInts h1] at h2
      exact ⟨p, ns, rfl, h2, by have := w.1; cases ns with | nil => exact absurd rfl this | cons => simp, fun k h3 h4 => f.here r (x := svi _) rfl (w.2 k h3 h4)⟩
    · exact w.elim
  · exact w.elim
abbrev fInt : PF := fun xs S W => match xs with
  | [.r (.d (.int i))] => W (.r (.d (.int i))) S
  | [.r (.d (.bl b))] => W (.r (.d (.int (if b = true then 1 else 0)))) S
  | _ => False
theorem f_int : FnP X (.type "int") fInt := by
  refine ⟨_, call_int1, fun xs S W vs m H H0 Q r q w f => ?_⟩
  unfold fInt at w
  split at w
  · rename_i i
    obtain ⟨v, rfl, q1⟩ := q.one
    obtain rfl : v = V.int i := q1
    exact .inl ⟨i, rfl, f.here r (x := svi _) rfl w⟩
  · rename_i b
    obtain ⟨v, rfl, q1⟩ := q.one
    obtain rfl : v = V.bl b := q1
    exact .inr ⟨b, rfl, f.here r (x := svi _) rfl w⟩
  · exact w.elim

/-! ### isinstance with a built-in type -/
def tyN : SV → String
  | .r (.d .non) => "NoneType"
  | .r (.d (.bl _)) => "bool"
  | .r (.d (.int _)) => "int"
  | .r (.d (.str _)) => "str"
  | .r (.d (.tup _)) => "tuple"
  | .r (.d (.lst _)) => "list"
  | .r (.tr _) => "tuple"
  | .r (.loc _) => "list"
  | .r (.ro _) => "list"
  | .r (.ex _) => "list"
  | .r (.ad _) => "list"
  | .f _ => "list"
/-- is it one of the type T? -/
def isT (T : String) (x : SV) : Bool := tyN x == T || (tyN x == "bool" && T == "int")
theorem kit_tys : ∀ a ∈ ["NoneType", "bool", "int", "str", "tuple", "list"], ∀ b ∈ ["bool", "int", "str", "tuple", "list"], kitB a b = some (a == b || (a == "bool" && b == "int")) := by decide +kernel
theorem tyN_mem (x : SV) : tyN x ∈ ["NoneType", "bool", "int", "str", "tuple", "list"] := by
  cases x with
  | f _ => simp [tyN]
  | r y => cases y with
    | d y => cases y <;> simp [tyN]
    | loc _ => simp [tyN]
    | ro _ => simp [tyN]
    | tr _ => simp [tyN]
    | ex _ => simp [tyN]
    | ad _ => simp [tyN]
theorem tyx_tup {K : PySem.W.Frag} {H : Hp} {a : Addr} {vs : List V} (h : SqT K H a vs) : TyX K H (.ref a) (.type "tuple") := by
  rcases h with (h | ⟨o, h⟩) | ⟨o, its, n, h, hc, _⟩
  · exact .base (.tup h)
  · exact .fTuple h
  · exact .kTuple h hc
theorem RepV.ty {K : PySem.W.Frag} {m : List Addr} {H H0 : Hp} {S : Sto} {x : SV} {v : V} (h : RepV K m H H0 x v) (r : RepS K m H S) (hl : ∀ n, x = .r (.loc n) → isLo S n = true) (hx : (∀ z, x ≠ .r (.ex z)) ∧ ∀ z, x ≠ .r (.ad z)) : TyX K H v (.type (tyN x)) := by
  cases x with
  | f ys => obtain ⟨a, vs, rfl, h1, _⟩ := h; exact .base (.lst h1)
  | r y =>
    cases y with
    | loc n =>
      obtain ⟨a, h1, rfl⟩ := h
      obtain ⟨xs, e⟩ := isLo_get (hl n rfl)
      obtain ⟨a', h2, vs, h4, _⟩ := r.at_ n _ e
      rw [h1] at h2; cases h2
      exact .base (.lst h4)
    | ro ys =>
      obtain ⟨a, vs, rfl, h1, h2⟩ := h
      rcases h1 with ⟨o, h1⟩ | ⟨o, its, n, h1, hc, _⟩
      · exact .base (.frz h1)
      · exact .kList h1 hc
    | tr ys => obtain ⟨a, vs, rfl, h1, h2⟩ := h; exact tyx_tup h1
    | ex z => exact absurd rfl (hx.1 z)
    | ad z => exact absurd rfl (hx.2 z)
    | d y =>
      cases y with
      | non => cases h; exact .base .non
      | bl b => cases h; exact .base (.bl b)
      | int i => cases h; exact .base (.int i)
      | str i => cases h; exact .base (.str i)
      | tup ys => obtain ⟨a, vs, rfl, h1, h2⟩ := h; exact tyx_tup h1
      | lst ys =>
        obtain ⟨a, vs, rfl, h1, h2⟩ := h
        rcases h1 with ⟨o, h1⟩ | ⟨o, its, n, h1, hc, _⟩
        · exact .base (.frz h1)
        · exact .kList h1 hc
abbrev wIsi (T : String) (wa : PE1) : PE1 := fun r S W => wa r S fun x S1 => match x with
  | .r (.ex _) => False
  | .r (.ad _) => False
  | x => (∀ n, x = .r (.loc n) → isLo S1 n = true) ∧ W (.r (.d (.bl (isT T x)))) S1
theorem we_isi {T : String} {x : Str} {p q : Pos} (hT : T ∈ ["bool", "int", "str", "tuple", "list"]) (hg : Gl X "isinstance") (hm : X.mg "isinstance" = none) (hgT : Gl X x) (hmT : X.mg x = none) (hvT : bootBuiltins x = some (.type T)) (ha : WE X a wa)
    (he : starEach (a :: [.Name x q]) X.env = (false, eval a X.env) :: starEach [.Name x q] X.env := by rfl) (he2 : starEach [.Name x q] X.env = (false, eval (.Name x q) X.env) :: starEach [] X.env := by rfl)
    (hpl : (backTo pos (starEach [.Name x q] X.env)).any (·.1) = false := by rfl) (hn : x ≠ "__name__" := by decide) (hd : (x == ("__debug__" : Str)) = false := by decide) : WE X (.Call (.Name "isinstance" p) [a, .Name x q] [] pos) (wIsi T wa) := by
  refine ⟨peImp (pe_callB call_isi hg hm boot_isinstance (pa_cons ha.pe (pa_cons (pe_bltn (v := .ty T) hgT hmT hvT rfl hn hd) pa_nil he2) he) (by decide) (by decide) he hpl) fun s H Q ⟨m, ρ, S, W, hE, hS, hw, hf⟩ => up1 hE hS hw fun x S1 v m1 H1 k1 g1 r1 q1 => ?_⟩
  obtain ⟨hx, hl, w⟩ : ((∀ z, x ≠ .r (.ex z)) ∧ ∀ z, x ≠ .r (.ad z)) ∧ (∀ n, x = .r (.loc n) → isLo S1 n = true) ∧ W (.r (.d (.bl (isT T x)))) S1 := by
    split at k1
    · exact k1.elim
    · exact k1.elim
    · rename_i hn hm
      exact ⟨⟨fun z e => hn z e, fun z e => hm z e⟩, k1⟩
  refine ⟨v, .ty T, .type (tyN x), .type T, isT T x, rfl, .ty T, q1.ty r1 hl hx, kit_ty (kit_tys _ (tyN_mem x) T hT), (hf.later g1 r1).here r1 (x := svb _) rfl w⟩
end
end Z

set_option Elab.async false
set_option linter.all false
set_option maxRecDepth 100000
/-! Z4: statements, targets, loops, comprehensions. -/
namespace Z
open PySem PySem.Spec PyProof.Rows L2

/-- what is wanted behind a statement -/
structure En where
  nx : Rho → Sto → Prop
  rt : R → Sto → Prop
  bk : Rho → Sto → Prop := fun _ _ => False
  ct : Rho → Sto → Prop := fun _ _ => False
abbrev PS1 := En → Rho → Sto → Prop
structure Fins (K : PySem.W.Frag) (m : List Addr) (H : Hp) (N : En) (D : Ends) : Prop where
  nx : ∀ r' S' s' m' H', N.nx r' S' → Grow m H m' H' → RepE K m' H' r' s' → RepS K m' H' S' → D.nx s' H'
  rt : ∀ x S' v m' H', N.rt x S' → Grow m H m' H' → RepS K m' H' S' → RepR K m' H' x v → D.rt v H'
  bk : ∀ r' S' s' m' H', N.bk r' S' → Grow m H m' H' → RepE K m' H' r' s' → RepS K m' H' S' → D.bk s' H'
  ct : ∀ r' S' s' m' H', N.ct r' S' → Grow m H m' H' → RepE K m' H' r' s' → RepS K m' H' S' → D.ct s' H'
def upS (K : PySem.W.Frag) (w : PS1) : TS := fun D s H => ∃ m r S N, RepE K m H r s ∧ RepS K m H S ∧ w N r S ∧ Fins K m H N D
structure WS (X : Cx) (st : Stmt) (w : PS1) : Prop where
  ps : PS X st (upS X.K w)
structure WSs (X : Cx) (st : List Stmt) (w : PS1) : Prop where
  pss : PSs X st (upS X.K w)
section
variable {K : PySem.W.Frag} {m m0 m1 m2 : List Addr} {H H0 H1 H2 : Hp} {S S1 S2 : Sto} {N : En} {D : Ends}
theorem Fins.later (f : Fins K m H N D) (g : Grow m H m1 H1) : Fins K m1 H1 N D :=
  ⟨fun r' S' s' m' H' n g' e r => f.nx r' S' s' m' H' n (g.trans g') e r, fun x S' v m' H' n g' r q => f.rt x S' v m' H' n (g.trans g') r q,
   fun r' S' s' m' H' n g' e r => f.bk r' S' s' m' H' n (g.trans g') e r, fun r' S' s' m' H' n g' e r => f.ct r' S' s' m' H' n (g.trans g') e r⟩
mutual
theorem RepR.pre (g : ∀ (n : Nat) a, m[n]? = some a → m1[n]? = some a) : ∀ (x : R) (v : V), RepR K m H x v → RepR K m1 H x v
  | .d _, _, h => h
  | .loc n, _, ⟨a, h, e⟩ => ⟨a, g n a h, e⟩
  | .ro _, _, h => h
  | .tr xs, _, ⟨a, vs, e, h, r⟩ => ⟨a, vs, e, h, RepRs.pre g xs vs r⟩
  | .ex _, _, h => h
  | .ad _, _, h => h
theorem RepRs.pre (g : ∀ (n : Nat) a, m[n]? = some a → m1[n]? = some a) : ∀ (xs : List R) (vs : List V), RepRs K m H xs vs → RepRs K m1 H xs vs
  | [], _, h => h
  | x :: xs, _, ⟨v, r, e, h, t⟩ => ⟨v, r, e, RepR.pre g x v h, RepRs.pre g xs r t⟩
end
theorem pre_push {p : Addr} : ∀ (n : Nat) a, m[n]? = some a → (m ++ [p])[n]? = some a := fun n a e => by
  rw [List.getElem?_append_left (List.getElem?_eq_some_iff.mp e).1]; exact e
/-- a new list is given a number -/
abbrev bindV (x : SV) (S : Sto) (W : R → Sto → Prop) : Prop := match x with
  | .r y => W y S
  | .f xs => W (.loc S.length) (S ++ [.lst xs])
theorem bindV_ok {x : SV} {v : V} {W : R → Sto → Prop} (g : Grow m0 H0 m H) (r : RepS K m H S) (q : RepV K m H H0 x v) (w : bindV x S W) :
    ∃ y S' m', W y S' ∧ Grow m0 H0 m' H ∧ RepS K m' H S' ∧ RepR K m' H y v ∧ ∀ (n : Nat) a, m[n]? = some a → m'[n]? = some a := by
  cases x with
  | r y => exact ⟨y, S, m, w, g, r, q, fun _ _ h => h⟩
  | f xs =>
    obtain ⟨a, vs, e, h1, h2, h3, h4⟩ := q
    exact ⟨_, _, m ++ [a], w, Grow.push h3 g, r.push h2 h1 h4, ⟨a, by rw [← r.len]; simp, e⟩, pre_push⟩
theorem RepE.set {r : Rho} {s : L2.St} {i : Nat} {x : R} {v : V} (h : RepE K m H r s) (q : RepR K m H x v) : RepE K m H (r.set i (some x)) (s.set i (some v)) := by
  refine ⟨by simp [h.len], fun j y e => ?_⟩
  by_cases hj : i = j
  · subst hj
    have hl : i < r.length := by
      by_cases hl : i < r.length
      · exact hl
      · rw [List.getElem?_eq_none (by simpa using hl)] at e; cases e
    rw [List.getElem?_set_self hl] at e
    cases e
    exact ⟨v, by rw [List.getElem?_set_self (by rw [h.len]; exact hl)], q⟩
  · rw [List.getElem?_set_ne hj] at e
    obtain ⟨u, h1, h2⟩ := h.at_ j y e
    exact ⟨u, by rw [List.getElem?_set_ne hj]; exact h1, h2⟩
end

section
variable {X : Cx} {st : Stmt} {rest : List Stmt} {e a b c : Expr} {pos p2 : Pos} {wa wb we wi : PE1} {ws : PA1} {t u : PS1} {tc : PT1}
theorem psImp {t t' : TS} (h : PS X st t) (k : ∀ D s H, t' D s H → t D s H) : PS X st t' := ⟨fun pins s z H D I q => h.run pins s z H D I (k _ _ _ q)⟩
theorem pssImp {sts : List Stmt} {t t' : TS} (h : PSs X sts t) (k : ∀ D s H, t' D s H → t D s H) : PSs X sts t' := ⟨fun pins s z H D I q => h.run pins s z H D I (k _ _ _ q)⟩

/-! ### small statements -/
abbrev wNext : PS1 := fun N r S => N.nx r S
abbrev wSeq (t u : PS1) : PS1 := fun N r S => t { N with nx := u N } r S
abbrev wBrk : PS1 := fun N r S => N.bk r S
abbrev wCnt : PS1 := fun N r S => N.ct r S
theorem ws_nil : WSs X [] wNext := ⟨pssImp pss_nil fun D s H ⟨m, r, S, N, hE, hS, hw, hf⟩ => hf.nx r S s m H hw Grow.refl hE hS⟩
theorem ws_cons (h1 : WS X st t) (h2 : WSs X rest u) : WSs X (st :: rest) (wSeq t u) :=
  ⟨pssImp (pss_cons h1.ps h2.pss) fun D s H ⟨m, r, S, N, hE, hS, hw, hf⟩ => ⟨m, r, S, _, hE, hS, hw, ⟨fun r' S' s' m' H' n g e q => ⟨m', r', S', N, e, q, n, hf.later g⟩, hf.rt, hf.bk, hf.ct⟩⟩⟩
theorem ws_one (h1 : WS X st t) : WSs X [st] t := ⟨pss_one h1.ps⟩
theorem ws_pass : WS X (.Pass pos) wNext := ⟨psImp ps_pass fun D s H ⟨m, r, S, N, hE, hS, hw, hf⟩ => hf.nx r S s m H hw Grow.refl hE hS⟩
theorem ws_brk : WS X (.Break pos) wBrk := ⟨psImp ps_break fun D s H ⟨m, r, S, N, hE, hS, hw, hf⟩ => hf.bk r S s m H hw Grow.refl hE hS⟩
theorem ws_cnt : WS X (.Continue pos) wCnt := ⟨psImp ps_continue fun D s H ⟨m, r, S, N, hE, hS, hw, hf⟩ => hf.ct r S s m H hw Grow.refl hE hS⟩
abbrev wRet (w : PE1) : PS1 := fun N r S => w r S fun x S1 => bindV x S1 N.rt
theorem ws_ret (h : WE X e we) : WS X (.Return (some e) pos) (wRet we) := ⟨psImp (ps_ret h.pe) fun D s H ⟨m, r, S, N, hE, hS, hw, hf⟩ => ⟨m, r, S, _, hE, hS, hw, fun x S1 v m1 H1 h1 g1 r1 q1 => by
  obtain ⟨y, S2, m2, w2, g2, r2, q2, _⟩ := bindV_ok g1 r1 q1 h1
  exact hf.rt y S2 v m2 H1 w2 g2 r2 q2⟩⟩
abbrev wRetN : PS1 := fun N r S => N.rt (.d .non) S
theorem ws_retN : WS X (.Return none pos) wRetN := ⟨psImp ps_retN fun D s H ⟨m, r, S, N, hE, hS, hw, hf⟩ => hf.rt _ S _ m H hw Grow.refl hS rfl⟩
abbrev wDrop (w : PE1) : PS1 := fun N r S => w r S fun _ S1 => N.nx r S1
theorem ws_drop (h : WE X e we) (hs : swapsWith e none pos.line X.env = pure false := by rfl) : WS X (.Expr e pos) (wDrop we) := ⟨psImp (ps_expr h.pe hs) fun D s H ⟨m, r, S, N, hE, hS, hw, hf⟩ => ⟨m, r, S, _, hE, hS, hw, fun x S1 v m1 H1 h1 g1 r1 q1 => hf.nx r S1 s m1 H1 h1 g1 (hE.grow g1) r1⟩⟩
abbrev wIf (c : PT1) (t u : PS1) : PS1 := fun N r S => c r S fun b S1 => if b = true then t N r S1 else u N r S1
theorem ws_if {p q : List Stmt} (hc : WT X c tc) (ha : WSs X p t) (hb : WSs X q u) : WS X (.If c p q pos) (wIf tc t u) := ⟨psImp (ps_if hc.pt ha.pss hb.pss) fun D s H ⟨m, r, S, N, hE, hS, hw, hf⟩ => ⟨m, r, S, _, hE, hS, hw, fun b S1 m1 H1 h1 g1 r1 => by
  cases b with
  | true => exact ⟨m1, r, S1, N, hE.grow g1, r1, h1, hf.later g1⟩
  | false => exact ⟨m1, r, S1, N, hE.grow g1, r1, h1, hf.later g1⟩⟩⟩
/-- name = value -/
abbrev wSet (i : Nat) (w : PE1) : PS1 := fun N r S => w r S fun x S1 => bindV x S1 fun y S2 => N.nx (r.set i (some y)) S2
theorem set_fin {D : Ends} {s : L2.St} {H : Hp} {i : Nat} {te : TE} (h : ∀ Q, up X.K we s H Q → te s H Q) (hw : upS X.K (wSet i we) D s H) : tAsg te (gName i) D s H := by
  obtain ⟨m, r, S, N, hE, hS, hw, hf⟩ := hw
  refine h _ ⟨m, r, S, _, hE, hS, hw, fun x S1 v m1 H1 h1 g1 r1 q1 => ?_⟩
  obtain ⟨y, S2, m2, w2, g2, r2, q2, _⟩ := bindV_ok g1 r1 q1 h1
  exact hf.nx _ S2 _ m2 H1 w2 g2 ((hE.grow g2).set q2) r2
theorem ws_set {i : Nat} {x : Str} {pos' : Pos} (hN : X.N.Nodup) (hi : X.N[i]? = some x) (hx : Loc X.env.scope x) (he : WE X e we) (hs : swapsWith e (some (.Name x pos')) pos.line X.env = pure false := by rfl) (hf : X.fn x = true ∨ X.env.scope.names.lookup x = some .local := by first | exact .inl rfl | exact .inr rfl | assumption) :
    WS X (.Assign [.Name x pos'] e pos) (wSet i we) := ⟨psImp (ps_set hN hi hx he.pe hs hf) fun D s H hw => set_fin (fun _ h => h) hw⟩
/-- a, b = x, y on one line, both plain locals -/
abbrev wPar (i j : Nat) (ws : PA1) : PS1 := fun N r S => ws r S fun xs S1 => match xs with
  | [.r x, .r y] => N.nx ((r.set i (some x)).set j (some y)) S1
  | _ => False
theorem ws_par {i j : Nat} {x y : Str} {px py pt : Pos} {kt k2 pt2} (hc : X.calm = true) (hN : X.N.Nodup) (hi : X.N[i]? = some x) (hj : X.N[j]? = some y) (hij : i ≠ j)
    (hx : X.env.scope.names.lookup x = some .local) (hy : X.env.scope.names.lookup y = some .local) (ha : WA X [a, b] ws)
    (hw : swappedStores [.Tuple [.Name x px, .Name y py] kt pt] (.Tuple [a, b] k2 pt2) X.env = pure (some [x, y]))
    (hs : swapsWithSole [.Tuple [.Name x px, .Name y py] kt pt] (.Tuple [a, b] k2 pt2) pos.line X.env = pure false := by rfl) :
    WS X (.Assign [.Tuple [.Name x px, .Name y py] kt pt] (.Tuple [a, b] k2 pt2) pos) (wPar i j ws) :=
  ⟨psImp (ps_par hc hN hi hj hij hx hy ha.pa hw hs) fun D s H ⟨m, r, S, N, hE, hS, hw, hf⟩ => ⟨m, r, S, _, hE, hS, hw, fun xs S1 vs m1 H1 h1 g1 r1 q1 => by
    split at h1
    · obtain ⟨v, u, rfl, qx, qy⟩ := q1.two
      exact ⟨v, u, rfl, hf.nx _ S1 _ m1 H1 h1 g1 (((hE.grow g1).set qx).set qy) r1⟩
    · exact h1.elim⟩⟩
/-- name op= value, ints -/
abbrev wAug (i : Nat) (g : Int → Int → Int) (w : PE1) : PS1 := fun N r S => match r[i]? with
  | some (some (.d (.int k))) => w r S fun x S1 => match x with
    | .r (.d (.int l)) => N.nx (r.set i (some (.d (.int (g k l))))) S1
    | _ => False
  | _ => False
theorem ws_aug {i : Nat} {x : Str} {op : Operator} {g : Int → Int → Int} {pos' : Pos} (hN : X.N.Nodup) (hi : X.N[i]? = some x) (hx : Loc X.env.scope x) (he : WE X e we) (ho : PIp X op (ipI g)) (hf : X.fn x = true ∨ X.env.scope.names.lookup x = some .local := by first | exact .inl rfl | exact .inr rfl | assumption) :
    WS X (.AugAssign (.Name x pos') op e pos) (wAug i g we) := ⟨psImp (ps_aug hN hi hx he.pe ho hf) fun D s H ⟨m, r, S, N, hE, hS, hw, hf⟩ => by
  unfold wAug at hw
  split at hw
  · rename_i k e
    obtain ⟨v, e1, q⟩ := hE.at_ i _ e
    refine ⟨v, e1, m, r, S, _, hE, hS, hw, fun x S1 u m1 H1 h1 g1 r1 q1 => ?_⟩
    split at h1
    · rename_i l
      exact ⟨k, l, q, q1, hf.nx _ S1 _ m1 H1 h1 g1 ((hE.grow g1).set (x := .d (.int (g k l))) rfl) r1⟩
    · exact h1.elim
  · exact hw.elim⟩

/-! ### targets of names -/
/-- a target stores at the slots vs, what f tells -/
structure Tgt (K : PySem.W.Frag) (g : TG) (vs : List Nat) (f : R → Rho → Option Rho) : Prop where
  run : ∀ m H x v r r' (s : L2.St), RepR K m H x v → RepE K m H r s → f x r = some r' → ∃ s', (∀ Q : L2.St → Hp → Prop, Q s' H → g v s H Q) ∧ RepE K m H r' s' ∧ (∀ us : List Nat, (∀ i ∈ vs, i ∈ us) → wipe s' us = wipe s us)
theorem wipe_set {s : L2.St} {i : Nat} {o : Option V} : ∀ {us : List Nat}, i ∈ us → wipe (s.set i o) us = wipe s us
  | [], h => nomatch h
  | u :: us, h => by
    unfold wipe
    by_cases hu : i ∈ us
    · rw [wipe_set hu]
    · have e : i = u := by
        rcases List.mem_cons.mp h with e | e
        · exact e
        · exact absurd e hu
      subst e
      have out : ∀ {us : List Nat} {s : L2.St}, i ∉ us → (wipe (s.set i o) us).set i none = (wipe s us).set i none := by
        intro us
        induction us with
        | nil => intro s _; unfold wipe; rw [List.set_set]
        | cons w us ih =>
          intro s hw
          have h1 : w ≠ i := fun e => hw (by simp [e])
          have h2 : i ∉ us := fun e => hw (by simp [e])
          show ((wipe (s.set i o) us).set w none).set i none = ((wipe s us).set w none).set i none
          rw [List.set_comm _ _ h1, ih h2, List.set_comm _ _ h1]
      exact out hu
abbrev fNm (i : Nat) : R → Rho → Option Rho := fun x r => some (r.set i (some x))
theorem tg_name {K : PySem.W.Frag} (i : Nat) : Tgt K (gName i) [i] (fNm i) := ⟨fun m H x v r r' s q hE e => by
  cases e
  exact ⟨s.set i (some v), fun Q h => h, hE.set q, fun us hu => wipe_set (hu i (by simp))⟩⟩
/-- several targets, by the items -/
structure Tgts (K : PySem.W.Frag) (g : TGs) (vs : List Nat) (f : List R → Rho → Option Rho) : Prop where
  run : ∀ m H xs us r r' (s : L2.St), RepRs K m H xs us → RepE K m H r s → f xs r = some r' → ∃ s', (∀ Q : L2.St → Hp → Prop, Q s' H → g us s H Q) ∧ RepE K m H r' s' ∧ (∀ us : List Nat, (∀ i ∈ vs, i ∈ us) → wipe s' us = wipe s us)
abbrev fNil : List R → Rho → Option Rho := fun xs r => match xs with
  | [] => some r
  | _ => none
abbrev fCons (f : R → Rho → Option Rho) (fs : List R → Rho → Option Rho) : List R → Rho → Option Rho := fun xs r => match xs with
  | x :: xs => (f x r).bind fun r1 => fs xs r1
  | [] => none
theorem tgs_nil {K : PySem.W.Frag} : Tgts K gNil [] fNil := ⟨fun m H xs us r r' s q hE e => by
  unfold fNil at e
  split at e
  · cases e; exact ⟨s, fun Q h => ⟨q, h⟩, hE, fun _ _ => rfl⟩
  · cases e⟩
theorem tgs_cons {K : PySem.W.Frag} {g : TG} {gs : TGs} {vs ws : List Nat} {f : R → Rho → Option Rho} {fs : List R → Rho → Option Rho} (h : Tgt K g vs f) (k : Tgts K gs ws fs) : Tgts K (gCons g gs) (vs ++ ws) (fCons f fs) := ⟨fun m H xs us r r' s q hE e => by
  unfold fCons at e
  split at e
  · rename_i x xs
    rw [Option.bind_eq_some_iff] at e
    obtain ⟨r1, e1, e2⟩ := e
    obtain ⟨v, w, e3, q1, q2⟩ := q
    obtain ⟨s1, h1, h2, h3⟩ := h.run m H x v r r1 s q1 hE e1
    obtain ⟨s2, k1, k2, k3⟩ := k.run m H xs w r1 r' s1 q2 h2 e2
    exact ⟨s2, fun Q hq => ⟨v, w, e3, h1 _ (k1 Q hq)⟩, k2, fun us hu => (k3 us fun i hi => hu i (List.mem_append_right _ hi)).trans (h3 us fun i hi => hu i (List.mem_append_left _ hi))⟩
  · cases e⟩
abbrev fTp (n : Nat) (fs : List R → Rho → Option Rho) : R → Rho → Option Rho := fun x r => match x with
  | .d (.tup xs) => if xs.length = n then fs (xs.map R.d) r else none
  | .tr xs => if xs.length = n then fs xs r else none
  | _ => none
theorem repR_map {K : PySem.W.Frag} {m : List Addr} {H : Hp} : ∀ {xs : List D} {vs : List V}, RepDs K H xs vs → RepRs K m H (xs.map R.d) vs
  | [], _, h => h
  | x :: xs, _, ⟨v, r, e, h, t⟩ => ⟨v, r, e, h, repR_map t⟩
theorem tg_tup {K : PySem.W.Frag} {gs : TGs} {ws : List Nat} {n : Nat} {fs : List R → Rho → Option Rho} (k : Tgts K gs ws fs) : Tgt K (gTup K n gs) ws (fTp n fs) := ⟨fun m H x v r r' s q hE e => by
  unfold fTp at e
  split at e
  · split at e
    · rename_i xs hl
      obtain ⟨a, vs, e1, h1, h2⟩ := q
      obtain ⟨s2, k1, k2, k3⟩ := k.run m H _ vs r r' s (repR_map h2) hE e
      exact ⟨s2, fun Q hq => ⟨a, vs, e1, h1, by rw [RepDs.len h2]; exact hl, k1 Q hq⟩, k2, k3⟩
    · cases e
  · split at e
    · rename_i xs hl
      obtain ⟨a, vs, e1, h1, h2⟩ := q
      obtain ⟨s2, k1, k2, k3⟩ := k.run m H _ vs r r' s h2 hE e
      exact ⟨s2, fun Q hq => ⟨a, vs, e1, h1, by rw [RepRs.len h2]; exact hl, k1 Q hq⟩, k2, k3⟩
    · cases e
  · cases e⟩
/-- (a, b, ..) = value -/
abbrev wUnp (f : R → Rho → Option Rho) (w : PE1) : PS1 := fun N r S => w r S fun x S1 => bindV x S1 fun y S2 => match f y r with
  | some r' => N.nx r' S2
  | none => False
theorem ws_unp {tg : Expr} {g : TG} {vs : List Nat} {f : R → Rho → Option Rho} (he : WE X e we) (hg : PG X tg g) (ht : Tgt X.K g vs f) (hs : swapsWithSole [tg] e pos.line X.env = pure false := by rfl) (hw : swappedStores [tg] e X.env = pure none := by rfl)
    (h1 : (assignEach [tg] X.env).map (·.2) = [assign tg X.env] := by rfl) : WS X (.Assign [tg] e pos) (wUnp f we) :=
  ⟨psImp (ps_asg he.pe hg hs hw h1) fun D s H ⟨m, r, S, N, hE, hS, hw, hf⟩ => ⟨m, r, S, _, hE, hS, hw, fun x S1 v m1 H1 h1 g1 r1 q1 => by
    obtain ⟨y, S2, m2, w2, g2, r2, q2, _⟩ := bindV_ok g1 r1 q1 h1
    split at w2
    · rename_i r' e1
      obtain ⟨s', k1, k2, _⟩ := ht.run m2 H1 y v r r' s q2 (hE.grow g2) e1
      exact k1 _ (hf.nx r' S2 s' m2 H1 w2 g2 k2 r2)
    · exact w2.elim⟩⟩
/-- a[i] = value -/
def ixD (n : Nat) (k : Int) : Option Nat := if 0 ≤ k then (if k < n then some k.toNat else none) else if -(n : Int) ≤ k then some (k + n).toNat else none
abbrev wStI (wo wi we : PE1) : PS1 := fun N r S => we r S fun x S1 => wo r S1 fun o S2 => wi r S2 fun k S3 => match o, k, x with
  | .r (.loc n), .r (.d (.int k)), .r (.d z) => match S3[n]? with
    | some (.lst xs) => match ixD xs.length k with
      | some j => N.nx r (S3.set n (.lst (xs.set j z)))
      | none => False
    | _ => False
  | _, _, _ => False
theorem ws_stI {o i : Expr} {wo : PE1} (ho : WE X o wo) (hi : WE X i wi) (he : WE X e we) (hs : swapsWithSole [.Subscript o i p2] e pos.line X.env = pure false := by rfl) (hw : swappedStores [.Subscript o i p2] e X.env = pure none := by rfl)
    (h1 : (assignEach [.Subscript o i p2] X.env).map (·.2) = [assign (.Subscript o i p2) X.env] := by rfl)
    (ha : ∀ v, assign (.Subscript o i p2) X.env v = (do
      let ov ← holding [v] (eval o X.env)
      let iv ← holding [v, ov] (eval i X.env)
      standAt p2
      holding [v, ov, iv] (setItem ov iv v)
      release [v, ov, iv] []) := by intro _; rfl) : WS X (.Assign [.Subscript o i p2] e pos) (wStI wo wi we) :=
  ⟨psImp (ps_asg he.pe (pg_sub ho.pe hi.pe set_list ha) hs hw h1) fun D s H ⟨m, r, S, N, hE, hS, hw, hf⟩ => up1 hE hS hw fun x S1 v m1 H1 h1 g1 r1 q1 => up2 (hE.grow g1) r1 h1 fun y z S3 u w m3 H3 h3 g3 r3 qo qi => by
    split at h3
    · rename_i n k d
      split at h3
      · rename_i xs e1
        split at h3
        · rename_i j e2
          obtain ⟨a, k1, rfl⟩ := qo
          obtain ⟨a', k1', vs, k2, k3⟩ := r3.at_ n _ e1
          rw [k1] at k1'; cases k1'
          have qd : RepD X.K H3 d v := RepD.grow g3 d v q1
          refine ⟨a, vs, k, j, rfl, qi, k2, ?_, ?_⟩
          · rw [RepDs.len k3]; exact e2
          · have gw := Grow.write (m := m3) (vs' := vs.set j v) k1 k2
            exact hf.nx r _ s m3 _ h3 ((g1.trans g3).trans gw) (((hE.grow g1).grow g3).grow gw) (r3.write k1 k2 (k3.set j qd))
        · exact h3.elim
      · exact h3.elim
    · exact h3.elim⟩
end
end Z

set_option Elab.async false
set_option linter.all false
set_option maxRecDepth 100000
/-! Z5: loops, what is walked, comprehensions, list methods. -/
namespace Z
open PySem PySem.Spec PyProof.Rows L2 RZ

/-! ### leaving what is no longer wanted -/
mutual
def noLoc : R → Bool
  | .loc _ => false
  | .tr xs => noLocs xs
  | .d _ => true
  | .ro _ => true
  | .ex _ => true
  | .ad _ => true
def noLocs : List R → Bool
  | [] => true
  | x :: r => noLoc x && noLocs r
end
section
variable {K : PySem.W.Frag} {m m1 : List Addr} {H : Hp}
mutual
theorem RepR.free : ∀ (x : R) (v : V), noLoc x = true → RepR K m H x v → RepR K m1 H x v
  | .d _, _, _, h => h
  | .loc _, _, n, _ => by simp [noLoc] at n
  | .ro _, _, _, h => h
  | .tr xs, _, n, ⟨a, vs, e, h, r⟩ => ⟨a, vs, e, h, RepRs.free xs vs (by simpa [noLoc] using n) r⟩
  | .ex _, _, _, h => h
  | .ad _, _, _, h => h
theorem RepRs.free : ∀ (xs : List R) (vs : List V), noLocs xs = true → RepRs K m H xs vs → RepRs K m1 H xs vs
  | [], _, _, h => h
  | x :: xs, _, n, ⟨v, r, e, h, t⟩ => by
    rw [noLocs, Bool.and_eq_true] at n
    exact ⟨v, r, e, RepR.free x v n.1 h, RepRs.free xs r n.2 t⟩
end
end
def kept (ls : List Nat) : Option R → Option R
  | some (.d x) => some (.d x)
  | some (.ro x) => some (.ro x)
  | some (.ex x) => some (.ex x)
  | some (.ad x) => some (.ad x)
  | some (.tr xs) => if noLocs xs = true then some (.tr xs) else none
  | some (.loc n) => if n ∈ ls then some (.loc (ls.idxOf n)) else none
  | _ => none
/-- the store is what stood at the numbers ls, renumbered in this order; the first k stay -/
def Cut (k : Nat) (r : Rho) (S : Sto) (r' : Rho) (S' : Sto) : Prop :=
  (r' = r ∧ S' = S) ∨ ∃ ls : List Nat, ls.Nodup ∧ ls.take k = List.range k ∧ (∀ n ∈ ls, n < S.length) ∧ r' = r.map (kept ls) ∧ S' = ls.filterMap (S[·]?)
theorem Cut.refl {k : Nat} {r : Rho} {S : Sto} : Cut k r S r S := .inl ⟨rfl, rfl⟩
theorem Cut.to {k n : Nat} {r : Rho} {S : Sto} (h : k ≤ n) (h2 : n ≤ S.length) : Cut k r S (r.map (kept (List.range n))) (S.take n) := by
  refine .inr ⟨List.range n, List.nodup_range, ?_, fun i hi => ?_, rfl, ?_⟩
  · rw [List.take_range, Nat.min_eq_left h]
  · have := List.mem_range.mp hi; omega
  · symm
    clear h
    induction n with
    | zero => simp
    | succ n ih =>
      have hn : n < S.length := by omega
      rw [List.range_succ, List.filterMap_append, ih (by omega), List.take_add_one, List.getElem?_eq_getElem hn, List.filterMap_cons, List.getElem?_eq_getElem hn]
      rfl
section
variable {K : PySem.W.Frag} {m m0 m1 m2 : List Addr} {H H0 H1 H2 : Hp} {S S' S1 S2 : Sto} {r r' : Rho} {N : En} {D : Ends}
theorem filterMap_get {α : Type} {S : List α} : ∀ {ls : List Nat}, (∀ n ∈ ls, n < S.length) → ∀ i : Nat, (ls.filterMap (S[·]?))[i]? = ls[i]?.bind (S[·]?)
  | [], _, i => by simp
  | n :: ls, h, i => by
    have hn := h n (by simp)
    rw [List.filterMap_cons, List.getElem?_eq_getElem hn]
    cases i with
    | zero => simp
    | succ i => simpa using filterMap_get (ls := ls) (fun k hk => h k (by simp [hk])) i
theorem filterMap_len {α : Type} {S : List α} : ∀ {ls : List Nat}, (∀ n ∈ ls, n < S.length) → (ls.filterMap (S[·]?)).length = ls.length
  | [], _ => rfl
  | n :: ls, h => by
    have hn := h n (by simp)
    rw [List.filterMap_cons, List.getElem?_eq_getElem hn]
    simpa using filterMap_len (ls := ls) (fun k hk => h k (by simp [hk]))
theorem Cut.ok {k : Nat} {s : L2.St} (c : Cut k r S r' S') (hk : m0.length = k) (g : Grow m0 H0 m H) (hE : RepE K m H r s) (hS : RepS K m H S) :
    ∃ m', Grow m0 H0 m' H ∧ RepE K m' H r' s ∧ RepS K m' H S' := by
  rcases c with ⟨rfl, rfl⟩ | ⟨ls, nd, pre, lt, rfl, rfl⟩
  · exact ⟨m, g, hE, hS⟩
  · have lt' : ∀ n ∈ ls, n < m.length := fun n hn => by rw [hS.len]; exact lt n hn
    have get : ∀ i : Nat, (ls.filterMap (m[·]?))[i]? = ls[i]?.bind (m[·]?) := filterMap_get lt'
    have sub : ∀ b, b ∈ ls.filterMap (m[·]?) → b ∈ m := fun b hb => by
      obtain ⟨n, _, e⟩ := List.mem_filterMap.mp hb
      exact List.mem_of_getElem? e
    have at_ : ∀ n, n ∈ ls → (ls.filterMap (m[·]?))[ls.idxOf n]? = m[n]? := fun n hn => by
      rw [get, List.getElem?_eq_getElem (List.idxOf_lt_length_iff.mpr hn)]
      simp
    refine ⟨ls.filterMap (m[·]?), ⟨fun n a e => ?_, g.tup, g.frz, g.xt, g.frame, fun b hb hn => g.new b (sub b hb) hn⟩, ⟨by simp [hE.len], fun i x e => ?_⟩, ⟨?_, ?_, fun n o e => ?_⟩⟩
    · have hn : n < k := by rw [← hk]; exact (List.getElem?_eq_some_iff.mp e).1
      have : ls[n]? = some n := by
        have h1 : (ls.take k)[n]? = some n := by rw [pre]; simp [hn]
        rw [List.getElem?_take_of_lt hn] at h1
        exact h1
      rw [get, this]
      exact g.pre n a e
    · rw [List.getElem?_map, Option.map_eq_some_iff] at e
      obtain ⟨o, e1, e2⟩ := e
      cases o with
      | none => cases e2
      | some y =>
        obtain ⟨v, h1, h2⟩ := hE.at_ i y e1
        refine ⟨v, h1, ?_⟩
        cases y with
        | d z => cases e2; exact h2
        | ro z => cases e2; exact h2
        | ex z => cases e2; exact h2
        | ad z => cases e2; exact h2
        | tr z =>
          simp only [kept] at e2
          split at e2
          · rename_i hn
            cases e2
            exact RepR.free (.tr z) v (by simpa [noLoc] using hn) h2
          · cases e2
        | loc n =>
          simp only [kept] at e2
          split at e2
          · rename_i hn
            cases e2
            obtain ⟨a, h3, h4⟩ := h2
            exact ⟨a, by rw [at_ n hn]; exact h3, h4⟩
          · cases e2
    · have inj : ∀ {ls : List Nat}, ls.Nodup → (∀ n ∈ ls, n < m.length) → (ls.filterMap (m[·]?)).Nodup := by
        intro ls
        induction ls with
        | nil => intro _ _; simp
        | cons n ls ih =>
          intro h1 h2
          rw [List.filterMap_cons, List.getElem?_eq_getElem (h2 n (by simp))]
          refine List.nodup_cons.mpr ⟨fun hm => ?_, ih (List.nodup_cons.mp h1).2 fun k hk => h2 k (by simp [hk])⟩
          obtain ⟨j, hj, e⟩ := List.mem_filterMap.mp hm
          obtain ⟨l1, e1⟩ := List.getElem?_eq_some_iff.mp e
          have := (List.getElem_inj hS.nd).mp e1
          subst this
          exact (List.nodup_cons.mp h1).1 hj
      exact inj nd lt'
    · rw [filterMap_len lt', filterMap_len lt]
    · rw [filterMap_get lt, Option.bind_eq_some_iff] at e
      obtain ⟨j, e1, e2⟩ := e
      obtain ⟨a, h1, h2⟩ := hS.at_ j o e2
      exact ⟨a, by rw [get, e1]; exact h1, h2⟩
end

section
variable {X : Cx} {st : Stmt} {body : List Stmt} {e a b c iter tg : Expr} {es : List Expr} {pos p2 : Pos} {wa wb we wi : PE1} {ws was : PA1} {t u tb : PS1} {tc tt : PT1}
/-! ### while -/
/-- I: the invariant by a measure that falls -/
abbrev wWhile (t : PT1) (body : PS1) : PS1 := fun N r S => ∃ I : Nat → Rho → Sto → Prop, (∃ n, I n r S) ∧ ∀ n r1 S1, I n r1 S1 →
  t r1 S1 fun b S2 => if b = true then body { nx := fun r2 S3 => ∃ r3 S4, Cut S.length r2 S3 r3 S4 ∧ ∃ k, k < n ∧ I k r3 S4, rt := N.rt, bk := N.nx, ct := fun r2 S3 => ∃ r3 S4, Cut S.length r2 S3 r3 S4 ∧ ∃ k, k < n ∧ I k r3 S4 } r1 S2 else N.nx r1 S2
theorem ws_while (hp : PassesOwn (model X.prog X.w) X.A X.env X.xe) (hc : WT X c tc) (hb : WSs X body tb) : WS X (.While c body [] pos) (wWhile tc tb) :=
  ⟨psImp (ps_while hp hc.pt hb.pss) fun D s H ⟨m, r, S, N, hE, hS, hw, hf⟩ => by
    obtain ⟨I, ⟨n, h0⟩, step⟩ := hw
    refine ⟨fun k s1 H1 => ∃ m1 r1 S1, Grow m H m1 H1 ∧ RepE X.K m1 H1 r1 s1 ∧ RepS X.K m1 H1 S1 ∧ I k r1 S1, ⟨n, m, r, S, Grow.refl, hE, hS, h0⟩, ?_⟩
    rintro k s1 H1 ⟨m1, r1, S1, g1, e1, q1, i1⟩
    refine ⟨m1, r1, S1, _, e1, q1, step k r1 S1 i1, fun b S2 m2 H2 h2 g2 r2 => ?_⟩
    cases b with
    | false =>
      rw [if_neg Bool.false_ne_true]
      exact hf.nx r1 S2 s1 m2 H2 h2 (g1.trans g2) (e1.grow g2) r2
    | true =>
      rw [if_pos rfl] at h2 ⊢
      have again : ∀ r3 S3 s3 m3 H3, (∃ r4 S4, Cut S.length r3 S3 r4 S4 ∧ ∃ j, j < k ∧ I j r4 S4) → Grow m2 H2 m3 H3 → RepE X.K m3 H3 r3 s3 → RepS X.K m3 H3 S3 →
          ∃ m', m' < k ∧ ∃ m1 r1 S1, Grow m H m1 H3 ∧ RepE X.K m1 H3 r1 s3 ∧ RepS X.K m1 H3 S1 ∧ I m' r1 S1 := fun r3 S3 s3 m3 H3 ⟨r4, S4, cu, j, hj, i4⟩ g3 e3 q3 => by
        obtain ⟨m4, g4, e4, q4⟩ := cu.ok hS.len ((g1.trans g2).trans g3) e3 q3
        exact ⟨j, hj, m4, r4, S4, g4, e4, q4, i4⟩
      refine ⟨fun s3 H3 => ∃ m', m' < k ∧ ∃ m1 r1 S1, Grow m H m1 H3 ∧ RepE X.K m1 H3 r1 s3 ∧ RepS X.K m1 H3 S1 ∧ I m' r1 S1, fun s3 H3 h => h, m2, r1, S2, _, e1.grow g2, r2, h2, ⟨again, ?_, ?_, again⟩⟩
      · exact fun x S' v m' H' n g' q' w' => hf.rt x S' v m' H' n ((g1.trans g2).trans g') q' w'
      · exact fun r' S' s' m' H' n g' e' q' => hf.nx r' S' s' m' H' n ((g1.trans g2).trans g') e' q'⟩

/-! ### what is walked -/
structure It1 where
  items : List R
  chk : Sto → Prop := fun _ => True
structure ItOk (K : PySem.W.Frag) (m0 : List Addr) (H0 : Hp) (J : It) (it : It1) : Prop where
  run : ∀ (i : Nat) m H S, Grow m0 H0 m H → RepS K m H S → it.chk S →
    (∀ x, it.items[i]? = some x → J.go i H ∧ ∀ v H', J.yld i H v H' → Grow m H m H' ∧ RepS K m H' S ∧ RepR K m H' x v) ∧ (it.items[i]? = none → J.stop i H)
abbrev PI1 := Rho → Sto → (It1 → Sto → Prop) → Prop
def upI (K : PySem.W.Frag) (w : PI1) : TI := fun s H R => ∃ m r S W, RepE K m H r s ∧ RepS K m H S ∧ w r S W ∧ ∀ it S' m' H' J, W it S' → Grow m H m' H' → RepS K m' H' S' → ItOk K m' H' J it → R J H'
structure WI (X : Cx) (tg iter : Expr) (w : PI1) : Prop where
  pi : PI X tg iter (upI X.K w)
theorem piImp {ti ti' : TI} (h : PI X tg iter ti) (k : ∀ s H R, ti' s H R → ti s H R) : PI X tg iter ti' := ⟨fun pins s z H R I q => h.run pins s z H R I (k _ _ _ q)⟩
/-- the items of a value, and what must stay as it is while they are walked -/
abbrev itOf (S : Sto) (x : SV) : Option It1 := match x with
  | .r (.loc n) => match S[n]? with
    | some (.lst xs) => some ⟨xs.map R.d, fun S => S[n]? = some (.lst xs)⟩
    | _ => none
  | .r (.tr xs) => some { items := xs }
  | x => (seqOf S x).map fun xs => { items := xs.map R.d }
/-- at each later state the value stands as it stood -/
theorem itOf_seq {K : PySem.W.Frag} {m0 : List Addr} {H0 Hs : Hp} {S : Sto} {x : SV} {v : V} {it : It1} (e : itOf S x = some it) (q : RepV K m0 H0 Hs x v) (r : RepS K m0 H0 S) :
    ∃ a, v = .ref a ∧ ∀ m H S', Grow m0 H0 m H → RepS K m H S' → it.chk S' → ∃ vs, RepRs K m H it.items vs ∧ if isLst x = true then SqL K H a vs else SqT K H a vs := by
  cases x with
  | f ys =>
    simp only [itOf, seqOf, Option.map_some, Option.some.injEq] at e
    subst e
    obtain ⟨a, _, rfl, _⟩ := id q
    refine ⟨a, rfl, fun m H S' g r' _ => ?_⟩
    obtain ⟨b, vs, eb, h1, h2⟩ := (q.grow g).seq r' (x := .f ys) rfl
    cases eb
    exact ⟨vs, repR_map h1, h2⟩
  | r y =>
    cases y with
    | ex ys => simp [itOf, seqOf] at e
    | ad ys => simp [itOf, seqOf] at e
    | tr ys =>
      simp only [itOf, Option.some.injEq] at e
      subst e
      obtain ⟨a, vs, rfl, h1, h2⟩ := q
      exact ⟨a, rfl, fun m H S' g r' _ => ⟨vs, RepRs.grow g _ _ h2, by rw [if_neg (by simp [isLst])]; exact rd_tup g h1⟩⟩
    | ro ys =>
      simp only [itOf, seqOf, Option.map_some, Option.some.injEq] at e
      subst e
      obtain ⟨a, vs, rfl, h1, h2⟩ := q
      exact ⟨a, rfl, fun m H S' g r' _ => ⟨vs, repR_map (RepDs.grow g _ _ h2), by rw [if_pos (by simp [isLst])]; exact (h1.grow g).sq⟩⟩
    | loc n =>
      obtain ⟨a, h1, rfl⟩ := q
      simp only [itOf] at e
      split at e
      · rename_i xs e1
        cases e
        refine ⟨a, rfl, fun m H S' g r' hc => ?_⟩
        obtain ⟨a', h2, vs, h3, h4⟩ := r'.at_ n _ hc
        rw [g.pre n a h1] at h2; cases h2
        exact ⟨vs, repR_map h4, by rw [if_pos (by simp [isLst])]; exact .inl (.inl h3)⟩
      · cases e
    | d y =>
      cases y with
      | tup ys =>
        simp only [itOf, seqOf, Option.map_some, Option.some.injEq] at e
        subst e
        obtain ⟨a, vs, rfl, h1, h2⟩ := q
        exact ⟨a, rfl, fun m H S' g r' _ => ⟨vs, repR_map (RepDs.grow g _ _ h2), by rw [if_neg (by simp [isLst])]; exact rd_tup g h1⟩⟩
      | lst ys =>
        simp only [itOf, seqOf, Option.map_some, Option.some.injEq] at e
        subst e
        obtain ⟨a, vs, rfl, h1, h2⟩ := q
        exact ⟨a, rfl, fun m H S' g r' _ => ⟨vs, repR_map (RepDs.grow g _ _ h2), by rw [if_pos (by simp [isLst])]; exact (h1.grow g).sq⟩⟩
      | non => simp [itOf, seqOf] at e
      | bl _ => simp [itOf, seqOf] at e
      | int _ => simp [itOf, seqOf] at e
      | str _ => simp [itOf, seqOf] at e
abbrev wIt (w : PE1) : PI1 := fun r S W => w r S fun x S1 => match itOf S1 x with
  | some it => W it S1
  | none => False
theorem itok_lst {K : PySem.W.Frag} {m0 : List Addr} {H0 : Hp} {a : Addr} {it : It1} (h : ∀ m H S', Grow m0 H0 m H → RepS K m H S' → it.chk S' → ∃ vs, RepRs K m H it.items vs ∧ SqL K H a vs) : ItOk K m0 H0 (Itl K a) it :=
  ⟨fun i m H S g r hc => by
    obtain ⟨vs, h1, h2⟩ := h m H S g r hc
    refine ⟨fun x e => ?_, fun e => ⟨vs, h2, ?_⟩⟩
    · obtain ⟨v, h3, h4⟩ := RepRs.get h1 e
      refine ⟨⟨vs, v, h2, h3⟩, fun u H' ⟨e1, e2⟩ => ?_⟩
      subst e1
      have := (e2 vs h2).symm.trans h3
      cases this
      exact ⟨Grow.refl, r, h4⟩
    · rw [RepRs.len h1]; exact List.getElem?_eq_none_iff.mp e⟩
theorem itok_tup {K : PySem.W.Frag} {m0 : List Addr} {H0 : Hp} {a : Addr} {it : It1} (h : ∀ m H S', Grow m0 H0 m H → RepS K m H S' → it.chk S' → ∃ vs, RepRs K m H it.items vs ∧ SqT K H a vs) : ItOk K m0 H0 (Itt K a) it :=
  ⟨fun i m H S g r hc => by
    obtain ⟨vs, h1, h2⟩ := h m H S g r hc
    refine ⟨fun x e => ?_, fun e => ⟨vs, h2, ?_⟩⟩
    · obtain ⟨v, h3, h4⟩ := RepRs.get h1 e
      refine ⟨⟨vs, v, h2, h3⟩, fun u H' ⟨e1, e2⟩ => ?_⟩
      subst e1
      have := (e2 vs h2).symm.trans h3
      cases this
      exact ⟨Grow.refl, r, h4⟩
    · rw [RepRs.len h1]; exact List.getElem?_eq_none_iff.mp e⟩
/-- a for over a list or a tuple -/
theorem piOr {ti ti' : TI} (h : PI X tg iter ti) (k : PI X tg iter ti') : PI X tg iter (fun s H R => ti s H R ∨ ti' s H R) := ⟨fun pins s z H R I q => q.elim (h.run pins s z H R I) (k.run pins s z H R I)⟩
/-- a for over any of these, decided behind the evaluation -/
theorem pi_seq {te : TE} (he : PE X e te) : PI X tg e (fun s H R => te s H fun x H1 => ∃ a, x = .ref a ∧ ((∃ xs, SqL X.K H1 a xs) ∧ R (Itl X.K a) H1 ∨ (∃ xs, SqT X.K H1 a xs) ∧ R (Itt X.K a) H1)) := by
  refine ⟨fun pins s σ H R I h => ?_⟩
  refine thn (he.run pins s σ H _ I h) fun v s1 ⟨x, H1, I1, r1, q1⟩ => ?_
  obtain ⟨a, e, q | q⟩ := q1
  · obtain ⟨⟨xs, hq⟩, q⟩ := q
    subst e
    cases r1
    obtain ⟨its, rv, p, hz⟩ := I1.list hq
    refine wpAny_pyIter_list p.isList ?_
    refine ⟨s1.heap.objs.size, [s1.heap.objs.size], _, _, H1, rfl, I1.kept (t' := s1.toks) fun b o e => Heap.get?_push_of_some _ e, turn_list a _, ⟨_, Heap.get?_push_size _ rfl, rfl, rfl⟩, fun b hb => ?_, q⟩
    have e : b = s1.heap.objs.size := by simpa using hb
    subst e
    exact I1.fpOk (Nat.le_refl _) (I1.hok.fresh (Nat.le_refl _))
  · obtain ⟨⟨xs, hq⟩, q⟩ := q
    subst e
    cases r1
    obtain ⟨its, rv, p, hz⟩ := I1.tuple hq
    refine wpAny_pyIter_tuple (show s1.heap.IsTuple a its.toArray from p) ?_
    refine ⟨s1.heap.objs.size, [s1.heap.objs.size], _, _, H1, rfl, I1.kept (t' := s1.toks) fun b o e => Heap.get?_push_of_some _ e, turn_tuple a _, ⟨_, Heap.get?_push_size _ rfl, rfl, rfl⟩, fun b hb => ?_, q⟩
    have e : b = s1.heap.objs.size := by simpa using hb
    subst e
    exact I1.fpOk (Nat.le_refl _) (I1.hok.fresh (Nat.le_refl _))
theorem wi_seq (he : WE X e we) (hchk : True := trivial) : WI X tg e (wIt we) := ⟨piImp (pi_seq he.pe) fun s H R ⟨m, r, S, W, hE, hS, hw, hf⟩ => ⟨m, r, S, _, hE, hS, hw, fun x S1 v m1 H1 h1 g1 r1 q1 => by
  split at h1
  · rename_i it e1
    obtain ⟨a, rfl, h2⟩ := itOf_seq e1 q1 r1
    have hc : it.chk S1 := by
      unfold itOf at e1
      split at e1
      · split at e1
        · rename_i hh
          cases e1; exact hh
        · cases e1
      · cases e1; trivial
      · rw [Option.map_eq_some_iff] at e1
        obtain ⟨_, _, rfl⟩ := e1
        trivial
    refine ⟨a, rfl, ?_⟩
    obtain ⟨vs, k1, k2⟩ := h2 m1 H1 S1 Grow.refl r1 hc
    by_cases hl : isLst x = true
    · rw [if_pos hl] at k2
      exact .inl ⟨⟨vs, k2⟩, hf it S1 m1 H1 _ h1 g1 r1 (itok_lst fun m H S' g r' hc' => by
        obtain ⟨us, k3, k4⟩ := h2 m H S' g r' hc'
        rw [if_pos hl] at k4
        exact ⟨us, k3, k4⟩)⟩
    · rw [if_neg hl] at k2
      exact .inr ⟨⟨vs, k2⟩, hf it S1 m1 H1 _ h1 g1 r1 (itok_tup fun m H S' g r' hc' => by
        obtain ⟨us, k3, k4⟩ := h2 m H S' g r' hc'
        rw [if_neg hl] at k4
        exact ⟨us, k3, k4⟩)⟩
  · exact h1.elim⟩⟩
/-- range(n), range(a, b) -/
def rgR (lo : Int) (n : Nat) : List R := (List.range n).map fun i => R.d (.int (lo + (i : Nat)))
theorem itok_rng {K : PySem.W.Frag} {m0 : List Addr} {H0 : Hp} {lo : Int} {n : Nat} : ItOk K m0 H0 (Itr lo n) { items := rgR lo n } :=
  ⟨fun i m H S g r hc => ⟨fun x e => by
    have hi : i < n := by
      have := (List.getElem?_eq_some_iff.mp e).1
      simpa [rgR] using this
    have ex : x = R.d (.int (lo + (i : Nat))) := by
      simp only [rgR, List.getElem?_map, List.getElem?_range hi, Option.map_some, Option.some.injEq] at e
      exact e.symm
    refine ⟨hi, fun v H' ⟨e1, e2⟩ => ?_⟩
    subst e1 ex
    exact ⟨Grow.refl, r, e2⟩, fun e => by
    have := List.getElem?_eq_none_iff.mp e
    show n ≤ i
    simpa [rgR] using this⟩⟩
abbrev wRng1 (ws : PA1) : PI1 := fun r S W => ws r S fun xs S1 => match xs with
  | [.r (.d (.int j))] => j ≤ 16777216 ∧ -16777216 ≤ j ∧ W { items := rgR 0 j.toNat } S1
  | _ => False
abbrev wRng2 (ws : PA1) : PI1 := fun r S W => ws r S fun xs S1 => match xs with
  | [.r (.d (.int i)), .r (.d (.int j))] => (j ≤ 16777216 ∧ -16777216 ≤ j ∧ i ≤ 16777216 ∧ -16777216 ≤ i) ∧ W { items := rgR i (j - i).toNat } S1
  | _ => False
theorem wi_rng1 {p : Pos} (hg : Gl X "range") (hm : X.mg "range" = none) (ha : WA X [a] ws) (hs : starEach [a] X.env = [(false, eval a X.env)] := by rfl) : WI X tg (.Call (.Name "range" p) [a] [] pos) (wRng1 ws) :=
  ⟨piImp (pi_range1 hg hm ha.pa hs) fun s H R ⟨m, r, S, W, hE, hS, hw, hf⟩ => ⟨m, r, S, _, hE, hS, hw, fun xs S1 vs m1 H1 h1 g1 r1 q1 => by
    split at h1
    · rename_i j
      obtain ⟨v, rfl, q⟩ := q1.one
      exact ⟨j, by rw [show v = V.int j from q], by have := h1.2.1; omega, by have := h1.1; omega, hf _ S1 m1 H1 _ h1.2.2 g1 r1 itok_rng⟩
    · exact h1.elim⟩⟩
theorem wi_rng2 {p : Pos} (hg : Gl X "range") (hm : X.mg "range" = none) (ha : WA X [a, b] ws) (hs : starEach [a, b] X.env = [(false, eval a X.env), (false, eval b X.env)] := by rfl) (hs2 : starEach [b] X.env = [(false, eval b X.env)] := by rfl) : WI X tg (.Call (.Name "range" p) [a, b] [] pos) (wRng2 ws) :=
  ⟨piImp (pi_range2 hg hm ha.pa hs hs2) fun s H R ⟨m, r, S, W, hE, hS, hw, hf⟩ => ⟨m, r, S, _, hE, hS, hw, fun xs S1 vs m1 H1 h1 g1 r1 q1 => by
    split at h1
    · rename_i i j
      obtain ⟨v, u, rfl, q, q'⟩ := q1.two
      obtain ⟨⟨a1, a2, a3, a4⟩, h1⟩ := h1
      exact ⟨i, j, by rw [show v = V.int i from q, show u = V.int j from q'], ⟨by omega, by omega, by omega, by omega⟩, hf _ S1 m1 H1 _ h1 g1 r1 itok_rng⟩
    · exact h1.elim⟩⟩
/-- zip of two lists or of two tuples -/
def prs : List R → List R → List R
  | .d x :: xs, .d y :: ys => .d (.tup [x, y]) :: prs xs ys
  | _, _ => []
def allD : List R → Bool
  | [] => true
  | .d _ :: r => allD r
  | _ :: _ => false
theorem prs_get : ∀ {xs ys : List R} {i : Nat} {z : R}, (prs xs ys)[i]? = some z → ∃ x y, xs[i]? = some (.d x) ∧ ys[i]? = some (.d y) ∧ z = .d (.tup [x, y])
  | .d x :: xs, .d y :: ys, 0, z, e => by simp [prs] at e; exact ⟨x, y, rfl, rfl, e.symm⟩
  | .d x :: xs, .d y :: ys, i + 1, z, e => by simpa using prs_get (xs := xs) (ys := ys) (i := i) (z := z) (by simpa [prs] using e)
  | [], _, i, z, e => by simp [prs] at e
  | .loc _ :: _, _, i, z, e => by simp [prs] at e
  | .ro _ :: _, _, i, z, e => by simp [prs] at e
  | .tr _ :: _, _, i, z, e => by simp [prs] at e
  | .d _ :: _, [], i, z, e => by simp [prs] at e
  | .d _ :: _, .loc _ :: _, i, z, e => by simp [prs] at e
  | .d _ :: _, .ro _ :: _, i, z, e => by simp [prs] at e
  | .d _ :: _, .tr _ :: _, i, z, e => by simp [prs] at e
theorem prs_none : ∀ {xs ys : List R} {i : Nat}, allD xs = true → allD ys = true → (prs xs ys)[i]? = none → xs.length ≤ i ∨ ys.length ≤ i
  | [], _, i, _, _, _ => .inl (by simp)
  | _ :: _, [], i, _, _, _ => .inr (by simp)
  | .d x :: xs, .d y :: ys, 0, _, _, e => by simp [prs] at e
  | .d x :: xs, .d y :: ys, i + 1, h1, h2, e => by
    have := prs_none (xs := xs) (ys := ys) (i := i) (by simpa [allD] using h1) (by simpa [allD] using h2) (by simpa [prs] using e)
    simpa using this
  | .loc _ :: _, _ :: _, i, h, _, _ => by simp [allD] at h
  | .ro _ :: _, _ :: _, i, h, _, _ => by simp [allD] at h
  | .tr _ :: _, _ :: _, i, h, _, _ => by simp [allD] at h
  | .d _ :: _, .loc _ :: _, i, _, h, _ => by simp [allD] at h
  | .d _ :: _, .ro _ :: _, i, _, h, _ => by simp [allD] at h
  | .d _ :: _, .tr _ :: _, i, _, h, _ => by simp [allD] at h
abbrev wZip (ws : PA1) : PI1 := fun r S W => ws r S fun xs S1 => match xs with
  | [x, y] => match itOf S1 x, itOf S1 y with
    | some i, some j => (isLst x = isLst y ∧ allD i.items = true ∧ allD j.items = true) ∧ W ⟨prs i.items j.items, fun S => i.chk S ∧ j.chk S⟩ S1
    | _, _ => False
  | _ => False
theorem itOf_chk {S : Sto} {x : SV} {it : It1} (e1 : itOf S x = some it) : it.chk S := by
  unfold itOf at e1
  split at e1
  · split at e1
    · rename_i hh
      cases e1; exact hh
    · cases e1
  · cases e1; trivial
  · rw [Option.map_eq_some_iff] at e1
    obtain ⟨_, _, rfl⟩ := e1
    trivial
theorem itok_zip {K : PySem.W.Frag} {m0 : List Addr} {H0 : Hp} {J : It} {i j : It1} (l : Bool) {a b : Addr} (h1 : allD i.items = true) (h2 : allD j.items = true)
    (hx : ∀ m H S', Grow m0 H0 m H → RepS K m H S' → i.chk S' → ∃ vs, RepRs K m H i.items vs ∧ if l = true then SqL K H a vs else SqT K H a vs)
    (hy : ∀ m H S', Grow m0 H0 m H → RepS K m H S' → j.chk S' → ∃ vs, RepRs K m H j.items vs ∧ if l = true then SqL K H b vs else SqT K H b vs)
    (hJ : J = if l = true then Itz K a b else ItzT K a b) : ItOk K m0 H0 J ⟨prs i.items j.items, fun S => i.chk S ∧ j.chk S⟩ :=
  ⟨fun k m H S g r hc => by
    obtain ⟨vs, k1, k2⟩ := hx m H S g r hc.1
    obtain ⟨us, k3, k4⟩ := hy m H S g r hc.2
    subst hJ
    refine ⟨fun z e => ?_, fun e => ?_⟩
    · obtain ⟨x, y, e1, e2, rfl⟩ := prs_get e
      obtain ⟨v, p1, p2⟩ := RepRs.get k1 e1
      obtain ⟨u, p3, p4⟩ := RepRs.get k3 e2
      have fin : ∀ T H', H T = none → H' = upd H T (.tup [v, u]) → Grow m H m H' ∧ RepS K m H' S ∧ RepR K m H' (.d (.tup [x, y])) (.ref T) := fun T H' n e' => by
        subst e'
        have gg : Grow m H m (upd H T (.tup [v, u])) := Grow.alloc n
        exact ⟨gg, r.alloc n, T, [v, u], rfl, .inl (.inl upd_same), v, [u], rfl, RepD.grow gg x v p2, u, [], rfl, RepD.grow gg y u p4, rfl⟩
      cases l with
      | true =>
        rw [if_pos rfl] at k2 k4 ⊢
        refine ⟨⟨vs, us, v, u, k2, k4, p1, p3⟩, fun w H' ⟨T, v', u', e3, n, e4, f1, f2⟩ => ?_⟩
        have q1 := (f1 vs k2).symm.trans p1
        have q2 := (f2 us k4).symm.trans p3
        cases q1; cases q2
        subst e3
        exact fin T H' n e4
      | false =>
        rw [if_neg Bool.false_ne_true] at k2 k4 ⊢
        refine ⟨⟨vs, us, v, u, k2, k4, p1, p3⟩, fun w H' ⟨T, v', u', e3, n, e4, f1, f2⟩ => ?_⟩
        have q1 := (f1 vs k2).symm.trans p1
        have q2 := (f2 us k4).symm.trans p3
        cases q1; cases q2
        subst e3
        exact fin T H' n e4
    · have hl := prs_none h1 h2 e
      rw [← RepRs.len k1, ← RepRs.len k3] at hl
      cases l with
      | true =>
        rw [if_pos rfl] at k2 k4 ⊢
        exact ⟨vs, us, k2, k4, hl⟩
      | false =>
        rw [if_neg Bool.false_ne_true] at k2 k4 ⊢
        exact ⟨vs, us, k2, k4, hl⟩⟩
theorem wi_zip {p tpos : Pos} {elts : List Expr} {kk : Nat} (hg : Gl X "zip") (hm : X.mg "zip" = none) (ha : WA X [a, b] ws)
    (hs : starEach [a, b] X.env = (false, eval a X.env) :: starEach [b] X.env := by rfl) (hpl : (backTo pos (starEach [b] X.env)).any (·.1) = false := by rfl) : WI X (.Tuple elts kk tpos) (.Call (.Name "zip" p) [a, b] [] pos) (wZip ws) :=
  ⟨piImp (pi_zipA hg hm ha.pa hs hpl) fun s H R ⟨m, r, S, W, hE, hS, hw, hf⟩ => ⟨m, r, S, _, hE, hS, hw, fun xs S1 vs m1 H1 h1 g1 r1 q1 => by
    split at h1
    · rename_i x y
      obtain ⟨v, u, rfl, qx, qy⟩ := q1.two
      split at h1
      · rename_i i j e1 e2
        obtain ⟨⟨hl, d1, d2⟩, h1⟩ := h1
        obtain ⟨a, rfl, hx⟩ := itOf_seq e1 qx r1
        obtain ⟨b, rfl, hy⟩ := itOf_seq e2 qy r1
        rw [← hl] at hy
        obtain ⟨vs, k1, k2⟩ := hx m1 H1 S1 Grow.refl r1 (itOf_chk e1)
        obtain ⟨us, k3, k4⟩ := hy m1 H1 S1 Grow.refl r1 (itOf_chk e2)
        refine ⟨a, b, vs, us, rfl, ?_⟩
        cases hb : isLst x with
        | true =>
          rw [hb] at k2 k4 hx hy
          rw [if_pos rfl] at k2 k4
          exact .inl ⟨k2, k4, hf _ S1 m1 H1 _ h1 g1 r1 (itok_zip true d1 d2 hx hy rfl)⟩
        | false =>
          rw [hb] at k2 k4 hx hy
          rw [if_neg Bool.false_ne_true] at k2 k4
          exact .inr ⟨k2, k4, hf _ S1 m1 H1 _ h1 g1 r1 (itok_zip false d1 d2 hx hy rfl)⟩
      · exact h1.elim
    · exact h1.elim⟩⟩

/-! ### for -/
def forL (k : Nat) (chk : Sto → Prop) (f : R → Rho → Option Rho) (body : PS1) (N : En) : List R → Rho → Sto → Prop
  | [], r, S => chk S ∧ N.nx r S
  | x :: xs, r, S => chk S ∧ match f x r with
    | some r1 => body { nx := fun r2 S2 => ∃ r3 S3, Cut k r2 S2 r3 S3 ∧ forL k chk f body N xs r3 S3, rt := N.rt, bk := N.nx, ct := fun r2 S2 => ∃ r3 S3, Cut k r2 S2 r3 S3 ∧ forL k chk f body N xs r3 S3 } r1 S
    | none => False
abbrev wFor (wi : PI1) (f : R → Rho → Option Rho) (body : PS1) : PS1 := fun N r S => wi r S fun it S1 => forL S1.length it.chk f body N it.items r S1
theorem ws_for {wi : PI1} {g : TG} {vs : List Nat} {f : R → Rho → Option Rho} (hp : PassesOwn (model X.prog X.w) X.A X.env X.xe) (hc : X.calm = true) (hi : WI X tg iter wi) (hg : PG X tg g) (ht : Tgt X.K g vs f) (hb : WSs X body tb)
    (hs : ∀ x, foldedSetIterable iter X.env x = pure x := by intro _; rfl) : WS X (.For tg iter body [] pos) (wFor wi f tb) :=
  ⟨psImp (ps_for hp hc hi.pi hg hb.pss hs) fun D s H ⟨m, r, S, N, hE, hS, hw, hf⟩ => ⟨m, r, S, _, hE, hS, hw, fun it S1 m1 H1 J h1 g1 r1 ok => by
    refine ⟨fun i n s2 H2 => ∃ m2 r2 S2, n = it.items.length - i ∧ Grow m1 H1 m2 H2 ∧ RepE X.K m2 H2 r2 s2 ∧ RepS X.K m2 H2 S2 ∧ forL S1.length it.chk f tb N (it.items.drop i) r2 S2, ⟨it.items.length, m1, r, S1, by simp, Grow.refl, hE.grow g1, r1, by simpa using h1⟩, ?_⟩
    rintro i n s2 H2 ⟨m2, r2, S2, rfl, g2, e2, q2, h2⟩
    cases e : it.items[i]? with
    | none =>
      have hl := List.getElem?_eq_none_iff.mp e
      rw [List.drop_eq_nil_of_le hl] at h2
      obtain ⟨h2, h3⟩ := h2
      exact .inl ⟨(ok.run i m2 H2 S2 g2 q2 h2).2 e, hf.nx r2 S2 s2 m2 H2 h3 (g1.trans g2) e2 q2⟩
    | some x =>
      obtain ⟨hl, ex⟩ := List.getElem?_eq_some_iff.mp e
      rw [List.drop_eq_getElem_cons hl, ex] at h2
      obtain ⟨h2, h3⟩ := h2
      obtain ⟨go, yl⟩ := (ok.run i m2 H2 S2 g2 q2 h2).1 x e
      refine .inr ⟨go, fun s' H' => ∃ m', m' < it.items.length - i ∧ ∃ m2 r2 S2, m' = it.items.length - (i + 1) ∧ Grow m1 H1 m2 H' ∧ RepE X.K m2 H' r2 s' ∧ RepS X.K m2 H' S2 ∧ forL S1.length it.chk f tb N (it.items.drop (i + 1)) r2 S2, fun s' H' h => h, fun v H3 y3 => ?_⟩
      obtain ⟨g3, q3, qx⟩ := yl v H3 y3
      split at h3
      · rename_i r3 e3
        obtain ⟨s3, k1, k2, _⟩ := ht.run m2 H3 x v r2 r3 s2 qx (e2.grow g3) e3
        refine k1 _ ⟨m2, r3, S2, _, k2, q3, h3, ?_⟩
        have g23 := g2.trans g3
        have again : ∀ r' S' s' m' H', (∃ r4 S4, Cut S1.length r' S' r4 S4 ∧ forL S1.length it.chk f tb N (it.items.drop (i + 1)) r4 S4) → Grow m2 H3 m' H' → RepE X.K m' H' r' s' → RepS X.K m' H' S' →
            ∃ m', m' < it.items.length - i ∧ ∃ m2 r2 S2, m' = it.items.length - (i + 1) ∧ Grow m1 H1 m2 H' ∧ RepE X.K m2 H' r2 s' ∧ RepS X.K m2 H' S2 ∧ forL S1.length it.chk f tb N (it.items.drop (i + 1)) r2 S2 := fun r' S' s' m' H' ⟨r4, S4, cu, h4⟩ g' e' q' => by
          obtain ⟨m4, g4, e4, q4⟩ := cu.ok r1.len (g23.trans g') e' q'
          exact ⟨_, by omega, m4, r4, S4, rfl, g4, e4, q4, h4⟩
        exact ⟨again, fun x S' v m' H' n g' q' w' => hf.rt x S' v m' H' n ((g1.trans g23).trans g') q' w', fun r' S' s' m' H' n g' e' q' => hf.nx r' S' s' m' H' n ((g1.trans g23).trans g') e' q', again⟩
      · exact h3.elim⟩⟩

/-! ### comprehensions -/
theorem Grow.own {m m1 : List Addr} {H H1 : Hp} {D : Addr} {o : HO} (g : Grow m H m1 H1) (h : H D = none) : Grow m H m1 (upd H1 D o) :=
  ⟨g.pre, fun b xs e => by rw [upd_ne (ne_of_none e h)]; exact g.tup b xs e, fun b ob u e => by rw [upd_ne (ne_of_none e h)]; exact g.frz b ob u e, fun b u e => by rw [upd_ne (ne_of_none e h)]; exact g.xt b u e, fun b u e hb => by rw [upd_ne (ne_of_none e h)]; exact g.frame b u e hb, g.new⟩
theorem RepS.own {K : PySem.W.Frag} {m : List Addr} {H : Hp} {S : Sto} {D : Addr} {vs vs' : List V} (r : RepS K m H S) (hm : D ∉ m) (hD : H D = some (.lst vs)) : RepS K m (upd H D (.lst vs')) S :=
  ⟨r.nd, r.len, fun n o e => by
    obtain ⟨a, h1, h2⟩ := r.at_ n o e
    have ne : a ≠ D := fun q => hm (by rw [← q]; exact List.mem_of_getElem? h1)
    have gw : Grow [D] H [D] (upd H D (.lst vs')) := Grow.write (n := 0) rfl hD
    exact ⟨a, h1, h2.grow gw (upd_ne ne)⟩⟩
structure WTs (X : Cx) (ifs : List Expr) (w : PT1) : Prop where
  pts : PTs X ifs (upT X.K w)
abbrev wYes : PT1 := fun _ S W => W true S
theorem wts_nil : WTs X [] wYes := ⟨⟨fun pins s z H Q I ⟨m, r, S, W, hE, hS, hw, hf⟩ => (pts_nil (X := X)).run pins s z H Q I (hf true S m H hw Grow.refl hS)⟩⟩
theorem wts_one (h : WT X c tc) : WTs X [c] tc := ⟨⟨fun pins s z H Q I q => (pts_one h.pt).run pins s z H Q I q⟩⟩
def lcL (k : Nat) (chk : Sto → Prop) (f : R → Rho → Option Rho) (t : PT1) (w : PE1) (r : Rho) : List R → Sto → (List D → Sto → Prop) → Prop
  | [], S, W => chk S ∧ W [] S
  | x :: xs, S, W => chk S ∧ match f x r with
    | some r1 => t r1 S fun b S1 => if b = true then w r1 S1 fun y S2 => match y with
        | .r (.d z) => lcL k chk f t w r xs (S2.take k) fun zs S3 => W (z :: zs) S3
        | _ => False
      else lcL k chk f t w r xs (S1.take k) W
    | none => False
def wipeR (r : Rho) : List Nat → Rho
  | [] => r
  | v :: vs => (wipeR r vs).set v none
abbrev wLc (wi : PI1) (f : R → Rho → Option Rho) (t : PT1) (w : PE1) (own : List Nat) : PE1 := fun r S W => wi r S fun it S1 => it.items.length ≤ 16777216 ∧ lcL S1.length it.chk f t w (wipeR r own) it.items S1 fun zs S2 => W (.f zs) S2
theorem RepE.wipe {K : PySem.W.Frag} {m : List Addr} {H : Hp} {r : Rho} {s : L2.St} (h : RepE K m H r s) : ∀ vs : List Nat, RepE K m H (wipeR r vs) (L2.wipe s vs)
  | [] => h
  | v :: vs => by
    have ih := RepE.wipe h vs
    unfold wipeR L2.wipe
    refine ⟨by simp [ih.len], fun i x e => ?_⟩
    by_cases hi : v = i
    · subst hi
      by_cases hl : v < (wipeR r vs).length
      · rw [List.getElem?_set_self hl] at e; cases e
      · rw [List.getElem?_eq_none (by simpa using hl)] at e; cases e
    · rw [List.getElem?_set_ne hi] at e
      obtain ⟨u, h1, h2⟩ := ih.at_ i x e
      exact ⟨u, by rw [List.getElem?_set_ne hi]; exact h1, h2⟩
theorem RepS.take {K : PySem.W.Frag} {m m1 : List Addr} {H : Hp} {S : Sto} (h : RepS K m H S) (hp : ∀ (n : Nat) a, m1[n]? = some a → m[n]? = some a) : RepS K m1 H (S.take m1.length) := by
  have e : m1 = m.take m1.length := by
    refine List.ext_getElem? fun n => ?_
    by_cases hn : n < m1.length
    · rw [List.getElem?_take_of_lt hn, List.getElem?_eq_getElem hn]
      exact (hp n _ (List.getElem?_eq_getElem hn)).symm
    · rw [List.getElem?_eq_none (by omega), List.getElem?_eq_none (by rw [List.length_take]; omega)]
  have hle : m1.length ≤ m.length := by
    have := congrArg List.length e
    rw [List.length_take] at this; omega
  refine ⟨by rw [e]; exact h.nd.sublist (List.take_sublist _ _), by rw [List.length_take, ← h.len]; omega, fun n o e1 => ?_⟩
  have hn : n < m1.length := by
    by_cases hn : n < m1.length
    · exact hn
    · rw [List.getElem?_eq_none (by rw [List.length_take]; omega)] at e1; cases e1
  rw [List.getElem?_take_of_lt hn] at e1
  obtain ⟨a, h1, h2⟩ := h.at_ n o e1
  refine ⟨a, ?_, h2⟩
  rw [List.getElem?_eq_getElem hn]
  exact (hp n _ (List.getElem?_eq_getElem hn)).symm.trans h1
theorem wipe_wipe {s : L2.St} : ∀ vs : List Nat, L2.wipe (L2.wipe s vs) vs = L2.wipe s vs := by
  have key : ∀ (vs us : List Nat) (s : L2.St), (∀ i ∈ vs, i ∈ us) → L2.wipe (L2.wipe s vs) us = L2.wipe s us := by
    intro vs
    induction vs with
    | nil => intro us s _; rfl
    | cons v vs ih =>
      intro us s h
      show L2.wipe ((L2.wipe s vs).set v none) us = _
      rw [wipe_set (h v (by simp)), ih us s fun i hi => h i (by simp [hi])]
  exact fun vs => key vs vs s fun _ h => h
theorem lc_up {K : PySem.W.Frag} {g : TG} {vs own : List Nat} {f : R → Rho → Option Rho} (ht : Tgt K g vs f) (ho : ∀ i ∈ vs, i ∈ own) {s : L2.St} {H : Hp} {Q : VK} {wi : PI1} {w : PE1} (h : up K (wLc wi f tt w own) s H Q) : tLc (upI K wi) g (upT K tt) (up K w) own s H Q := by
  obtain ⟨m, r, S, W, hE, hS, hw, hf⟩ := h
  refine ⟨m, r, S, _, hE, hS, hw, fun it S1 m1 H1 J ⟨hz, h1⟩ g1 r1 ok D hD => ?_⟩
  have hE1 := (hE.grow g1).wipe own
  refine ⟨fun i n H2 => ∃ acc vs2 S2 W2, n = it.items.length - i ∧ acc.length ≤ i ∧ Grow m1 H1 m1 H2 ∧ RepS K m1 H2 S2 ∧ H2 D = some (.lst vs2) ∧ RepDs K H2 acc vs2 ∧ lcL S1.length it.chk f tt w (wipeR r own) (it.items.drop i) S2 W2 ∧ (∀ zs S3, W2 zs S3 → W (.f (acc ++ zs)) S3),
    ⟨it.items.length, [], [], S1, _, by simp, by simp, Grow.alloc hD, r1.alloc hD, upd_same, rfl, by simpa using h1, fun zs S3 h => by simpa using h⟩, ?_⟩
  rintro i n H2 ⟨acc, vs2, S2, W2, rfl, hacc, g2, r2, hD2, qa, h2, hW⟩
  have Dm : D ∉ m1 := r1.notmem hD
  cases e : it.items[i]? with
  | none =>
    have hl := List.getElem?_eq_none_iff.mp e
    rw [List.drop_eq_nil_of_le hl] at h2
    obtain ⟨h2, h3⟩ := h2
    refine .inl ⟨(ok.run i m1 H2 S2 g2 r2 h2).2 e, hf _ S2 _ m1 H2 (hW [] S2 h3) (g1.trans g2) r2 ⟨D, vs2, rfl, hD2, Dm, g1.fresh r1 hD, by simpa using qa⟩⟩
  | some x =>
    obtain ⟨hl, ex⟩ := List.getElem?_eq_some_iff.mp e
    rw [List.drop_eq_getElem_cons hl, ex] at h2
    obtain ⟨h2, h3⟩ := h2
    obtain ⟨go, yl⟩ := (ok.run i m1 H2 S2 g2 r2 h2).1 x e
    refine .inr ⟨go, fun H' => ∃ acc vs2 S2 W2, acc.length ≤ i + 1 ∧ Grow m1 H1 m1 H' ∧ RepS K m1 H' S2 ∧ H' D = some (.lst vs2) ∧ RepDs K H' acc vs2 ∧ lcL S1.length it.chk f tt w (wipeR r own) (it.items.drop (i + 1)) S2 W2 ∧ (∀ zs S3, W2 zs S3 → W (.f (acc ++ zs)) S3),
      fun H' ⟨acc', vs3, S3, W3, a1, a2, a3, a4, a5, a6, a7⟩ => ⟨it.items.length - (i + 1), by omega, acc', vs3, S3, W3, rfl, a1, a2, a3, a4, a5, a6, a7⟩, fun v H3 y3 => ?_⟩
    obtain ⟨g3, q3, qx⟩ := yl v H3 y3
    split at h3
    · rename_i r3 e3
      have g23 := g2.trans g3
      obtain ⟨s3, k1, k2, k3⟩ := ht.run m1 H3 x v _ r3 _ qx (hE1.grow g23) e3
      have hD3 : H3 D = some (.lst vs2) := g3.frame D _ hD2 Dm
      refine k1 _ ⟨(k3 own ho).trans (wipe_wipe own), m1, r3, S2, _, k2, q3, h3, fun b S4 m4 H4 h4 g4 r4 => ?_⟩
      have hD4 : H4 D = some (.lst vs2) := g4.frame D _ hD3 Dm
      -- back to the numbers of the loop's start
      have back : ∀ {m5 : List Addr} {H5 : Hp} {S5 : Sto}, Grow m1 H1 m5 H5 → RepS K m5 H5 S5 → Grow m1 H1 m1 H5 ∧ RepS K m1 H5 (S5.take S1.length) := fun {m5 H5 S5} g5 r5 => by
        refine ⟨⟨fun _ _ h => h, g5.tup, g5.frz, g5.xt, g5.frame, fun _ h n => absurd h n⟩, ?_⟩
        rw [← r1.len]
        exact r5.take g5.pre
      dsimp only at h4 ⊢
      cases b with
      | false =>
        rw [if_neg Bool.false_ne_true] at h4 ⊢
        obtain ⟨g5, r5⟩ := back (g23.trans g4) r4
        exact ⟨acc, vs2, _, W2, by omega, g5, r5, hD4, RepDs.grow g4 _ _ (RepDs.grow g3 _ _ qa), h4, hW⟩
      | true =>
        rw [if_pos rfl] at h4 ⊢
        refine ⟨m4, r3, S4, _, k2.grow g4, r4, h4, fun y S5 u m5 H5 h5 g5 r5 q5 => ?_⟩
        split at h5
        · rename_i z
          have g25 := (g3.trans g4).trans g5
          have hD5 : H5 D = some (.lst vs2) := g25.frame D _ hD2 Dm
          obtain ⟨g6, r6⟩ := back ((g23.trans g4).trans g5) r5
          have gw : Grow [D] H5 [D] (upd H5 D (.lst (vs2 ++ [u]))) := Grow.write (n := 0) rfl hD5
          have qa5 : RepDs K H5 acc vs2 := RepDs.grow g25 _ _ qa
          refine ⟨vs2, hD5, ?_, acc ++ [z], vs2 ++ [u], _, _, by simp; omega, g6.own hD, r6.own Dm hD5, upd_same, RepDs.grow gw _ _ (qa5.app (RepDs.one q5)), h5, fun zs S6 h6 => ?_⟩
          · rw [RepDs.len qa5, sizeLine_eq]; omega
          · rw [List.append_assoc]; exact hW _ S6 h6
        · exact h5.elim
    · exact h3.elim
end
end Z

set_option Elab.async false
set_option linter.all false
set_option maxRecDepth 100000
/-! Z6: comprehensions as expressions, list methods, calls, a def's promise. -/
namespace Z
open PySem PySem.Spec PyProof.Rows L2 RZ
section
variable {X : Cx} {st : Stmt} {body : List Stmt} {e a b c iter tg elt : Expr} {es ifs : List Expr} {pos p2 : Pos} {wa wb we wi : PE1} {ws was : PA1} {t u tb : PS1} {tc tt : PT1}
theorem we_lc {scope : Scope} {own : List (Str × Nat)} {wi : PI1} {g : TG} {vs : List Nat} {f : R → Rho → Option Rho} (hc : X.calm = true) (hN : X.N.Nodup) (hi : WI X tg iter wi) (ok : BlkOk X.N X.env.scope scope own)
    (hg : ∀ (s : Shared) (H : Hp) (C : Addr) (cl : List (Str × Addr)) (fp : List Addr), PG (X.blk s H scope (compEnvC scope cl C X.env) fp) tg g) (hT : Tgt X.K g vs f) (ho : ∀ i ∈ vs, i ∈ own.map (·.2))
    (ht : ∀ (s : Shared) (H : Hp) (C : Addr) (cl : List (Str × Addr)) (fp : List Addr), WTs (X.blk s H scope (compEnvC scope cl C X.env) fp) ifs tt)
    (he : ∀ (s : Shared) (H : Hp) (C : Addr) (cl : List (Str × Addr)) (fp : List Addr), WE (X.blk s H scope (compEnvC scope cl C X.env) fp) elt we) (hs : ∀ x, foldedSetIterable iter X.env x = pure x := by intro _; rfl) :
    WE X (.ListComp elt [⟨tg, iter, ifs, 0⟩] scope pos) (wLc wi f tt we (own.map (·.2))) :=
  ⟨peImp (pe_lc hc hN hi.pi ok hg (fun s H C cl fp => (ht s H C cl fp).pts) (fun s H C cl fp => (he s H C cl fp).pe) hs) fun s H Q h => lc_up hT ho h⟩
theorem ws_setLc {scope : Scope} {own : List (Str × Nat)} {wi : PI1} {g : TG} {vs : List Nat} {f : R → Rho → Option Rho} {i : Nat} {y : Str} {py spos : Pos} (hc : X.calm = true) (hN : X.N.Nodup) (hy : X.N[i]? = some y) (hyl : X.env.scope.names.lookup y = some .local)
    (hsw : swapsWith (.ListComp elt [⟨tg, iter, ifs, 0⟩] scope pos) (some (.Name y py)) spos.line X.env = pure true) (hi : WI X tg iter wi) (ok : BlkOk X.N X.env.scope scope own)
    (hg : ∀ (s : Shared) (H : Hp) (C : Addr) (cl : List (Str × Addr)) (fp : List Addr), PG (X.blk s H scope (compEnvC scope cl C X.env) fp) tg g) (hT : Tgt X.K g vs f) (ho : ∀ i ∈ vs, i ∈ own.map (·.2))
    (ht : ∀ (s : Shared) (H : Hp) (C : Addr) (cl : List (Str × Addr)) (fp : List Addr), WTs (X.blk s H scope (compEnvC scope cl C X.env) fp) ifs tt)
    (he : ∀ (s : Shared) (H : Hp) (C : Addr) (cl : List (Str × Addr)) (fp : List Addr), WE (X.blk s H scope (compEnvC scope cl C X.env) fp) elt we) (hs : ∀ x, foldedSetIterable iter X.env x = pure x := by intro _; rfl) :
    WS X (.Assign [.Name y py] (.ListComp elt [⟨tg, iter, ifs, 0⟩] scope pos) spos) (wSet i (wLc wi f tt we (own.map (·.2)))) :=
  ⟨psImp (ps_setLc hc hN hy hyl hsw hi.pi ok hg (fun s H C cl fp => (ht s H C cl fp).pts) (fun s H C cl fp => (he s H C cl fp).pe) hs) fun D s H hw => set_fin (fun Q h => lc_up hT ho h) hw⟩

/-! ### list methods -/
abbrev wApp (wo we : PE1) : PE1 := fun r S W => wo r S fun x S1 => match x with
  | .r (.loc n) => isLo S1 n = true ∧ we r S1 fun y S2 => match y with
    | .r (.d z) => match S2[n]? with
      | some (.lst xs) => xs.length < 16777216 ∧ W (.r (.d .non)) (S2.set n (.lst (xs ++ [z])))
      | _ => False
    | _ => False
  | _ => False
theorem RepS.lst {K : PySem.W.Frag} {m : List Addr} {H : Hp} {S : Sto} {n : Nat} {v : V} (r : RepS K m H S) (q : RepR K m H (.loc n) v) (hn : isLo S n = true) : ∃ a vs xs, v = .ref a ∧ m[n]? = some a ∧ H a = some (.lst vs) ∧ S[n]? = some (.lst xs) ∧ RepDs K H xs vs := by
  obtain ⟨a, h1, rfl⟩ := q
  obtain ⟨xs, e⟩ := isLo_get hn
  obtain ⟨a', h2, vs, h4, h5⟩ := r.at_ n _ e
  rw [h1] at h2; cases h2
  exact ⟨a, vs, xs, rfl, h1, h4, e, h5⟩
theorem we_app {o : Expr} {apos : Pos} {wo : PE1} (ho : WE X o wo) (he : WE X e we)
    (h : ∀ {to te : TE}, PE X o to → PE X e te → PE X (.Call (.Attribute o "append" apos) [e] [] pos) (tBM X.K "list" rAppend to (tCons te tNil)) := by
      intro _ _ ho he; exact pe_bm PySem.F.plainAttrs_list PySem.F.slot_list_append PySem.F.type_list_append mt_append ho (pa_cons he pa_nil)) : WE X (.Call (.Attribute o "append" apos) [e] [] pos) (wApp wo we) :=
  ⟨peImp (h ho.pe he.pe) fun s H Q ⟨m, r, S, W, hE, hS, hw, hf⟩ => up1 hE hS hw fun x S1 v m1 H1 h1 g1 r1 q1 => by
    split at h1
    · rename_i n
      obtain ⟨hn, h1⟩ := h1
      obtain ⟨a, vs, xs, rfl, k1, k2, k3, k4⟩ := r1.lst q1 hn
      refine ⟨.inl ⟨rfl, vs, .inl (.inl k2)⟩, m1, r, S1, _, hE.grow g1, r1, h1, fun y S2 u m2 H2 h2 g2 r2 q2 => ?_⟩
      split at h2
      · rename_i z
        split at h2
        · rename_i ys e1
          obtain ⟨a', p1, vs', p2, p3⟩ := r2.at_ n _ e1
          rw [g2.pre n a k1] at p1; cases p1
          refine ⟨a, vs', u, rfl, rfl, p2, by rw [RepDs.len p3, sizeLine_eq]; exact h2.1, ?_⟩
          have gw : Grow m2 H2 m2 (upd H2 a (.lst (vs' ++ [u]))) := Grow.write (g2.pre n a k1) p2
          exact hf _ _ _ m2 _ h2.2 ((g1.trans g2).trans gw) (r2.write (g2.pre n a k1) p2 (p3.app (RepDs.one q2))) (show RepR _ _ _ _ _ from rfl)
        · exact h2.elim
      · exact h2.elim
    · exact h1.elim⟩
/-- x.pop(k) -/
abbrev wPopAt (wo we : PE1) : PE1 := fun r S W => wo r S fun x S1 => match x with
  | .r (.loc n) => isLo S1 n = true ∧ we r S1 fun y S2 => match y with
    | .r (.d (.int k)) => match S2[n]? with
      | some (.lst xs) => match ixD xs.length k with
        | some j => match xs[j]? with
          | some z => (-1000000 ≤ k ∧ k ≤ 1000000) ∧ W (.r (.d z)) (S2.set n (.lst (xs.eraseIdx j)))
          | none => False
        | none => False
      | _ => False
    | _ => False
  | _ => False
theorem RepDs.erase {K : PySem.W.Frag} {H : Hp} : ∀ {xs : List D} {vs : List V} (n : Nat), RepDs K H xs vs → RepDs K H (xs.eraseIdx n) (vs.eraseIdx n)
  | [], _, n, h => by cases h; simp [RepDs]
  | x :: xs, _, 0, ⟨v, r, e, h, t⟩ => by subst e; exact t
  | x :: xs, _, n + 1, ⟨v, r, e, h, t⟩ => by subst e; exact ⟨v, _, rfl, h, RepDs.erase n t⟩
theorem we_popAt {o : Expr} {apos : Pos} {wo : PE1} (ho : WE X o wo) (he : WE X e we)
    (h : ∀ {to te : TE}, PE X o to → PE X e te → PE X (.Call (.Attribute o "pop" apos) [e] [] pos) (tBM X.K "list" rPopAt to (tCons te tNil)) := by
      intro _ _ ho he; exact pe_bm PySem.F.plainAttrs_list PySem.F.slot_list_pop PySem.F.type_list_pop mt_popAt ho (pa_cons he pa_nil)) : WE X (.Call (.Attribute o "pop" apos) [e] [] pos) (wPopAt wo we) :=
  ⟨peImp (h ho.pe he.pe) fun s H Q ⟨m, r, S, W, hE, hS, hw, hf⟩ => up1 hE hS hw fun x S1 v m1 H1 h1 g1 r1 q1 => by
    split at h1
    · rename_i n
      obtain ⟨hn, h1⟩ := h1
      obtain ⟨a, vs, xs, rfl, k1, k2, k3, k4⟩ := r1.lst q1 hn
      refine ⟨.inl ⟨rfl, vs, .inl (.inl k2)⟩, m1, r, S1, _, hE.grow g1, r1, h1, fun y S2 u m2 H2 h2 g2 r2 q2 => ?_⟩
      split at h2
      · rename_i k
        split at h2
        · rename_i ys e1
          obtain ⟨a', p1, vs', p2, p3⟩ := r2.at_ n _ e1
          rw [g2.pre n a k1] at p1; cases p1
          split at h2
          · rename_i j e2
            split at h2
            · rename_i z e3
              obtain ⟨w, p4, p5⟩ := RepDs.get p3 e3
              obtain ⟨⟨b1, b2⟩, h2⟩ := h2
              refine ⟨a, vs', k, j, w, rfl, by rw [show u = V.int k from q2], p2, by omega, by omega, ?_, p4, ?_⟩
              · exact (ixN_seq (show ixN vs'.length k = some j by rw [RepDs.len p3]; exact e2)).1
              · have gw : Grow m2 H2 m2 (upd H2 a (.lst (vs'.eraseIdx j))) := Grow.write (g2.pre n a k1) p2
                exact hf _ _ _ m2 _ h2 ((g1.trans g2).trans gw) (r2.write (g2.pre n a k1) p2 (p3.erase j)) (show RepR _ _ _ _ _ from RepD.grow gw _ _ p5)
            · exact h2.elim
          · exact h2.elim
        · exact h2.elim
      · exact h2.elim
    · exact h1.elim⟩
/-- n.bit_length() -/
abbrev wBits (wo : PE1) : PE1 := fun r S W => wo r S fun x S1 => match x with
  | .r (.d (.int i)) => W (.r (.d (.int (Builtin.Int.intBits i : Nat)))) S1
  | _ => False
theorem we_bits {o : Expr} {apos : Pos} {wo : PE1} (ho : WE X o wo) (hbase : attributeBase o "bit_length" X.env (eval o X.env) = eval o X.env := by rfl) (hline : (apos.endLine == pos.line) = true := by rfl) : WE X (.Call (.Attribute o "bit_length" apos) [] [] pos) (wBits wo) :=
  ⟨peImp (pe_bits ho.pe hbase hline) fun s H Q ⟨m, r, S, W, hE, hS, hw, hf⟩ => up1 hE hS hw fun x S1 v m1 H1 h1 g1 r1 q1 => by
    split at h1
    · rename_i i
      exact ⟨i, q1, hf _ S1 _ m1 H1 h1 g1 r1 (show RepR _ _ _ _ _ from rfl)⟩
    · exact h1.elim⟩
end

/-! ### a def's promise -/
/-- the arguments, the store (just the lists handed in, in order), what is wanted of the value and the store behind -/
abbrev SpZ := List R → Sto → (R → Sto → Prop) → Prop
mutual
def locR : R → List Nat
  | .loc n => [n]
  | .tr xs => argLocs xs
  | .d _ => []
  | .ro _ => []
  | .ex _ => []
  | .ad _ => []
def argLocs : List R → List Nat
  | [] => []
  | x :: r => locR x ++ argLocs r
end
mutual
def renR : Nat → R → R
  | k, .loc _ => .loc k
  | k, .tr xs => .tr (renum k xs)
  | _, .d x => .d x
  | _, .ro x => .ro x
  | _, .ex x => .ex x
  | _, .ad x => .ad x
def renum : Nat → List R → List R
  | _, [] => []
  | k, x :: r => renR k x :: renum (k + (locR x).length) r
end
def pick (S : Sto) : List Nat → Option Sto
  | [] => some []
  | n :: ns => match S[n]?, pick S ns with
    | some o, some r => some (o :: r)
    | _, _ => none
def putAll : Sto → List Nat → Sto → Sto
  | S, n :: ls, o :: T => putAll (S.set n o) ls T
  | S, _, _ => S
def backL (S : Sto) (ls : List Nat) (T : Sto) (x : R) (W : PK1) : Prop := match x with
  | .d y => W (.r (.d y)) (putAll S ls T)
  | .ro y => W (.r (.ro y)) (putAll S ls T)
  | .ex y => W (.r (.ex y)) (putAll S ls T)
  | .ad y => W (.r (.ad y)) (putAll S ls T)
  | .loc j => if j < ls.length then (match ls[j]? with
      | some n => W (.r (.loc n)) (putAll S ls T)
      | none => False) else match T[j]? with
      | some (.lst xs) => W (.f xs) (putAll S ls T)
      | some (.dct ep kvs) => W (.r (.loc S.length)) (putAll S ls T ++ [.dct ep kvs])
      | some (.dk kvs) => W (.r (.loc S.length)) (putAll S ls T ++ [.dk kvs])
      | _ => False
  | .tr xs => (argLocs xs).Nodup ∧ (∀ k ∈ argLocs xs, ls.length ≤ k) ∧ match pick T (argLocs xs) with
    | some U => W (.r (.tr (renum S.length xs))) (putAll S ls T ++ U)
    | none => False
abbrev callL (sp : SpZ) (n : Nat) (rs : List R) (S : Sto) (W : PK1) : Prop := (rs.length = n ∧ (argLocs rs).Nodup) ∧ match pick S (argLocs rs) with
  | some T => sp (renum 0 rs) T fun x T' => backL S (argLocs rs) T' x W
  | none => False
def liftSp (K : PySem.W.Frag) (n : Nat) (sp : SpZ) : Sp := fun vs H Q _ => ∃ m rs S W, rs.length = n ∧ RepRs K m H rs vs ∧ RepS K m H S ∧ sp rs S W ∧ ∀ x S' v m' H', W x S' → Grow m H m' H' → RepS K m' H' S' → RepR K m' H' x v → Q v H'
/-- the def of the name x, of n parameters, keeps its promise; level k -/
structure FnZ (P : Program) (w : World) (K : PySem.W.Frag) (mg : Str → Option Value) (base : Heap) (k : Nat) (x : Str) (n : Nat) (sp : SpZ) : Prop where
  ok : ∃ f fd ps, ps.length = n ∧ mg x = some (.ref f) ∧ PySem.W.keepIn K (.ref f) = true ∧ Binds K fd ps [] ∧ FnOk P w K mg base CX0 k f fd ps (liftSp K n sp)
theorem FnZ.mono {P : Program} {w : World} {K : PySem.W.Frag} {mg : Str → Option Value} {base : Heap} {j k : Nat} {x : Str} {n : Nat} {sp : SpZ} (F : FnZ P w K mg base j x n sp) (h : j ≤ k) : FnZ P w K mg base k x n sp := by
  obtain ⟨f, fd, ps, h1, h2, h3, h4, h5⟩ := F.ok
  exact ⟨f, fd, ps, h1, h2, h3, h4, h5.mono h⟩
theorem FnZ.imp {P : Program} {w : World} {K : PySem.W.Frag} {mg : Str → Option Value} {base : Heap} {k : Nat} {x : Str} {n : Nat} {sp sp' : SpZ} (F : FnZ P w K mg base k x n sp) (h : ∀ rs S W, sp' rs S W → sp rs S W) : FnZ P w K mg base k x n sp' := by
  obtain ⟨f, fd, ps, h1, h2, h3, h4, h5⟩ := F.ok
  exact ⟨f, fd, ps, h1, h2, h3, h4, h5.imp fun vs H Q E ⟨m, rs, S, W, hl, a, b, c, d⟩ => ⟨m, rs, S, W, hl, a, b, h _ _ _ c, d⟩⟩
section
variable {K : PySem.W.Frag} {m m1 m2 : List Addr} {H H0 H1 : Hp} {S S1 T : Sto}
theorem pick_ok : ∀ {ls : List Nat} {T : Sto}, pick S ls = some T → T.length = ls.length ∧ ∀ i : Nat, T[i]? = ls[i]?.bind (S[·]?)
  | [], T, h => by simp [pick] at h; subst h; exact ⟨rfl, fun i => by simp⟩
  | n :: ns, T, h => by
    unfold pick at h
    split at h
    · rename_i o r e1 e2
      cases h
      obtain ⟨h1, h2⟩ := pick_ok e2
      refine ⟨by simp [h1], fun i => ?_⟩
      cases i with
      | zero => simp [e1]
      | succ i => simpa using h2 i
    · cases h
/-- the store of some lists alone -/
theorem RepS.pick (r : RepS K m H S) {ls : List Nat} {T : Sto} (nd : ls.Nodup) (e : pick S ls = some T) : RepS K (ls.filterMap (m[·]?)) H T ∧ (∀ n ∈ ls, n < m.length) := by
  obtain ⟨h1, h2⟩ := pick_ok e
  have lt : ∀ n ∈ ls, n < m.length := fun n hn => by
    obtain ⟨i, hi⟩ := List.getElem?_of_mem hn
    have h3 := h2 i
    rw [hi] at h3
    have : i < T.length := by rw [h1]; exact (List.getElem?_eq_some_iff.mp hi).1
    rw [List.getElem?_eq_getElem this] at h3
    have h4 : S[n]? = some T[i] := h3.symm
    rw [r.len]; exact (List.getElem?_eq_some_iff.mp h4).1
  have get : ∀ i : Nat, (ls.filterMap (m[·]?))[i]? = ls[i]?.bind (m[·]?) := filterMap_get lt
  refine ⟨⟨?_, by rw [filterMap_len lt, h1], fun n o e1 => ?_⟩, lt⟩
  · have inj : ∀ {ls : List Nat}, ls.Nodup → (∀ n ∈ ls, n < m.length) → (ls.filterMap (m[·]?)).Nodup := by
      intro ls
      induction ls with
      | nil => intro _ _; simp
      | cons n ls ih =>
        intro h1 h2
        rw [List.filterMap_cons, List.getElem?_eq_getElem (h2 n (by simp))]
        refine List.nodup_cons.mpr ⟨fun hm => ?_, ih (List.nodup_cons.mp h1).2 fun k hk => h2 k (by simp [hk])⟩
        obtain ⟨j, hj, e⟩ := List.mem_filterMap.mp hm
        obtain ⟨l1, e1⟩ := List.getElem?_eq_some_iff.mp e
        have := (List.getElem_inj r.nd).mp e1
        subst this
        exact (List.nodup_cons.mp h1).1 hj
    exact inj nd lt
  · rw [h2, Option.bind_eq_some_iff] at e1
    obtain ⟨j, e2, e3⟩ := e1
    obtain ⟨a, h3, h4⟩ := r.at_ j o e3
    exact ⟨a, by rw [get, e2]; exact h3, h4⟩
theorem renum_len : ∀ (rs : List R) (k : Nat), (renum k rs).length = rs.length
  | [], _ => rfl
  | x :: r, k => by rw [renum, List.length_cons, List.length_cons, renum_len r]
mutual
theorem renR_at {mm : List Addr} : ∀ (x : R) (k : Nat) (v : V), RepR K m H x v → (∀ i n, (locR x)[i]? = some n → ∀ a, m[n]? = some a → mm[k + i]? = some a) → RepR K mm H (renR k x) v
  | .d _, _, _, h, _ => h
  | .ro _, _, _, h, _ => h
  | .ex _, _, _, h, _ => h
  | .ad _, _, _, h, _ => h
  | .loc n, k, v, ⟨a, h1, h2⟩, hh => ⟨a, by simpa using hh 0 n rfl a h1, h2⟩
  | .tr xs, k, v, ⟨a, vs, e, h, r⟩, hh => ⟨a, vs, e, h, renum_at xs k vs r hh⟩
theorem renum_at {mm : List Addr} : ∀ (rs : List R) (k : Nat) (vs : List V), RepRs K m H rs vs → (∀ i n, (argLocs rs)[i]? = some n → ∀ a, m[n]? = some a → mm[k + i]? = some a) → RepRs K mm H (renum k rs) vs
  | [], _, _, h, _ => h
  | x :: rs, k, _, ⟨v, r, e, h, t⟩, hh => ⟨v, r, e, renR_at x k v h (fun i n e1 a h3 => hh i n (by
      rw [argLocs, List.getElem?_append_left (List.getElem?_eq_some_iff.mp e1).1]; exact e1) a h3), renum_at rs _ r t fun i n e1 a h3 => by
      have := hh ((locR x).length + i) n (by rw [argLocs, List.getElem?_append_right (by omega), Nat.add_sub_cancel_left]; exact e1) a h3
      rw [Nat.add_assoc]; exact this⟩
end
theorem putAll_len : ∀ {ls : List Nat} {S T : Sto}, (putAll S ls T).length = S.length
  | [], S, T => by unfold putAll; rfl
  | n :: ls, S, [] => by unfold putAll; rfl
  | n :: ls, S, o :: T => by unfold putAll; rw [putAll_len, List.length_set]
theorem putAll_out {n : Nat} : ∀ {ls : List Nat} {S T : Sto}, n ∉ ls → (putAll S ls T)[n]? = S[n]?
  | [], S, T, _ => by unfold putAll; rfl
  | k :: ls, S, [], _ => by unfold putAll; rfl
  | k :: ls, S, o :: T, h => by
    unfold putAll
    rw [putAll_out (fun q => h (by simp [q])), List.getElem?_set_ne (fun q => h (by simp [q]))]
theorem putAll_in {n i : Nat} {o : O} : ∀ {ls : List Nat} {S T : Sto}, ls.Nodup → (putAll S ls T)[n]? = some o → ls[i]? = some n → i < T.length → T[i]? = some o
  | [], S, T, _, _, h, _ => by simp at h
  | k :: ls, S, [], _, _, _, h => by simp at h
  | k :: ls, S, p :: T, nd, e, h, hl => by
    unfold putAll at e
    cases i with
    | zero =>
      simp at h; subst h
      rw [putAll_out (List.nodup_cons.mp nd).1] at e
      have hk : k < S.length := by
        by_cases hk : k < S.length
        · exact hk
        · rw [List.getElem?_eq_none (by simpa using hk)] at e; cases e
      rw [List.getElem?_set_self hk] at e
      exact e
    | succ i => exact putAll_in (i := i) (List.nodup_cons.mp nd).2 e (by simpa using h) (by simpa using hl)
/-- behind a call: the caller's numbers again -/
theorem call_back {ls : List Nat} {T' : Sto} {m' : List Addr} (r : RepS K m H S) (nd : ls.Nodup) (lt : ∀ n ∈ ls, n < m.length) (g : Grow (ls.filterMap (m[·]?)) H m' H1) (r' : RepS K m' H1 T') :
    Grow m H m H1 ∧ RepS K m H1 (putAll S ls T') := by
  have get : ∀ i : Nat, (ls.filterMap (m[·]?))[i]? = ls[i]?.bind (m[·]?) := filterMap_get lt
  have sub : ∀ b, b ∈ ls.filterMap (m[·]?) → b ∈ m := fun b hb => by
    obtain ⟨n, _, e⟩ := List.mem_filterMap.mp hb
    exact List.mem_of_getElem? e
  refine ⟨⟨fun _ _ h => h, g.tup, g.frz, g.xt, fun b o e hb => g.frame b o e fun q => hb (sub b q), fun _ h n => absurd h n⟩, ⟨r.nd, by rw [putAll_len, r.len], fun n o e => ?_⟩⟩
  have hn : n < m.length := by
    have := (List.getElem?_eq_some_iff.mp e).1
    rw [putAll_len, ← r.len] at this; exact this
  refine ⟨m[n], List.getElem?_eq_getElem hn, ?_⟩
  by_cases hm : n ∈ ls
  · obtain ⟨i, hi⟩ := List.getElem?_of_mem hm
    have h1 : m'[i]? = some m[n] := g.pre i _ (by rw [get, hi]; exact List.getElem?_eq_getElem hn)
    have hl : i < T'.length := by rw [← r'.len]; exact (List.getElem?_eq_some_iff.mp h1).1
    have h2 := putAll_in nd e hi hl
    obtain ⟨a, h3, h4⟩ := r'.at_ i o h2
    rw [h1] at h3; cases h3
    exact h4
  · rw [putAll_out hm] at e
    obtain ⟨a, h1, h2⟩ := r.at_ n o e
    rw [List.getElem?_eq_getElem hn] at h1; cases h1
    obtain ⟨u, h3⟩ := h2.some
    refine h2.grow g ?_
    rw [h3]
    refine g.frame _ _ h3 fun q => ?_
    obtain ⟨k, hk, e1⟩ := List.mem_filterMap.mp q
    obtain ⟨l1, e2⟩ := List.getElem?_eq_some_iff.mp e1
    have := (List.getElem_inj r.nd).mp e2
    subst this
    exact hm hk
end
section
variable {X : Cx} {e : Expr} {es : List Expr} {was : PA1}
abbrev wCall (sp : SpZ) (n : Nat) (ws : PA1) : PE1 := fun r S W => ws r S fun xs S1 => bindVs xs S1 fun rs S2 => callL sp n rs S2 W
theorem rsOf_ok {K : PySem.W.Frag} {m : List Addr} {H H0 : Hp} : ∀ {xs : List SV} {vs : List V} {rs : List R}, RepVs K m H H0 xs vs → rsOf xs = some rs → RepRs K m H rs vs
  | [], _, _, h, e => by simp [rsOf] at e; subst e; exact h
  | .r x :: xs, _, _, ⟨v, r, e1, h, t⟩, e => by
    simp only [rsOf, Option.map_eq_some_iff] at e
    obtain ⟨rs, e2, rfl⟩ := e
    exact ⟨v, r, e1, h, rsOf_ok t e2⟩
  | .f _ :: _, _, _, _, e => by cases e
theorem bindVs_ok {K : PySem.W.Frag} {m0 : List Addr} {H0 H : Hp} : ∀ {xs : List SV} {vs : List V} {m : List Addr} {S : Sto} {W : List R → Sto → Prop}, Grow m0 H0 m H → RepS K m H S → RepVs K m H H0 xs vs → bindVs xs S W →
    ∃ rs S' m', W rs S' ∧ Grow m0 H0 m' H ∧ RepS K m' H S' ∧ RepRs K m' H rs vs ∧ ∀ (n : Nat) a, m[n]? = some a → m'[n]? = some a
  | [], vs, m, S, W, g, r, q, w => ⟨[], S, m, w, g, r, q, fun _ _ h => h⟩
  | .r x :: xs, _, m, S, W, g, r, ⟨v, us, e, h, t⟩, w => by
    obtain ⟨rs, S', m', w', g', r', q', p'⟩ := bindVs_ok (xs := xs) g r t w
    exact ⟨x :: rs, S', m', w', g', r', ⟨v, us, e, RepR.pre p' x v h, q'⟩, p'⟩
  | .f l :: xs, _, m, S, W, g, r, ⟨v, us, e, h, t⟩, w => by
    unfold bindVs at w
    split at w
    · rename_i rs e1
      obtain ⟨a, vs, e2, h1, h2, h3, h4⟩ := h
      refine ⟨_, _, m ++ [a], w, Grow.push h3 g, r.push h2 h1 h4, ⟨v, us, e, ⟨a, by rw [← r.len]; simp, e2⟩, RepRs.pre pre_push _ _ (rsOf_ok t e1)⟩, pre_push⟩
    · exact w.elim
theorem callL_ok {K : PySem.W.Frag} {n : Nat} {sp : SpZ} {m0 m : List Addr} {H0 H : Hp} {S : Sto} {rs : List R} {vs : List V} {W : PK1} {Q : VK} {E : XK} (g : Grow m0 H0 m H) (r : RepS K m H S) (q : RepRs K m H rs vs)
    (w : callL sp n rs S W) (f : Fin K m0 H0 W Q) : liftSp K n sp vs H Q E := by
  obtain ⟨⟨hn, nd⟩, w⟩ := w
  split at w
  · rename_i T eT
    obtain ⟨rT, lt⟩ := r.pick nd eT
    have get : ∀ i : Nat, ((argLocs rs).filterMap (m[·]?))[i]? = (argLocs rs)[i]?.bind (m[·]?) := filterMap_get lt
    have hn' : (renum 0 rs).length = n := by rw [renum_len]; exact hn
    refine ⟨(argLocs rs).filterMap (m[·]?), renum 0 rs, T, _, hn', renum_at rs 0 vs q (fun i k e1 a e2 => by rw [Nat.zero_add, get, e1]; exact e2), rT, w, fun x T' v m' H' h' g' r' q' => ?_⟩
    obtain ⟨g1, r1⟩ := call_back r nd lt g' r'
    have gg := g.trans g1
    have fresh : ∀ {j : Nat} {a : Addr}, (argLocs rs).length ≤ j → m'[j]? = some a → a ∉ (argLocs rs).filterMap (m[·]?) := fun {j a} hj e hm => by
      obtain ⟨i, hi⟩ := List.getElem?_of_mem hm
      have e1 := g'.pre i a hi
      have hl := (List.getElem?_eq_some_iff.mp hi).1
      rw [filterMap_len lt] at hl
      obtain ⟨l1, e2⟩ := List.getElem?_eq_some_iff.mp e1
      obtain ⟨l2, e3⟩ := List.getElem?_eq_some_iff.mp e
      have := (List.getElem_inj r'.nd).mp (e2.trans e3.symm)
      omega
    have fresh0 : ∀ {j : Nat} {a : Addr}, (argLocs rs).length ≤ j → m'[j]? = some a → H a = none := fun {j a} hj e => g'.new a (List.mem_of_getElem? e) (fresh hj e)
    unfold backL at h'
    cases x with
    | d y => exact f _ _ v m H' h' gg r1 q'
    | ro y => exact f _ _ v m H' h' gg r1 q'
    | ex y => exact f _ _ v m H' h' gg r1 q'
    | ad y => exact f _ _ v m H' h' gg r1 q'
    | loc j =>
      simp only at h'
      obtain ⟨a, e1, rfl⟩ := q'
      split at h'
      · rename_i hj
        split at h'
        · rename_i k e2
          have e3 : m'[j]? = m[k]? := by
            have hk := lt k (List.mem_of_getElem? e2)
            have := g'.pre j (m[k]) (by rw [get, e2]; exact List.getElem?_eq_getElem hk)
            rw [this, List.getElem?_eq_getElem hk]
          exact f _ _ _ m H' h' gg r1 ⟨a, by rw [← e3]; exact e1, rfl⟩
        · exact h'.elim
      · rename_i hj
        split at h'
        · rename_i xs e2
          obtain ⟨a', e3, us, k1, k2⟩ := r'.at_ j _ e2
          rw [e1] at e3; cases e3
          have hH := fresh0 (by omega) e1
          exact f _ _ _ m H' h' gg r1 ⟨a, us, rfl, k1, r.notmem hH, g.fresh r hH, k2⟩
        · rename_i e2
          obtain ⟨a', e3, k1⟩ := r'.at_ j _ e2
          rw [e1] at e3; cases e3
          have hH := fresh0 (by omega) e1
          exact f _ _ _ (m ++ [a]) H' h' (Grow.push (g.fresh r hH) gg) (r1.pushO (r.notmem hH) k1) ⟨a, by rw [← r.len]; simp, rfl⟩
        · rename_i e2
          obtain ⟨a', e3, k1⟩ := r'.at_ j _ e2
          rw [e1] at e3; cases e3
          have hH := fresh0 (by omega) e1
          exact f _ _ _ (m ++ [a]) H' h' (Grow.push (g.fresh r hH) gg) (r1.pushO (r.notmem hH) k1) ⟨a, by rw [← r.len]; simp, rfl⟩
        · exact h'.elim
    | tr xs =>
      obtain ⟨t2, t3, h'⟩ := h'
      split at h'
      · rename_i U eU
        obtain ⟨rU, ltU⟩ := r'.pick t2 eU
        have getU : ∀ i : Nat, ((argLocs xs).filterMap (m'[·]?))[i]? = (argLocs xs)[i]?.bind (m'[·]?) := filterMap_get ltU
        have out : ∀ b, b ∈ (argLocs xs).filterMap (m'[·]?) → H b = none := fun b hb => by
          obtain ⟨k, hk, e⟩ := List.mem_filterMap.mp hb
          exact fresh0 (t3 k hk) e
        obtain ⟨a, us, ev, k1, k2⟩ := q'
        refine f _ _ v (m ++ (argLocs xs).filterMap (m'[·]?)) H' h' ⟨fun i b e => ?_, gg.tup, gg.frz, gg.xt, gg.frame, fun b hb hm => ?_⟩ ⟨?_, by rw [List.length_append, List.length_append, r1.len, rU.len], fun i o e => ?_⟩ ⟨a, us, ev, k1, ?_⟩
        · have := gg.pre i b e
          rw [List.getElem?_append_left (List.getElem?_eq_some_iff.mp this).1]; exact this
        · rcases List.mem_append.mp hb with z | z
          · exact gg.new b z hm
          · exact g.fresh r (out b z)
        · rw [List.nodup_append]
          exact ⟨r1.nd, rU.nd, fun b hb c hc e => by subst e; exact r.notmem (out b hc) hb⟩
        · by_cases hi : i < (putAll S (argLocs rs) T').length
          · rw [List.getElem?_append_left hi] at e
            obtain ⟨b, h1, h2⟩ := r1.at_ i o e
            exact ⟨b, by rw [List.getElem?_append_left (by rw [r1.len]; exact hi)]; exact h1, h2⟩
          · rw [List.getElem?_append_right (by omega)] at e
            obtain ⟨b, h1, h2⟩ := rU.at_ _ o e
            exact ⟨b, by rw [List.getElem?_append_right (by rw [r1.len]; omega), r1.len]; exact h1, h2⟩
        · refine renum_at _ _ _ k2 fun i k e1 b e2 => ?_
          rw [← r.len, List.getElem?_append_right (by omega), Nat.add_sub_cancel_left, getU, e1]
          exact e2
      · exact h'.elim
  · exact w.elim
theorem we_call {k n : Nat} {x : Str} {p pos : Pos} {sp : SpZ} (F : FnZ X.prog X.w X.K X.mg X.base k x n sp) (hr : Room k X.A) (hg : Gl X x) (ha : WA X (e :: es) was) (hdb : (x == ("__debug__" : Str)) = false := by decide)
    (he : starEach (e :: es) X.env = (false, eval e X.env) :: starEach es X.env := by rfl) (hpl : (backTo pos (starEach es X.env)).any (·.1) = false := by rfl) : WE X (.Call (.Name x p) (e :: es) [] pos) (wCall sp n was) := by
  obtain ⟨f, fd, ps, h1, h2, h3, h4, h5⟩ := F.ok
  have hp := pe_call (E := E0) (p := p) h5 hr hg h2 h3 h4 .nil pass0 ha.pa hdb he hpl
  refine ⟨⟨fun pins s z H Q I ⟨m, r, S, W, hE, hS, hw, hf⟩ => hp.run pins s z H Q I ⟨m, r, S, _, hE, hS, hw, fun xs S1 vs m1 H1 k1 g1 r1 q1 => ?_⟩⟩⟩
  obtain ⟨rs, S2, m2, w2, g2, r2, q2, _⟩ := bindVs_ok g1 r1 q1 k1
  rw [List.append_nil]
  exact callL_ok g2 r2 q2 w2 hf
theorem we_call0 {k : Nat} {x : Str} {p pos : Pos} {sp : SpZ} (F : FnZ X.prog X.w X.K X.mg X.base k x 0 sp) (hr : Room k X.A) (hg : Gl X x) (hdb : (x == ("__debug__" : Str)) = false := by decide) : WE X (.Call (.Name x p) [] [] pos) (wCall sp 0 wNil) := by
  obtain ⟨f, fd, ps, h1, h2, h3, h4, h5⟩ := F.ok
  have hp := pe_call0 (E := E0) (p := p) (pos := pos) h5 hr hg h2 h3 h4 .nil pass0 hdb
  refine ⟨⟨fun pins s z H Q I ⟨m, r, S, W, hE, hS, hw, hf⟩ => hp.run pins s z H Q I ?_⟩⟩
  exact callL_ok (E := E0) (vs := []) (rs := []) Grow.refl hS rfl hw hf
end
/-- the slots at the entry -/
abbrev start1 (n : Nat) (rs : List R) : Rho := rs.map some ++ List.replicate (n - rs.length) none
section
variable {P : Program} {w : World} {K : PySem.W.Frag} {mg : Str → Option Value} {base : Heap}
/-- behind a return: the lists handed in, and the list handed back, if it is a new one -/
abbrev retN (k : Nat) (W : R → Sto → Prop) : R → Sto → Prop := fun x S => match x with
  | .d y => W (.d y) (S.take k)
  | .ro y => W (.ro y) (S.take k)
  | .ex y => W (.ex y) (S.take k)
  | .ad y => W (.ad y) (S.take k)
  | .loc j => if j < k then W (.loc j) (S.take k) else match S[j]? with
    | some o => W (.loc k) (S.take k ++ [o])
    | none => False
  | .tr xs => W (.tr xs) S
theorem retN_ok {m0 m' : List Addr} {H0 H' : Hp} {S' : Sto} {x : R} {v : V} {k : Nat} {W : R → Sto → Prop} (hk : m0.length = k) (g : Grow m0 H0 m' H') (r : RepS K m' H' S') (q : RepR K m' H' x v) (w : retN k W x S') :
    ∃ y T m2, W y T ∧ Grow m0 H0 m2 H' ∧ RepS K m2 H' T ∧ RepR K m2 H' y v := by
  have hle : k ≤ S'.length := by
    rw [← r.len, ← hk]
    by_cases h : m0.length = 0
    · omega
    · have h1 : m0.length - 1 < m0.length := by omega
      have := (List.getElem?_eq_some_iff.mp (g.pre (m0.length - 1) _ (List.getElem?_eq_getElem h1))).1
      omega
  have e0 : (List.range k).filterMap (S'[·]?) = S'.take k := by
    have go : ∀ n, n ≤ S'.length → (List.range n).filterMap (S'[·]?) = S'.take n := by
      intro n
      induction n with
      | zero => intro _; simp
      | succ n ih =>
        intro h
        have hn : n < S'.length := by omega
        rw [List.range_succ, List.filterMap_append, ih (by omega), List.take_add_one, List.getElem?_eq_getElem hn, List.filterMap_cons, List.getElem?_eq_getElem hn]
        rfl
    exact go k hle
  have cut0 : ∀ y : R, kept (List.range k) (some y) = some y → RepR K m' H' y v → ∃ m2, Grow m0 H0 m2 H' ∧ RepS K m2 H' (S'.take k) ∧ RepR K m2 H' y v := fun y hy qy => by
    obtain ⟨m2, a, b, c⟩ := Cut.ok (K := K) (r := [some y]) (s := [some v]) (r' := [some y].map (kept (List.range k))) (S' := (List.range k).filterMap (S'[·]?)) (.inr ⟨_, List.nodup_range, by rw [List.take_range]; simp, fun n hn => by have := List.mem_range.mp hn; omega, rfl, rfl⟩) hk g
      ⟨rfl, fun i z e => by
        cases i with
        | zero => simp at e; subst e; exact ⟨v, rfl, qy⟩
        | succ i => simp at e⟩ r
    rw [e0] at c
    obtain ⟨u, h1, h2⟩ := b.at_ 0 y (by simp [hy])
    simp at h1; subst h1
    exact ⟨m2, a, c, h2⟩
  unfold retN at w
  split at w
  · obtain ⟨m2, a, b, c⟩ := cut0 _ rfl q
    exact ⟨_, _, m2, w, a, b, c⟩
  · obtain ⟨m2, a, b, c⟩ := cut0 _ rfl q
    exact ⟨_, _, m2, w, a, b, c⟩
  · obtain ⟨m2, a, b, c⟩ := cut0 _ rfl q
    exact ⟨_, _, m2, w, a, b, c⟩
  · obtain ⟨m2, a, b, c⟩ := cut0 _ rfl q
    exact ⟨_, _, m2, w, a, b, c⟩
  · rename_i j
    split at w
    · rename_i hj
      obtain ⟨m2, a, b, c⟩ := cut0 (.loc j) (by simp only [kept, List.mem_range, hj, if_true]; congr 2; exact (by
        have : ∀ n, j < n → (List.range n).idxOf j = j := by
          intro n
          induction n with
          | zero => intro h; omega
          | succ n ih =>
            intro h
            rw [List.range_succ, List.idxOf_append]
            by_cases hh : j < n
            · rw [if_pos (List.mem_range.mpr hh)]; exact ih hh
            · rw [if_neg (by simpa using hh)]
              have : j = n := by omega
              subst this; simp
        exact this k hj)) q
      exact ⟨_, _, m2, w, a, b, c⟩
    · rename_i hj
      split at w
      · rename_i o eo
        have hjl := (List.getElem?_eq_some_iff.mp eo).1
        have nm : j ∉ List.range k := by simp; omega
        obtain ⟨m2, a, b, c⟩ := Cut.ok (K := K) (r := [some (.loc j)]) (s := [some v]) (r' := [some (.loc j)].map (kept (List.range k ++ [j]))) (S' := (List.range k ++ [j]).filterMap (S'[·]?))
          (.inr ⟨_, by rw [List.nodup_append]; exact ⟨List.nodup_range, by simp, fun x hx y hy e => by simp at hy; subst hy; subst e; exact nm hx⟩, by rw [List.take_append]; simp [List.take_range], fun n hn => by
            rcases List.mem_append.mp hn with z | z
            · have := List.mem_range.mp z; omega
            · simp at z; omega, rfl, rfl⟩) hk g
          ⟨rfl, fun i z e => by
            cases i with
            | zero => simp at e; subst e; exact ⟨v, rfl, q⟩
            | succ i => simp at e⟩ r
        rw [List.filterMap_append, e0, List.filterMap_cons, eo] at c
        have hk2 : kept (List.range k ++ [j]) (some (R.loc j)) = some (.loc k) := by
          simp only [kept]
          rw [if_pos (by simp)]
          congr 2
          rw [List.idxOf_append, if_neg nm]
          simp
        obtain ⟨u, h1, h2⟩ := b.at_ 0 (.loc k) (by simp [hk2])
        simp at h1; subst h1
        exact ⟨_, _, m2, w, a, c, h2⟩
      · exact w.elim
  · exact ⟨_, _, m', w, g, r, q⟩
/-- THE RULE: a def by its body's combinators, and their reading -/
theorem fn_ok {x : Str} {st : Stmt} {f : Addr} {fd : FuncData} {N ps : List Str} {k : Nat} {wb : PS1} {sp : SpZ} (F : Fun K x x st f fd) (sc : FnScope N ps (defScope st))
    (hbody : ∀ (cdv : Value) (A : Around) (outer : List Env) (s : Shared) (H : Hp) (E : XK), Room k (A.deeper (envOfC x (defScope st) s.heap.objs.size f cdv)) →
      WSs (cxOf CX0 P w K mg base N x (defScope st) f cdv A outer s H E).nox (defBody st) wb)
    (hread : ∀ rs S W, rs.length = ps.length → sp rs S W → wb { nx := fun _ S1 => retN S.length W (.d .non) S1, rt := retN S.length W } (start1 N.length rs) S) : FnOk P w K mg base CX0 (k + 1) f fd ps (liftSp K ps.length sp) := by
  refine F.ok sc (fun vs H Q E ⟨m, rs, S, W, hl, q, _⟩ => (RepRs.len q).trans hl) fun cdv A outer s H vs Q E hr ⟨m, rs, S, W, hl, q, hS, hsp, hf⟩ => ⟨_, (hbody cdv A outer s H E hr).pss, ?_⟩
  refine ⟨m, start1 N.length rs, S, _, ?_, hS, hread rs S W hl hsp, ⟨fun r' S' s' m' H' n g e q' => (by
      obtain ⟨y, T, m2, a, b, c, d⟩ := retN_ok (K := K) (x := .d .non) (v := .non) hS.len g q' rfl n
      exact hf y T .non m2 H' a b c d), fun y S' v m' H' n g q' w' => (by
      obtain ⟨y2, T, m2, a, b, c, d⟩ := retN_ok hS.len g q' w' n
      exact hf y2 T v m2 H' a b c d), fun _ _ _ _ _ n => n.elim, fun _ _ _ _ _ n => n.elim⟩⟩
  refine ⟨?_, fun i y e => ?_⟩
  · unfold L2.start Z.start1
    simp [RepRs.len q]
  · unfold start1 at e
    by_cases hi : i < rs.length
    · rw [List.getElem?_append_left (by simpa using hi), List.getElem?_map, Option.map_eq_some_iff] at e
      obtain ⟨z, e1, e2⟩ := e
      cases e2
      obtain ⟨v, h1, h2⟩ := RepRs.get q e1
      refine ⟨v, ?_, h2⟩
      unfold L2.start
      rw [List.getElem?_append_left (by rw [List.length_map, RepRs.len q]; exact hi), List.getElem?_map, h1]
      rfl
    · rw [List.getElem?_append_right (by simpa using hi)] at e
      rw [List.getElem?_replicate] at e
      split at e <;> cases e
theorem fn_def {x : Str} {st : Stmt} {f : Addr} {fd : FuncData} {N ps : List Str} {k : Nat} {wb : PS1} {sp : SpZ} (F : Fun K x x st f fd) (hm : mg x = some (.ref f)) (hb : Binds K fd ps []) (sc : FnScope N ps (defScope st))
    (hbody : ∀ (cdv : Value) (A : Around) (outer : List Env) (s : Shared) (H : Hp) (E : XK), Room k (A.deeper (envOfC x (defScope st) s.heap.objs.size f cdv)) →
      WSs (cxOf CX0 P w K mg base N x (defScope st) f cdv A outer s H E).nox (defBody st) wb)
    (hread : ∀ rs S W, rs.length = ps.length → sp rs S W → wb { nx := fun _ S1 => retN S.length W (.d .non) S1, rt := retN S.length W } (start1 N.length rs) S) : FnZ P w K mg base (k + 1) x ps.length sp :=
  ⟨f, fd, ps, rfl, hm, F.kp, hb, fn_ok F sc hbody hread⟩
/-- a def of the text, as the top left it -/
structure DefAt (K : PySem.W.Frag) (mg : Str → Option Value) (x : Str) (st : Stmt) (ps : List Str) : Prop where
  ex : ∃ f fd, Fun K x x st f fd ∧ mg x = some (.ref f) ∧ Binds K fd ps []
theorem DefAt.mk' {h : Heap} {x : Str} {st : Stmt} {ps : List Str} {f : Addr} {oc : Value} {od an : Option Addr} {osl : Array (Option Value)} {kV doc pm cdv ct : Value} (X : K.In h) (G : h.Ns mainGlobals mg)
    (a : PySem.W.nsIn K mainGlobals x = some (some (.ref f))) (l : K.lookup f = some ⟨oc, od, .func (PySem.W.fnOf x x (defArgs st) (defBody st) (defScope st) .none kV doc pm an cdv ct), osl⟩)
    (c : PySem.W.codeIn K cdv x = true) (k : PySem.W.keepIn K (.ref f) = true)
    (b : ∀ (kV doc pm : Value) (an : Option Addr) (cdv ct : Value) (us : List Value), us.length = ps.length → bindArgs (PySem.W.fnOf x x (defArgs st) (defBody st) (defScope st) .none kV doc pm an cdv ct) ⟨us, []⟩ = pure (ps.zip us)) : DefAt K mg x st ps :=
  have F := fun_mk (st := st) l c k
  ⟨f, _, F, PySem.W.mg_of X G a, F.binds b⟩
theorem DefAt.fn {x : Str} {st : Stmt} {N ps : List Str} {k : Nat} {wb : PS1} {sp : SpZ} (d : DefAt K mg x st ps) (sc : FnScope N ps (defScope st))
    (hbody : ∀ (f : Addr) (cdv : Value) (A : Around) (outer : List Env) (s : Shared) (H : Hp) (E : XK), Room k (A.deeper (envOfC x (defScope st) s.heap.objs.size f cdv)) →
      WSs (cxOf CX0 P w K mg base N x (defScope st) f cdv A outer s H E).nox (defBody st) wb)
    (hread : ∀ rs S W, rs.length = ps.length → sp rs S W → wb { nx := fun _ S1 => retN S.length W (.d .non) S1, rt := retN S.length W } (start1 N.length rs) S) : FnZ P w K mg base (k + 1) x ps.length sp :=
  let ⟨f, _, F, hm, hb⟩ := d.ex
  fn_def F hm hb sc (hbody f) hread
end
/-- the law's own promise: of a list that nobody writes it hands back True -/
def spLaw (P : List Int → Prop) : SpZ := fun rs S W => match rs, S with
  | [.ro xs], [] => ∃ ns : List Int, xs = ns.map D.int ∧ P ns ∧ W (.d (.bl true)) []
  | _, _ => False
end Z
namespace Z
open PySem PySem.Spec PyProof.Rows L2 RZ
/-- the script: at most 63 ints, each of at most 2 ^ 20 bits -/
def SB : Nat := 1048577
def Script (ns : List Int) : Prop := ns.length ≤ 63 ∧ ∀ z ∈ ns, z.natAbs < 2 ^ SB
theorem repInts_of {K : PySem.W.Frag} {H : Hp} (ns : List Int) : RepDs K H (ns.map D.int) (ns.map V.int) := repInts ns
theorem bits_lt {z : Int} (h : Builtin.Int.intBits z ≤ 1048576) : z.natAbs < 2 ^ SB := by
  by_cases hz : z = 0
  · subst hz; exact Nat.two_pow_pos _
  · unfold Builtin.Int.intBits at h
    rw [if_neg (by simpa using hz)] at h
    exact Nat.lt_of_lt_of_le ((Nat.log2_lt (by omega)).mp (Nat.lt_of_lt_of_le (Nat.lt_succ_self _) h)) (Nat.pow_le_pow_right (by decide) (by unfold SB; decide))
theorem law_start {K : PySem.W.Frag} {H : Hp} {a : Addr} {ns : List Int} (hl : ns.length ≤ 63) (hb : ∀ z ∈ ns, Builtin.Int.intBits z ≤ 1048576) (hO : Only H) (hS : SqL K H a (ns.map V.int)) :
    liftSp K 1 (spLaw Script) [.ref a] H (fun v _ => v = .bl true) fun _ _ _ => False := by
  refine ⟨[], [.ro (ns.map D.int)], [], fun x _ => x = .d (.bl true), rfl, ⟨.ref a, [], rfl, ⟨a, ns.map V.int, rfl, ?_, repInts ns⟩, rfl⟩, ⟨List.nodup_nil, rfl, fun _ _ e => by simp at e⟩, ⟨ns, rfl, ⟨hl, fun z hz => bits_lt (hb z hz)⟩, rfl⟩, fun x S' v m' H' w _ _ q => by subst w; exact q⟩
  rcases hS with (h | ⟨o, h⟩) | h
  · rcases hO a with n | ⟨o, xs, n⟩
    · rw [n] at h; cases h
    · rw [n] at h; cases h
  · exact .inl ⟨o, h⟩
  · exact .inr h
end Z

set_option Elab.async false
set_option linter.all false
/-! M1: rows of whole numbers, what divides all of them, their plain form. Plain mathematics. -/
namespace Z
theorem cdvd {d : Nat} {x : Int} : (d : Int) ∣ x ↔ d ∣ x.natAbs := by
  rw [← Int.natAbs_dvd_natAbs]; simp
/-- what divides all of a row -/
def gl : List Int → Nat
  | [] => 0
  | x :: xs => Nat.gcd x.natAbs (gl xs)
theorem gl_dvd : ∀ {xs : List Int} {x : Int}, x ∈ xs → (gl xs : Int) ∣ x
  | y :: ys, x, h => by
    rcases List.mem_cons.mp h with e | e
    · subst e
      exact cdvd.mpr (Nat.gcd_dvd_left _ _)
    · have := gl_dvd e
      exact Int.dvd_trans (Int.natCast_dvd_natCast.mpr (Nat.gcd_dvd_right _ _)) this
theorem dvd_gl : ∀ {xs : List Int} {d : Nat}, (∀ x ∈ xs, (d : Int) ∣ x) → d ∣ gl xs
  | [], d, _ => Nat.dvd_zero d
  | y :: ys, d, h => Nat.dvd_gcd (cdvd.mp (h y (by simp))) (dvd_gl fun x hx => h x (by simp [hx]))
theorem gl_zero : ∀ {xs : List Int}, gl xs = 0 → ∀ x ∈ xs, x = 0
  | xs, h, x, hx => by
    have := gl_dvd hx
    rw [h] at this
    simpa using this
theorem gl_pos {xs : List Int} (h : ∃ x ∈ xs, x ≠ 0) : 0 < gl xs := by
  obtain ⟨x, hx, h0⟩ := h
  exact Nat.pos_of_ne_zero fun e => h0 (gl_zero e x hx)
theorem gl_le {xs : List Int} {x : Int} (hx : x ∈ xs) (h0 : x ≠ 0) : gl xs ≤ x.natAbs := Nat.le_of_dvd (by omega) (cdvd.mp (gl_dvd hx))
theorem gl_map_mul (k : Int) : ∀ xs : List Int, gl (xs.map (k * ·)) = k.natAbs * gl xs
  | [] => by simp [gl]
  | x :: xs => by
    simp only [List.map_cons, gl, gl_map_mul k xs, Int.natAbs_mul, Nat.gcd_mul_left]
/-- the sign of the first number that isn't 0 -/
def fs : List Int → Int
  | [] => 1
  | x :: xs => if x = 0 then fs xs else if x < 0 then -1 else 1
theorem fs_or : ∀ xs : List Int, fs xs = 1 ∨ fs xs = -1
  | [] => .inl rfl
  | x :: xs => by
    unfold fs
    split
    · exact fs_or xs
    · split
      · exact .inr rfl
      · exact .inl rfl
theorem fs_sq (xs : List Int) : fs xs * fs xs = 1 := by rcases fs_or xs with e | e <;> rw [e] <;> rfl
theorem fs_mul {k : Int} (hk : k ≠ 0) : ∀ {xs : List Int}, (∃ x ∈ xs, x ≠ 0) → fs (xs.map (k * ·)) = (if k < 0 then -1 else 1) * fs xs
  | [], h => by simp at h
  | x :: xs, h => by
    by_cases hx : x = 0
    · subst hx
      have h' : ∃ x ∈ xs, x ≠ 0 := by
        obtain ⟨y, hy, h0⟩ := h
        rcases List.mem_cons.mp hy with e | e
        · exact absurd e h0
        · exact ⟨y, e, h0⟩
      simpa [fs] using fs_mul hk h'
    · have hkx : k * x ≠ 0 := Int.mul_ne_zero hk hx
      simp only [List.map_cons, fs, if_neg hx, if_neg hkx]
      by_cases h1 : k < 0
      · by_cases h2 : x < 0
        · rw [if_pos h1, if_pos h2, if_neg (by have := Int.mul_pos_of_neg_of_neg h1 h2; omega)]; rfl
        · rw [if_pos h1, if_neg h2, if_pos (Int.mul_neg_of_neg_of_pos h1 (by omega))]; rfl
      · by_cases h2 : x < 0
        · rw [if_neg h1, if_pos h2, if_pos (Int.mul_neg_of_pos_of_neg (by omega) h2)]; rfl
        · rw [if_neg h1, if_neg h2, if_neg (by have := Int.mul_pos (show 0 < k by omega) (show 0 < x by omega); omega)]; rfl
/-- the row divided by what divides all -/
def prow (xs : List Int) : List Int := xs.map (· / (gl xs : Int))
/-- the plain form: the first number that isn't 0 above 0 -/
def pln (xs : List Int) : List Int := xs.map fun x => fs xs * (x / (gl xs : Int))
theorem prow_mul {xs : List Int} (h : ∃ x ∈ xs, x ≠ 0) : xs = (prow xs).map ((gl xs : Int) * ·) := by
  unfold prow
  rw [List.map_map]
  have : ∀ x ∈ xs, ((fun x => (gl xs : Int) * x) ∘ fun x => x / (gl xs : Int)) x = x := fun x hx => Int.mul_ediv_cancel' (gl_dvd hx)
  conv => lhs; rw [← List.map_id xs]
  exact List.map_congr_left fun x hx => (this x hx).symm
theorem pln_mul {xs : List Int} (h : ∃ x ∈ xs, x ≠ 0) : xs = (pln xs).map ((fs xs * (gl xs : Int)) * ·) := by
  unfold pln
  rw [List.map_map]
  have : ∀ x ∈ xs, ((fun x => fs xs * (gl xs : Int) * x) ∘ fun x => fs xs * (x / (gl xs : Int))) x = x := fun x hx => by
    show fs xs * (gl xs : Int) * (fs xs * (x / (gl xs : Int))) = x
    have e1 := Int.mul_ediv_cancel' (gl_dvd hx)
    have e2 := fs_sq xs
    calc _ = (fs xs * fs xs) * ((gl xs : Int) * (x / (gl xs : Int))) := by grind
      _ = x := by rw [e2, e1, Int.one_mul]
  conv => lhs; rw [← List.map_id xs]
  exact List.map_congr_left fun x hx => (this x hx).symm
theorem nz_map {k : Int} (hk : k ≠ 0) {xs : List Int} (h : ∃ x ∈ xs, x ≠ 0) : ∃ x ∈ xs.map (k * ·), x ≠ 0 := by
  obtain ⟨x, hx, h0⟩ := h
  exact ⟨k * x, List.mem_map.mpr ⟨x, hx, rfl⟩, Int.mul_ne_zero hk h0⟩
theorem nz_of_map {k : Int} {xs : List Int} (h : ∃ x ∈ xs.map (k * ·), x ≠ 0) : ∃ x ∈ xs, x ≠ 0 := by
  obtain ⟨y, hy, h0⟩ := h
  obtain ⟨x, hx, rfl⟩ := List.mem_map.mp hy
  exact ⟨x, hx, fun e => h0 (by subst e; simp)⟩
/-- THE LAW of the plain form: multiples have the same -/
theorem pln_smul {k : Int} (hk : k ≠ 0) {xs : List Int} (h : ∃ x ∈ xs, x ≠ 0) : pln (xs.map (k * ·)) = pln xs := by
  unfold pln
  rw [List.map_map, fs_mul hk h, gl_map_mul]
  refine List.map_congr_left fun x hx => ?_
  have hg := gl_pos h
  show (if k < 0 then -1 else 1) * fs xs * (k * x / ((k.natAbs * gl xs : Nat) : Int)) = fs xs * (x / (gl xs : Int))
  obtain ⟨y, hy⟩ := gl_dvd hx
  have e1 : x / (gl xs : Int) = y := by rw [hy]; exact Int.mul_ediv_cancel_left _ (by omega)
  rw [e1]
  by_cases h1 : k < 0
  · rw [if_pos h1]
    have e2 : k * x = ((k.natAbs * gl xs : Nat) : Int) * (-y) := by
      rw [hy, Int.natCast_mul, show (k.natAbs : Int) = -k by omega]; grind
    rw [e2, Int.mul_ediv_cancel_left _ (by have : 0 < k.natAbs * gl xs := Nat.mul_pos (by omega) hg; omega)]
    grind
  · rw [if_neg h1]
    have e2 : k * x = ((k.natAbs * gl xs : Nat) : Int) * y := by
      rw [hy, Int.natCast_mul, show (k.natAbs : Int) = k by omega]; grind
    rw [e2, Int.mul_ediv_cancel_left _ (by have : 0 < k.natAbs * gl xs := Nat.mul_pos (by omega) hg; omega)]
    grind
theorem fsgl_ne {xs : List Int} (h : ∃ x ∈ xs, x ≠ 0) : fs xs * (gl xs : Int) ≠ 0 := by
  have := gl_pos h
  rcases fs_or xs with e | e <;> rw [e] <;> omega
theorem pln_nz {xs : List Int} (h : ∃ x ∈ xs, x ≠ 0) : ∃ x ∈ pln xs, x ≠ 0 := by
  have e := pln_mul h
  rw [e] at h
  exact nz_of_map h
theorem pln_pln {xs : List Int} (h : ∃ x ∈ xs, x ≠ 0) : pln (pln xs) = pln xs := by
  have := pln_smul (fsgl_ne h) (pln_nz h)
  rw [← pln_mul h] at this
  exact this.symm
/-- rows in one ratio have the same plain form -/
theorem pln_ratio {a b : Int} {xs ys : List Int} (ha : a ≠ 0) (hb : b ≠ 0) (hx : ∃ x ∈ xs, x ≠ 0) (e : xs.map (a * ·) = ys.map (b * ·)) : pln xs = pln ys := by
  have hy : ∃ y ∈ ys, y ≠ 0 := nz_of_map (k := b) (by rw [← e]; exact nz_map ha hx)
  rw [← pln_smul ha hx, e, pln_smul hb hy]
theorem pln_len (xs : List Int) : (pln xs).length = xs.length := by simp [pln]
theorem gl_pln {xs : List Int} (h : ∃ x ∈ xs, x ≠ 0) : gl (pln xs) = 1 := by
  have e := congrArg gl (pln_mul h)
  rw [gl_map_mul] at e
  have hg := gl_pos h
  have : (fs xs * (gl xs : Int)).natAbs = gl xs := by rcases fs_or xs with e | e <;> rw [e] <;> simp
  rw [this] at e
  have := Nat.mul_left_cancel hg (show gl xs * gl (pln xs) = gl xs * 1 by omega)
  exact this
theorem fs_pln {xs : List Int} (h : ∃ x ∈ xs, x ≠ 0) : fs (pln xs) = 1 := by
  have e := congrArg fs (pln_mul h)
  rw [fs_mul (fsgl_ne h) (pln_nz h)] at e
  have hg := gl_pos h
  rcases fs_or xs with q | q
  · rw [q, if_neg (by omega), Int.one_mul] at e
    exact e.symm
  · rw [q, if_pos (by omega)] at e; omega
/-- a row of that form is its own plain form -/
theorem pln_self {xs : List Int} (h1 : gl xs = 1) (h2 : fs xs = 1) : pln xs = xs := by
  unfold pln
  rw [h1, h2]
  simp
/-- the numbers grow no greater -/
theorem pln_bd {n : Nat} {xs : List Int} (h : ∃ x ∈ xs, x ≠ 0) (hb : ∀ x ∈ xs, x.natAbs < n) : ∀ x ∈ pln xs, x.natAbs < n := fun x hx => by
  unfold pln at hx
  obtain ⟨y, hy, rfl⟩ := List.mem_map.mp hx
  have h1 := hb y hy
  have hg := gl_pos h
  have e : (fs xs * (y / (gl xs : Int))).natAbs = (y / (gl xs : Int)).natAbs := by rcases fs_or xs with e | e <;> rw [e] <;> simp
  rw [e, Int.natAbs_ediv_of_dvd (gl_dvd hy)]
  exact Nat.lt_of_le_of_lt (Nat.div_le_self _ _) h1
/-- what the loop over a row reckons -/
theorem gl_fold : ∀ (xs : List Int) (g : Nat), xs.foldl (fun g x => Nat.gcd g x.natAbs) g = Nat.gcd g (gl xs)
  | [], g => by simp [gl]
  | x :: xs, g => by simp only [List.foldl_cons, gl, gl_fold xs, Nat.gcd_assoc]
/-- the first number that isn't 0 -/
theorem first_nz : ∀ {xs : List Int}, (∃ x ∈ xs, x ≠ 0) → ∃ y ys, xs.filter (fun x => !(x == 0)) = y :: ys ∧ y ≠ 0 ∧ fs xs = if y < 0 then -1 else 1
  | [], h => by simp at h
  | x :: xs, h => by
    by_cases hx : x = 0
    · subst hx
      have h' : ∃ x ∈ xs, x ≠ 0 := by
        obtain ⟨y, hy, h0⟩ := h
        rcases List.mem_cons.mp hy with e | e
        · exact absurd e h0
        · exact ⟨y, e, h0⟩
      obtain ⟨y, ys, h1, h2, h3⟩ := first_nz h'
      exact ⟨y, ys, by simpa [List.filter_cons] using h1, h2, by simpa [fs] using h3⟩
    · exact ⟨x, xs.filter (fun x => !(x == 0)), by simp [List.filter_cons, hx], hx, by simp [fs, hx]⟩
theorem prow_nz {xs : List Int} (h : ∃ x ∈ xs, x ≠ 0) : ∃ x ∈ prow xs, x ≠ 0 := by
  have e := prow_mul h
  rw [e] at h
  exact nz_of_map h
theorem fs_prow {xs : List Int} (h : ∃ x ∈ xs, x ≠ 0) : fs (prow xs) = fs xs := by
  have hg := gl_pos h
  have e := congrArg fs (prow_mul h)
  rw [fs_mul (by omega) (prow_nz h), if_neg (by omega), Int.one_mul] at e
  exact e.symm
theorem pln_prow (xs : List Int) : pln xs = (prow xs).map (fs xs * ·) := by
  unfold pln prow
  rw [List.map_map]; rfl
theorem prow_gl {xs : List Int} (h : ∃ x ∈ xs, x ≠ 0) : gl (prow xs) = 1 := by
  have e := congrArg gl (prow_mul h)
  rw [gl_map_mul] at e
  have hg := gl_pos h
  have : gl xs * gl (prow xs) = gl xs * 1 := by rw [Nat.mul_one]; exact e.symm
  exact Nat.mul_left_cancel hg this
end Z

set_option Elab.async false
set_option linter.all false
set_option maxRecDepth 100000
set_option exponentiation.threshold 20000
/-! Z7: helps for readings: sizes, loops over lists of any length. -/
namespace Z
open PySem PySem.Spec PyProof.Rows L2 RZ
/-! ### sizes -/
/-- below 2 ^ n -/
structure Bd (n : Nat) (i : Int) : Prop where
  lt : i.natAbs < 2 ^ n
theorem bd_iff {n : Nat} {i : Int} : Bd n i ↔ i.natAbs < 2 ^ n := ⟨fun h => h.lt, fun h => ⟨h⟩⟩
theorem Bd.lit {n : Nat} {i : Int} (h : i.natAbs < 2 ^ n) : Bd n i := ⟨h⟩
theorem Bd.zero {n : Nat} : Bd n 0 := Bd.lit (Nat.two_pow_pos _)
theorem Bd.mono {m n : Nat} {i : Int} (h : Bd m i) (k : m ≤ n) : Bd n i := Bd.lit (Nat.lt_of_lt_of_le h.lt (Nat.pow_le_pow_right (by decide) k))
theorem Bd.mul {m n : Nat} {i j : Int} (h : Bd m i) (k : Bd n j) : Bd (m + n) (i * j) := by
  simp only [bd_iff] at *
  rw [Int.natAbs_mul, Nat.pow_add]
  exact Nat.mul_lt_mul'' h k
theorem Bd.add {m n : Nat} {i j : Int} (h : Bd m i) (k : Bd n j) : Bd (max m n + 1) (i + j) := by
  have h1 := h.mono (Nat.le_max_left m n)
  have h2 := k.mono (Nat.le_max_right m n)
  simp only [bd_iff] at *
  rw [Nat.pow_succ]
  omega
theorem Bd.neg {m : Nat} {i : Int} (h : Bd m i) : Bd m (-i) := by simp only [bd_iff] at *; rw [Int.natAbs_neg]; exact h
theorem Bd.sub {m n : Nat} {i j : Int} (h : Bd m i) (k : Bd n j) : Bd (max m n + 1) (i - j) := by
  rw [Int.sub_eq_add_neg]; exact h.add k.neg
theorem Bd.abs {m : Nat} {i : Int} (h : Bd m i) : Bd m (i.natAbs : Int) := by simp only [bd_iff] at *; simpa using h
theorem Bd.of_le {n : Nat} {i b : Int} (h1 : -b ≤ i) (h2 : i ≤ b) (h : b < 2 ^ n) : Bd n i := by
  refine bd_iff.mpr ?_
  have : (i.natAbs : Int) < 2 ^ n := by omega
  have e : ((2 ^ n : Nat) : Int) = 2 ^ n := by simp
  rw [← e] at this
  exact Int.ofNat_lt.mp this
theorem Bd.ediv {m : Nat} {i j : Int} (h : Bd m i) : Bd m (i / j) := by
  simp only [bd_iff] at *
  exact Nat.lt_of_le_of_lt (Int.natAbs_ediv_le_natAbs _ _) h
/-- a product of two numbers of such sizes is carried -/
theorem mulOk {m n : Nat} {i j : Int} (h : Bd m i) (k : Bd n j) (hs : m + n ≤ 134217728) : MulOk i j := ⟨(mulx_ok h.lt k.lt hs).ok⟩
theorem mulOk_l {i j : Int} (h : -(2 ^ 64) < i ∧ i < 2 ^ 64) : MulOk i j := ⟨(show CMul i j from .inl h).ok⟩
theorem mulOk_r {i j : Int} (h : -(2 ^ 64) < j ∧ j < 2 ^ 64) : MulOk i j := ⟨(show CMul i j from .inr h).ok⟩
theorem cdv {n : Nat} {i j : Int} (h0 : j ≠ 0) (h : Bd n j) (hn : n ≤ 9000) : CDv i j := ⟨h0, Nat.lt_of_lt_of_le h.lt (Nat.pow_le_pow_right (by decide) hn)⟩
theorem cdv_small {i j : Int} (h0 : j ≠ 0) (h : j.natAbs < 2 ^ 200) : CDv i j := cdv (n := 200) h0 (Bd.lit h) (by decide)
/-! ### loops over lists of any length -/
section
variable {k : Nat} {chk : Sto → Prop} {f : R → Rho → Option Rho} {t : PT1} {w : PE1} {r : Rho}
/-- a comprehension whose parts leave the store as it is -/
theorem lcL_pure {items : List R} (g : R → D) (p : R → Bool) {S : Sto} {W : List D → Sto → Prop} (hk : S.take k = S) (hc : chk S)
    (h : ∀ x ∈ items, ∃ r1, f x r = some r1 ∧ (∀ W1 : Bool → Sto → Prop, W1 (p x) S → t r1 S W1) ∧ (p x = true → ∀ W1 : PK1, W1 (.r (.d (g x))) S → w r1 S W1)) (q : W ((items.filter p).map g) S) : lcL k chk f t w r items S W := by
  induction items generalizing W with
  | nil => exact ⟨hc, q⟩
  | cons x xs ih =>
    obtain ⟨r1, h1, h2, h3⟩ := h x (by simp)
    unfold lcL
    refine ⟨hc, ?_⟩
    rw [h1]
    refine h2 _ ?_
    cases hp : p x with
    | true =>
      rw [if_pos rfl]
      refine h3 hp _ ?_
      rw [hk]
      exact ih (fun y hy => h y (by simp [hy])) (by simpa [List.filter_cons, hp] using q)
    | false =>
      rw [if_neg Bool.false_ne_true, hk]
      exact ih (fun y hy => h y (by simp [hy])) (by simpa [List.filter_cons, hp] using q)
theorem lcL_map {items : List R} (g : R → D) {S : Sto} {W : List D → Sto → Prop} (hk : S.take k = S) (hc : chk S)
    (h : ∀ x ∈ items, ∃ r1, f x r = some r1 ∧ (∀ W1 : Bool → Sto → Prop, W1 true S → t r1 S W1) ∧ ∀ W1 : PK1, W1 (.r (.d (g x))) S → w r1 S W1) (q : W (items.map g) S) : lcL k chk f t w r items S W :=
  lcL_pure g (fun _ => true) hk hc (fun x hx => let ⟨r1, a, b, c⟩ := h x hx; ⟨r1, a, b, fun _ => c⟩) (by
    have : items.filter (fun _ => true) = items := List.filter_eq_self.mpr fun _ _ => rfl
    rw [this]; exact q)
end
/-- the same over a row of ints -/
theorem lcL_ints {k : Nat} {chk : Sto → Prop} {f : R → Rho → Option Rho} {t : PT1} {w : PE1} {r : Rho} {ns : List Int} (g : Int → Int) {S : Sto} {W : List D → Sto → Prop} (hk : S.take k = S) (hc : chk S)
    (h : ∀ n ∈ ns, ∃ r1, f (.d (.int n)) r = some r1 ∧ (∀ W1 : Bool → Sto → Prop, W1 true S → t r1 S W1) ∧ ∀ W1 : PK1, W1 (.r (.d (.int (g n)))) S → w r1 S W1) (q : W ((ns.map g).map D.int) S) : lcL k chk f t w r ((ns.map D.int).map R.d) S W := by
  refine lcL_map (fun x => match x with | .d (.int n) => .int (g n) | _ => .non) hk hc (fun x hx => ?_) ?_
  · simp only [List.map_map, List.mem_map, Function.comp] at hx
    obtain ⟨n, hn, rfl⟩ := hx
    exact h n hn
  · have e : ((ns.map D.int).map R.d).map (fun x => match x with | .d (.int n) => D.int (g n) | _ => .non) = (ns.map g).map D.int := by simp [List.map_map, Function.comp_def]
    rw [e]; exact q
/-- with a test -/
theorem lcL_intsF {k : Nat} {chk : Sto → Prop} {f : R → Rho → Option Rho} {t : PT1} {w : PE1} {r : Rho} {ns : List Int} (p : Int → Bool) {S : Sto} {W : List D → Sto → Prop} (hk : S.take k = S) (hc : chk S)
    (h : ∀ n ∈ ns, ∃ r1, f (.d (.int n)) r = some r1 ∧ (∀ W1 : Bool → Sto → Prop, W1 (p n) S → t r1 S W1) ∧ (p n = true → ∀ W1 : PK1, W1 (.r (.d (.int n))) S → w r1 S W1)) (q : W ((ns.filter p).map D.int) S) : lcL k chk f t w r ((ns.map D.int).map R.d) S W := by
  refine lcL_pure (fun x => match x with | .d d => d | _ => .non) (fun x => match x with | .d (.int n) => p n | _ => false) hk hc (fun x hx => ?_) ?_
  · simp only [List.map_map, List.mem_map, Function.comp] at hx
    obtain ⟨n, hn, rfl⟩ := hx
    exact h n hn
  · have e : (((ns.map D.int).map R.d).filter (fun x => match x with | .d (.int n) => p n | _ => false)).map (fun x => match x with | .d d => d | _ => .non) = (ns.filter p).map D.int := by
      rw [List.map_map, List.filter_map, List.map_map]
      rfl
    rw [e]; exact q
/-- a for by what holds ahead of each turn -/
theorem forL_ix {k : Nat} {chk : Sto → Prop} {f : R → Rho → Option Rho} {body : PS1} {N : En} {items : List R} (I : Nat → Rho → Sto → Prop)
    (hs : ∀ i x, items[i]? = some x → ∀ r S, I i r S → ∀ M : Rho → Sto → Prop, (∀ r' S', I (i + 1) r' S' → M r' S') → chk S ∧ match f x r with
      | some r1 => body { nx := fun r2 S2 => ∃ r3 S3, Cut k r2 S2 r3 S3 ∧ M r3 S3, rt := N.rt, bk := N.nx, ct := fun r2 S2 => ∃ r3 S3, Cut k r2 S2 r3 S3 ∧ M r3 S3 } r1 S
      | none => False)
    (hd : ∀ r S, I items.length r S → chk S ∧ N.nx r S) {r : Rho} {S : Sto} (h0 : I 0 r S) : forL k chk f body N items r S := by
  have key : ∀ (n i : Nat), n + i = items.length → ∀ r S, I i r S → forL k chk f body N (items.drop i) r S := by
    intro n
    induction n with
    | zero =>
      intro i hi r S h
      have : i = items.length := by omega
      subst this
      rw [List.drop_eq_nil_of_le (Nat.le_refl _)]
      exact hd r S h
    | succ n ih =>
      intro i hi r S h
      have hl : i < items.length := by omega
      rw [List.drop_eq_getElem_cons hl]
      unfold forL
      exact hs i _ (List.getElem?_eq_getElem hl) r S h _ fun r' S' h' => ih (i + 1) (by omega) r' S' h'
  simpa using key items.length 0 (by omega) r S h0
theorem rgR_get {lo : Int} {n i : Nat} {x : R} (h : (rgR lo n)[i]? = some x) : i < n ∧ x = .d (.int (lo + (i : Nat))) := by
  have hi : i < n := by
    have := (List.getElem?_eq_some_iff.mp h).1
    simpa [rgR] using this
  simp only [rgR, List.getElem?_map, List.getElem?_range hi, Option.map_some, Option.some.injEq] at h
  exact ⟨hi, h.symm⟩
theorem rgR_len {lo : Int} {n : Nat} : (rgR lo n).length = n := by simp [rgR]
theorem getI_0 {a : D} {xs : List D} : getI (a :: xs) 0 = some a := rfl
theorem getI_1 {a b : D} {xs : List D} : getI (a :: b :: xs) 1 = some b := rfl
theorem getI_2 {a b c : D} {xs : List D} : getI (a :: b :: c :: xs) 2 = some c := rfl
theorem getI_3 {a b c d : D} {xs : List D} : getI (a :: b :: c :: d :: xs) 3 = some d := rfl
theorem getI_of {xs : List D} {i : Int} (h0 : 0 ≤ i) (h1 : i < xs.length) : getI xs i = xs[i.toNat]? := by unfold getI; rw [if_pos h0]
/-- an item at a place that lies in the row -/
theorem getI_in {xs : List D} {i : Int} (h0 : 0 ≤ i) (h1 : i < xs.length) : ∃ z, getI xs i = some z ∧ z ∈ xs := by
  have hl : i.toNat < xs.length := by omega
  rw [getI_of h0 h1, List.getElem?_eq_getElem hl]
  exact ⟨_, rfl, List.getElem_mem hl⟩
theorem getI_ints {ns : List Int} {i : Int} (h0 : 0 ≤ i) (h1 : i < ns.length) : ∃ z, getI (ns.map D.int) i = some (.int z) ∧ z ∈ ns := by
  obtain ⟨z, h, hz⟩ := getI_in (xs := ns.map D.int) h0 (by simpa using h1)
  obtain ⟨n, hn, rfl⟩ := List.mem_map.mp hz
  exact ⟨n, h, hn⟩
theorem cutD_take {xs : List D} (k : Nat) : cutD xs none (some (k : Int)) = xs.take k := by
  unfold cutD
  rw [HT.sIx_nat, HT.sIx_none, List.drop_zero, Nat.sub_zero]
  by_cases h : k ≤ xs.length
  · rw [Nat.min_eq_left h]
  · rw [Nat.min_eq_right (by omega), List.take_length, List.take_of_length_le (by omega)]
theorem cutD_drop {xs : List D} (k : Nat) : cutD xs (some (k : Int)) none = xs.drop k := by
  unfold cutD
  rw [HT.sIx_nat, HT.sIx_none]
  by_cases h : k ≤ xs.length
  · rw [Nat.min_eq_left h, List.take_of_length_le (by rw [List.length_drop]; omega)]
  · rw [Nat.min_eq_right (by omega), Nat.sub_self, List.take_zero, List.drop_eq_nil_of_le (by omega)]
theorem ixD_of {n : Nat} {k : Int} (h0 : 0 ≤ k) (h1 : k < n) : ixD n k = some k.toNat := by unfold ixD; rw [if_pos h0, if_pos h1]
theorem ixD_i {n i : Nat} (h : i < n) : ixD n ((0 : Int) + (i : Nat)) = some i := by rw [ixD_of (by omega) (by omega)]; congr 1; omega
theorem ixD_10 : ixD 1 0 = some 0 := rfl
theorem ixD_20 : ixD 2 0 = some 0 := rfl
theorem ixD_21 : ixD 2 1 = some 1 := rfl
theorem ixD_30 : ixD 3 0 = some 0 := rfl
theorem ixD_31 : ixD 3 1 = some 1 := rfl
theorem ixD_32 : ixD 3 2 = some 2 := rfl
theorem ixD_40 : ixD 4 0 = some 0 := rfl
theorem ixD_41 : ixD 4 1 = some 1 := rfl
theorem ixD_42 : ixD 4 2 = some 2 := rfl
theorem ixD_43 : ixD 4 3 = some 3 := rfl
theorem rgR_zero {lo : Int} : rgR lo 0 = [] := rfl
theorem rgR_succ {lo : Int} {n : Nat} : rgR lo (n + 1) = .d (.int lo) :: rgR (lo + 1) n := by
  unfold rgR
  rw [List.range_succ_eq_map, List.map_cons, List.map_map]
  refine List.cons_eq_cons.mpr ⟨by simp, List.map_congr_left fun i _ => ?_⟩
  show R.d (.int (lo + ((i + 1 : Nat) : Int))) = R.d (.int (lo + 1 + (i : Int)))
  rw [show lo + ((i + 1 : Nat) : Int) = lo + 1 + (i : Int) by omega]
theorem fdiv_pos {i j : Int} (h : 0 < j) : i.fdiv j = i / j := Int.fdiv_eq_ediv_of_nonneg i (by omega)
theorem fmod_pos {i j : Int} (h : 0 < j) : i.fmod j = i % j := Int.fmod_eq_emod_of_nonneg i (by omega)
theorem eqv_ints : ∀ {xs ys : List Int}, PyData.eqvAll (pys (xs.map D.int)) (pys (ys.map D.int)) = decide (xs = ys)
  | [], [] => by simp [pys, PyData.eqvAll]
  | [], _ :: _ => by simp [pys, PyData.eqvAll]
  | _ :: _, [] => by simp [pys, PyData.eqvAll]
  | x :: xs, y :: ys => by
    simp only [List.map_cons, pys, PyData.eqvAll, py, PyData.eqv, eqv_ints]
    by_cases h : x = y
    · subst h; by_cases h2 : xs = ys
      · subst h2; simp
      · simp [h2]
    · simp [h]
theorem depth_ints (xs : List Int) : PyData.depthAll (pys (xs.map D.int)) ≤ 1 := by
  induction xs with
  | nil => simp [pys, PyData.depthAll]
  | cons x xs ih => simp [pys, py, PyData.depthAll, PyData.depth]; omega
end Z

set_option Elab.async false
set_option linter.all false
set_option maxRecDepth 100000
/-! Z8: further words: a list taken apart; reversed; a raise that is never reached; constants of the module. -/
namespace Z
open PySem PySem.Spec PyProof.Rows L2 RZ
section
variable {X : Cx} {e : Expr} {we : PE1} {pos : Pos}
/-- (a, b, ..) = a list -/
abbrev wUnl (n : Nat) (fs : List R → Rho → Option Rho) (w : PE1) : PS1 := fun N r S => w r S fun x S1 => match isLst x, seqOf S1 x with
  | true, some xs => if xs.length = n then (match fs (xs.map R.d) r with
    | some r' => N.nx r' S1
    | none => False) else False
  | _, _ => False
theorem ws_unl {es : List Expr} {k n : Nat} {p2 : Pos} {gs : TGs} {vs : List Nat} {fs : List R → Rho → Option Rho} (hc : X.calm = true) (he : WE X e we) (hg : PGs X es gs) (ht : Tgts X.K gs vs fs)
    (hn : (assignEach es X.env).length = n := by rfl) (hst : (assignEach es X.env).findIdx? (·.1) = none := by rfl)
    (hs : swapsWithSole [.Tuple es k p2] e pos.line X.env = pure false := by rfl) (hw : swappedStores [.Tuple es k p2] e X.env = pure none := by rfl)
    (h1 : (assignEach [.Tuple es k p2] X.env).map (·.2) = [assign (.Tuple es k p2) X.env] := by rfl) : WS X (.Assign [.Tuple es k p2] e pos) (wUnl n fs we) :=
  ⟨psImp (ps_asg he.pe (pg_unl hc hg hn hst) hs hw h1) fun D s H ⟨m, r, S, N, hE, hS, hw, hf⟩ => ⟨m, r, S, _, hE, hS, hw, fun x S1 v m1 H1 h1 g1 r1 q1 => by
    split at h1
    · rename_i xs hl e1
      split at h1
      · rename_i hlen
        split at h1
        · rename_i r' e2
          obtain ⟨a, us, rfl, k1, k2⟩ := q1.seq r1 e1
          rw [if_pos hl] at k2
          obtain ⟨s', k3, k4, _⟩ := ht.run m1 H1 (xs.map R.d) us r r' s (repR_map k1) (hE.grow g1) e2
          exact ⟨a, us, rfl, k2, by rw [k1.len]; exact hlen, k3 _ (hf.nx r' S1 s' m1 H1 h1 g1 k4 r1)⟩
        · exact h1.elim
      · exact h1.elim
    · exact h1.elim⟩⟩
/-- the signs of a text, one by one -/
abbrev chrs (x : Str) : List R := x.cps.toList.map fun c => R.d (.str ⟨#[c]⟩)
abbrev wItS (w : PE1) : PI1 := fun r S W => w r S fun x S1 => match x with
  | .r (.d (.str s)) => W { items := chrs s } S1
  | _ => False
theorem itok_str {K : PySem.W.Frag} {m0 : List Addr} {H0 : Hp} {x : Str} : ItOk K m0 H0 (Its x) { items := chrs x } :=
  ⟨fun i m H S g r hc => by
    refine ⟨fun y e => ?_, fun e => ?_⟩
    · simp only [chrs, List.getElem?_map, Option.map_eq_some_iff, Array.getElem?_toList] at e
      obtain ⟨c, hc, rfl⟩ := e
      refine ⟨(Array.getElem?_eq_some_iff.mp hc).1, fun v H' ⟨eh, d, hd, ev⟩ => ?_⟩
      subst eh
      rw [hc] at hd; cases hd
      exact ⟨Grow.refl, r, ev⟩
    · simp only [chrs, List.getElem?_map, Option.map_eq_none_iff, Array.getElem?_toList] at e
      exact Array.getElem?_eq_none_iff.mp e⟩
theorem wi_str {tg : Expr} (he : WE X e we) : WI X tg e (wItS we) :=
  ⟨piImp (pi_str he.pe) fun s H R ⟨m, r, S, W, hE, hS, hw, hf⟩ => ⟨m, r, S, _, hE, hS, hw, fun x S1 v m1 H1 h1 g1 r1 q1 => by
    split at h1
    · rename_i y
      exact ⟨y, q1, hf _ S1 m1 H1 _ h1 g1 r1 itok_str⟩
    · exact h1.elim⟩⟩
/-- len of a text -/
abbrev fSLen : PF := fun xs S W => match xs with
  | [.r (.d (.str a))] => a.length ≤ 16777216 ∧ W (.r (.d (.int (a.length : Nat)))) S
  | _ => False
theorem f_slen : FnP X (.builtin "len") fSLen := by
  refine ⟨_, call_len_str, fun xs S W vs m H H0 Q r q w f => ?_⟩
  unfold fSLen at w
  split at w
  · rename_i a
    obtain ⟨v, rfl, q1⟩ := q.one
    obtain rfl : v = V.str a := q1
    exact ⟨a, rfl, by rw [sizeLine_eq]; exact w.1, f.here r (x := svi _) rfl w.2⟩
  · exact w.elim
/-- t in s, s + t, s[i] of texts -/
abbrev pSIn : P2 := fun x y S W => match x, y with
  | .r (.d (.str a)), .r (.d (.str b)) => W (.r (.d (.bl (!(Builtin.Str.occurrences b a 0 b.length 1).isEmpty)))) S
  | _, _ => False
theorem o_sin : OpP X (compareOp .In) pSIn := by
  refine ⟨_, op_in_str, fun x y S W v u m H H0 Q r qx qy w f => ?_⟩
  unfold pSIn at w
  split at w
  · rename_i a b
    exact ⟨a, b, qx, qy, f.here r (x := svb _) rfl w⟩
  · exact w.elim
abbrev pSCat : P2 := fun x y S W => match x, y with
  | .r (.d (.str a)), .r (.d (.str b)) => a.length + b.length ≤ 16777216 ∧ W (.r (.d (.str (a ++ b)))) S
  | _, _ => False
theorem o_scat : OpP X (binaryOp .Add) pSCat := by
  refine ⟨_, op_add_str, fun x y S W v u m H H0 Q r qx qy w f => ?_⟩
  unfold pSCat at w
  split at w
  · rename_i a b
    exact ⟨a, b, qx, qy, by rw [sizeLine_eq]; exact w.1, f.here r (x := .r (.d (.str (a ++ b)))) rfl w.2⟩
  · exact w.elim
abbrev pSIx : P2 := fun x y S W => match x, y with
  | .r (.d (.str a)), .r (.d (.int i)) => match a.cps[i.toNat]? with
    | some c => (0 ≤ i ∧ i < 16777216 ∧ i < a.length) ∧ W (.r (.d (.str ⟨#[c]⟩))) S
    | none => False
  | _, _ => False
theorem we_six {a b : Expr} {wa wb : PE1} (ha : WE X a wa) (hb : WE X b wb) (hs : PlainIxT b) : WE X (.Subscript a b pos) (wBin pSIx wa wb) :=
  ⟨peImp (pe_item_str ha.pe hb.pe hs) fun s H Q ⟨m, ρ, S, W, hE, hS, hw, hf⟩ => up2 hE hS hw fun x y S2 v u m2 H2 z g2 r2 qx qy => by
    unfold pSIx at z
    split at z
    · rename_i a i
      split at z
      · rename_i c e
        exact ⟨a, i, c, qx, qy, z.1.1, by have := z.1.2.1; omega, z.1.2.2, e, (hf.later g2 r2).here r2 (x := .r (.d (.str ⟨#[c]⟩))) rfl z.2⟩
      · exact z.elim
    · exact z.elim⟩
/-- s.index(t), t found in s -/
abbrev wSIdx (wo we : PE1) : PE1 := fun r S W => wo r S fun x S1 => match x with
  | .r (.d (.str a)) => we r S1 fun y S2 => match y with
    | .r (.d (.str b)) => match Builtin.Str.occurrences a b 0 a.length 1 with
      | i :: _ => W (.r (.d (.int (i : Nat)))) S2
      | [] => False
    | _ => False
  | _ => False
theorem we_sidx {o : Expr} {apos : Pos} {wo : PE1} (ho : WE X o wo) (he : WE X e we)
    (h : ∀ {to te : TE}, PE X o to → PE X e te → PE X (.Call (.Attribute o "index" apos) [e] [] pos) (tBM X.K "str" (fun x xs H Q => ∃ a b i rest, x = .str a ∧ xs = [.str b] ∧ Builtin.Str.occurrences a b 0 a.length 1 = i :: rest ∧ Q (.int (i : Nat)) H) to (tCons te tNil)) := by
      intro _ _ ho he; exact pe_bm PySem.F.plainAttrs_str PySem.F.slot_str_index PySem.F.type_str_index mt_sindex ho (pa_cons he pa_nil)) : WE X (.Call (.Attribute o "index" apos) [e] [] pos) (wSIdx wo we) :=
  ⟨peImp (h ho.pe he.pe) fun s H Q ⟨m, r, S, W, hE, hS, hw, hf⟩ => up1 hE hS hw fun x S1 v m1 H1 h1 g1 r1 q1 => by
    split at h1
    · rename_i a
      obtain rfl : v = V.str a := q1
      refine ⟨by trivial, m1, r, S1, _, hE.grow g1, r1, h1, fun y S2 u m2 H2 h2 g2 r2 q2 => ?_⟩
      split at h2
      · rename_i b
        obtain rfl : u = V.str b := q2
        split at h2
        · rename_i i rest e
          exact ⟨a, b, i, rest, rfl, rfl, e, hf _ _ _ m2 _ h2 (g1.trans g2) r2 (show RepR _ _ _ _ _ from rfl)⟩
        · exact h2.elim
      · exact h2.elim
    · exact h1.elim⟩
/-- a constant of the module -/
structure ConAt (K : PySem.W.Frag) (mg : Str → Option Value) (x : Str) (d : D) : Prop where
  ex : ∃ v u, mg x = some u ∧ RelV v u ∧ ∀ H, RepD K H d v
theorem we_gc {x : Str} {d : D} {p : Pos} (hg : Gl X x) (h : ConAt X.K X.mg x d) (hd : (x == ("__debug__" : Str)) = false := by decide) : WE X (.Name x p) (wC d) :=
  let ⟨_, _, hm, r, k⟩ := h.ex
  we_c (pe_glob hg hm r hd) k
theorem RepDs.ints {K : PySem.W.Frag} {H : Hp} : ∀ ns : List Int, RepDs K H (ns.map D.int) (ns.map V.int)
  | [] => rfl
  | n :: ns => ⟨_, _, rfl, rfl, RepDs.ints ns⟩
theorem ConAt.ints {K : PySem.W.Frag} {mg : Str → Option Value} {h : Heap} {x : Str} {a : Addr} {od : Option Addr} {its : Array Value} {n : Nat} {osl : Array (Option Value)} {ns : List Int} (KX : K.In h) (G : h.Ns mainGlobals mg)
    (e : PySem.W.nsIn K mainGlobals x = some (some (.ref a))) (l : K.lookup a = some ⟨.type "tuple", od, .seq its n, osl⟩) (hz : its.size ≤ sizeLine) (hv : Vals (ns.map V.int) its.toList) : ConAt K mg x (.tup (ns.map D.int)) :=
  ⟨.ref a, .ref a, PySem.W.mg_of KX G e, rfl, fun H => ⟨a, ns.map V.int, rfl, .inr ⟨_, its, n, l, rfl, rfl, hz, hv⟩, RepDs.ints ns⟩⟩
theorem ConAt.str {K : PySem.W.Frag} {mg : Str → Option Value} {h : Heap} {x : Str} {s : Str} {t : Tok} (KX : K.In h) (G : h.Ns mainGlobals mg)
    (e : PySem.W.nsIn K mainGlobals x = some (some (.str s t))) : ConAt K mg x (.str s) :=
  ⟨.str s, .str s t, PySem.W.mg_of KX G e, ⟨t, rfl⟩, fun _ => rfl⟩
theorem ConAt.int {K : PySem.W.Frag} {mg : Str → Option Value} {h : Heap} {x : Str} {i : Int} {t : Tok} (KX : K.In h) (G : h.Ns mainGlobals mg)
    (e : PySem.W.nsIn K mainGlobals x = some (some (.int i t))) : ConAt K mg x (.int i) :=
  ⟨.int i, .int i t, PySem.W.mg_of KX G e, ⟨t, rfl⟩, fun _ => rfl⟩
/-- reversed(list or tuple) -/
abbrev wRev (w : PE1) : PI1 := fun r S W => w r S fun x S1 => match itOf S1 x with
  | some it => W { items := it.items.reverse, chk := it.chk } S1
  | none => False
theorem itok_rev {K : PySem.W.Frag} {m0 : List Addr} {H0 : Hp} {a : Addr} {it : It1} {b : Bool}
    (h : ∀ m H S', Grow m0 H0 m H → RepS K m H S' → it.chk S' → ∃ vs, RepRs K m H it.items vs ∧ if b = true then SqL K H a vs else SqT K H a vs) :
    ItOk K m0 H0 (if b = true then Itv K a it.items.length else RT.ItvT K a it.items.length) { items := it.items.reverse, chk := it.chk } :=
  ⟨fun i m H S g r hc => by
    obtain ⟨vs, k1, k2⟩ := h m H S g r hc
    have hl := RepRs.len k1
    refine ⟨fun x e => ?_, fun e => ?_⟩
    · have hi : i < it.items.length := by
        have := (List.getElem?_eq_some_iff.mp e).1
        simpa using this
      have e' : it.items[it.items.length - 1 - i]? = some x := by rw [← List.getElem?_reverse hi]; exact e
      obtain ⟨v, e2, q⟩ := RepRs.get k1 e'
      cases b with
      | true =>
        refine ⟨⟨hi, vs, v, k2, e2⟩, fun v' H' ⟨eh, all⟩ => ?_⟩
        subst eh
        have e3 := all vs k2
        rw [e2] at e3; cases e3
        exact ⟨Grow.refl, r, q⟩
      | false =>
        refine ⟨⟨hi, vs, v, k2, e2⟩, fun v' H' ⟨eh, all⟩ => ?_⟩
        subst eh
        have e3 := all vs k2
        rw [e2] at e3; cases e3
        exact ⟨Grow.refl, r, q⟩
    · have hi : it.items.length ≤ i := by
        have := List.getElem?_eq_none_iff.mp e
        simpa using this
      cases b with
      | true => exact hi
      | false => exact hi⟩
theorem wi_rev {tg : Expr} {p : Pos} (hg : Gl X "reversed") (hm : X.mg "reversed" = none) (he : WE X e we) (hs : starEach [e] X.env = (false, eval e X.env) :: starEach [] X.env := by rfl) : WI X tg (.Call (.Name "reversed" p) [e] [] pos) (wRev we) :=
  ⟨piImp (RT.pi_revA hg hm he.pe hs) fun s H R ⟨m, r, S, W, hE, hS, hw, hf⟩ => ⟨m, r, S, _, hE, hS, hw, fun x S1 v m1 H1 h1 g1 r1 q1 => by
  split at h1
  · rename_i it e1
    obtain ⟨a, rfl, h2⟩ := itOf_seq e1 q1 r1
    have hc : it.chk S1 := by
      unfold itOf at e1
      split at e1
      · split at e1
        · rename_i hh
          cases e1; exact hh
        · cases e1
      · cases e1; trivial
      · rw [Option.map_eq_some_iff] at e1
        obtain ⟨_, _, rfl⟩ := e1
        trivial
    obtain ⟨vs, k1, k2⟩ := h2 m1 H1 S1 Grow.refl r1 hc
    have ok := itok_rev (b := isLst x) h2
    have hl := RepRs.len k1
    refine ⟨a, vs, rfl, ?_⟩
    rw [hl]
    cases hb : isLst x with
    | true =>
      rw [hb] at k2 ok
      exact .inl ⟨k2, hf _ S1 m1 H1 _ h1 g1 r1 ok⟩
    | false =>
      rw [hb] at k2 ok
      exact .inr ⟨k2, hf _ S1 m1 H1 _ h1 g1 r1 ok⟩
  · exact h1.elim⟩⟩
/-- is True, is not True .. -/
theorem op_isB : OpR X (compareOp .Is) (fun x y H Q => ∃ b c, x = .bl b ∧ y = .bl c ∧ Q (.bl (b == c)) H) := by
  intro pins s σ H x y v u Q I rx ry h
  obtain ⟨b, c, rfl, rfl, q⟩ := h
  cases rx
  cases ry
  exact is_bool ⟨.bl (b == c), H, I, rfl, q⟩
theorem op_notB : OpR X (compareOp .IsNot) (fun x y H Q => ∃ b c, x = .bl b ∧ y = .bl c ∧ Q (.bl (b != c)) H) := by
  intro pins s σ H x y v u Q I rx ry h
  obtain ⟨b, c, rfl, rfl, q⟩ := h
  cases rx
  cases ry
  exact isnot_bool ⟨.bl (b != c), H, I, rfl, q⟩
abbrev pIsB (neg : Bool) : P2 := fun x y S W => match x, y with
  | .r (.d (.bl b)), .r (.d (.bl c)) => W (.r (.d (.bl (if neg then b != c else b == c)))) S
  | _, _ => False
theorem o_isB : OpP X (compareOp .Is) (pIsB false) := by
  refine ⟨_, op_isB, fun x y S W v u m H H0 Q r qx qy w f => ?_⟩
  unfold pIsB at w
  split at w
  · rename_i b c
    exact ⟨b, c, qx, qy, f.here r (x := svb _) rfl w⟩
  · exact w.elim
theorem o_notB : OpP X (compareOp .IsNot) (pIsB true) := by
  refine ⟨_, op_notB, fun x y S W v u m H H0 Q r qx qy w f => ?_⟩
  unfold pIsB at w
  split at w
  · rename_i b c
    exact ⟨b, c, qx, qy, f.here r (x := svb _) rfl w⟩
  · exact w.elim
/-- a new list that nobody will write: from here on it is data -/
abbrev wFz (w : PE1) : PE1 := fun r S W => w r S fun x S1 => match x with
  | .f xs => W (.r (.d (.lst xs))) S1
  | .r y => W (.r y) S1
theorem we_fz (h : WE X e we) : WE X e (wFz we) := by
  refine ⟨⟨fun pins s z H Q I ⟨m, r, S, W, hE, hS, hw, hf⟩ => ?_⟩⟩
  refine thn (h.pe.run pins s z H (fun v H1 => Q v H1 ∨ ∃ a vs, v = .ref a ∧ H1 a = some (.lst vs) ∧ ∀ od, Q v (upd H1 a (.frz od (.lst vs)))) I ⟨m, r, S, _, hE, hS, hw, fun x S1 v m1 H1 h1 g1 r1 q1 => ?_⟩) fun v s1 ⟨x, H1, I1, rl, q⟩ => ?_
  · cases x with
    | r y => exact .inl (hf _ S1 v m1 H1 h1 g1 r1 q1)
    | f xs =>
      obtain ⟨a, vs, rfl, e1, ha, h0, hd⟩ := q1
      exact .inr ⟨a, vs, rfl, e1, fun od => hf _ S1 _ m1 _ h1 (g1.frz_new h0 e1) (r1.frz ha e1) ⟨a, vs, rfl, .inl ⟨od, upd_same⟩, RepDs.keep (kt_fz e1) (kf_fz e1) xs vs hd⟩⟩
  · rcases q with q | ⟨a, vs, rfl, e1, q⟩
    · exact ⟨x, H1, I1, rl, q⟩
    · obtain ⟨od, I2⟩ := I1.lock e1 trivial
      exact ⟨_, _, I2, rl, q od⟩
/-- a statement that is never reached -/
abbrev wNever : PS1 := fun _ _ _ => False
theorem wss_never {st : List Stmt} : WSs X st wNever := ⟨⟨fun pins s z H D I ⟨_, _, _, _, _, _, hw, _⟩ => hw.elim⟩⟩
theorem ws_never {st : Stmt} : WS X st wNever := ⟨⟨fun pins s z H D I ⟨_, _, _, _, _, _, hw, _⟩ => hw.elim⟩⟩
end
/-- a for over items that have something in common -/
theorem forL_mem {k : Nat} {chk : Sto → Prop} {f : R → Rho → Option Rho} {body : PS1} {N : En} {items : List R} (I : Rho → Sto → Prop) {r : Rho} {S : Sto} (h0 : I r S)
    (hs : ∀ x ∈ items, ∀ r S, I r S → ∀ M : Rho → Sto → Prop, (∀ r' S', I r' S' → M r' S') → chk S ∧ match f x r with
      | some r1 => body { nx := fun r2 S2 => ∃ r3 S3, Cut k r2 S2 r3 S3 ∧ M r3 S3, rt := N.rt, bk := N.nx, ct := fun r2 S2 => ∃ r3 S3, Cut k r2 S2 r3 S3 ∧ M r3 S3 } r1 S
      | none => False)
    (hd : ∀ r S, I r S → chk S ∧ N.nx r S) : forL k chk f body N items r S :=
  forL_ix (fun _ => I) (fun i x e => hs x (List.mem_of_getElem? e)) hd h0
/-- the rest of a block behind a name: so that no rewriting looks into it -/
theorem seqI {t u : PS1} {N : En} {r : Rho} {S : Sto} (h : ∀ P : Rho → Sto → Prop, (∀ r S, u N r S → P r S) → t { nx := P, rt := N.rt, bk := N.bk, ct := N.ct } r S) : wSeq t u N r S := h _ fun _ _ h => h
/-- the same, the other ways out behind names, too -/
theorem seqJ {t u : PS1} {N : En} {r : Rho} {S : Sto} (h : ∀ P : Rho → Sto → Prop, (∀ r S, u N r S → P r S) → ∀ T, T = N.rt → t { nx := P, rt := T, bk := N.bk, ct := N.ct } r S) : wSeq t u N r S := h _ (fun _ _ h => h) _ rfl
end Z

set_option Elab.async false
set_option linter.all false
set_option maxRecDepth 100000
set_option exponentiation.threshold 20000
/-! R1: promises that stand in several laws. -/
namespace Z
open PySem PySem.Spec PyProof.Rows L2 RZ
/-- what divides both -/
def spGcd : SpZ := fun rs S W => match rs with
  | [.d (.int a), .d (.int b)] => W (.d (.int (Int.gcd a b))) S
  | _ => False
/-- the plain row -/
def spPln : SpZ := fun rs S W => match rs with
  | [.d (.tup xs)] => ∃ ns : List Int, xs = ns.map D.int ∧ (∃ n ∈ ns, n ≠ 0) ∧ (∀ n ∈ ns, Bd 9000 n) ∧ ns.length ≤ 1000 ∧ W (.d (.tup ((pln ns).map D.int))) S
  | _ => False
theorem gl_cdv {ns : List Int} (hz : ∃ n ∈ ns, n ≠ 0) (hb : ∀ n ∈ ns, Bd 9000 n) (n : Int) : CDv n (gl ns) ∧ CDv n (0 - (gl ns : Int)) ∧ CDv n (-(gl ns : Int)) := by
  have hg := gl_pos hz
  obtain ⟨x, hx, h0⟩ := hz
  have h1 := hb x hx
  have h2 := gl_le hx h0
  have b1 : Bd 9000 (gl ns : Int) := by simp only [bd_iff] at *; simp only [Int.natAbs_natCast]; omega
  exact ⟨cdv (n := 9000) (by omega) b1 (Nat.le_refl _), cdv (n := 9000) (by omega) (by rw [Int.zero_sub]; exact b1.neg) (Nat.le_refl _), cdv (n := 9000) (by omega) b1.neg (Nat.le_refl _)⟩
theorem fdiv_gl_neg {ns : List Int} {n : Int} (hz : ∃ n ∈ ns, n ≠ 0) (hn : n ∈ ns) : n.fdiv (-(gl ns : Int)) = -1 * (n / (gl ns : Int)) := by
  have hg := gl_pos hz
  obtain ⟨q, hq⟩ := gl_dvd hn
  rw [hq, Int.mul_ediv_cancel_left _ (by omega)]
  have : (gl ns : Int) * q = (-(gl ns : Int)) * (-1 * q) := by grind
  rw [this, Int.mul_fdiv_cancel_left _ (by omega)]
theorem fold_take {ns : List Int} {i : Nat} {n : Int} (hn : ns[i]? = some n) : (ns.take (i + 1)).foldl (fun g x => Nat.gcd g x.natAbs) 0 = Nat.gcd ((ns.take i).foldl (fun g x => Nat.gcd g x.natAbs) 0) n.natAbs := by
  rw [List.take_add_one, hn]
  simp only [Option.toList_some, List.foldl_append, List.foldl_cons, List.foldl_nil]
theorem fold_all {ns : List Int} : (ns.take ((ns.map D.int).map R.d).length).foldl (fun g x => Nat.gcd g x.natAbs) 0 = gl ns := by
  rw [List.length_map, List.length_map, List.take_length, gl_fold, Nat.gcd_zero_left]
theorem item_ints {ns : List Int} {i : Nat} {x : R} (hx : ((ns.map D.int).map R.d)[i]? = some x) : ∃ n, ns[i]? = some n ∧ x = .d (.int n) := by
  rw [List.getElem?_map, List.getElem?_map, Option.map_eq_some_iff] at hx
  obtain ⟨d, hd, rfl⟩ := hx
  rw [Option.map_eq_some_iff] at hd
  obtain ⟨n, hn, rfl⟩ := hd
  exact ⟨n, hn, rfl⟩
theorem pln_bds {n : Nat} {ns : List Int} (hz : ∃ n ∈ ns, n ≠ 0) (hb : ∀ x ∈ ns, Bd n x) : ∀ x ∈ pln ns, Bd n x := fun x hx => Bd.lit (pln_bd hz (fun y hy => (hb y hy).lt) x hx)
theorem depth_tup {ns : List Int} : (PyData.tuple (pys (ns.map D.int))).depth ≤ 2 := by
  have := depth_ints ns
  simp only [PyData.depth]; omega
theorem depth_lst {ns : List Int} : (PyData.list (pys (ns.map D.int))).depth ≤ 2 := by
  have := depth_ints ns
  simp only [PyData.depth]; omega
end Z

set_option Elab.async false
set_option linter.all false
/-! M2: fractions, points, turns of points. -/
namespace Z
/-- a fraction as data -/
def frD (q : Rat) : D := .tup [.int q.num, .int (q.den : Int)]
theorem frD_inj {p q : Rat} : frD p = frD q ↔ p = q := by
  constructor
  · intro h
    unfold frD at h
    injection h with h
    injection h with h1 h2
    injection h2 with h2 _
    injection h1 with h1
    injection h2 with h2
    exact Rat.ext h1 (Int.ofNat.inj h2)
  · intro h; rw [h]
/-- the row of a fraction -/
def frL (q : Rat) : List Int := [q.num, (q.den : Int)]
theorem frD_map (q : Rat) : frD q = .tup ((frL q).map D.int) := rfl
theorem frL_inj {p q : Rat} : frL p = frL q ↔ p = q := by
  rw [← frD_inj, frD_map, frD_map]
  constructor
  · intro h; rw [h]
  · intro h; injection h with h; exact List.map_inj_right (fun _ _ e => by injection e) |>.mp h
theorem fdiv_of {t g k : Int} (h : t = g * k) (hg : g ≠ 0) : t.fdiv g = k := by rw [h]; exact Int.mul_fdiv_cancel_left _ hg
/-- the two numbers that the lowest terms are divided by -/
theorem made_num {t b : Int} (hb : b ≠ 0) : ((t : Rat) / (b : Rat)).num = if b < 0 then t.fdiv (-(Int.gcd t b : Int)) else t.fdiv (Int.gcd t b) := by
  have hg : 0 < Int.gcd t b := Int.gcd_pos_of_ne_zero_right t hb
  rw [← Rat.divInt_eq_div, Rat.num_divInt]
  obtain ⟨k, hk⟩ := Int.gcd_dvd_left t b
  have e : (b.gcd t : Int) = (Int.gcd t b : Int) := by rw [Int.gcd_comm]
  rw [e]
  split
  · rename_i h
    rw [Int.sign_eq_neg_one_of_neg h]
    have e1 : -1 * t = (Int.gcd t b : Int) * (-k) := by grind
    have e2 : t = (-(Int.gcd t b : Int)) * (-k) := by grind
    rw [e1, Int.mul_ediv_cancel_left _ (by omega), fdiv_of e2 (by omega)]
  · rename_i h
    rw [Int.sign_eq_one_of_pos (by omega), Int.one_mul, Int.fdiv_eq_ediv_of_nonneg _ (by omega)]
theorem made_den {t b : Int} (hb : b ≠ 0) : ((((t : Rat) / (b : Rat)).den : Nat) : Int) = if b < 0 then b.fdiv (-(Int.gcd t b : Int)) else b.fdiv (Int.gcd t b) := by
  have hg : 0 < Int.gcd t b := Int.gcd_pos_of_ne_zero_right t hb
  rw [← Rat.divInt_eq_div, Rat.den_divInt, if_neg hb, Int.gcd_comm b t]
  obtain ⟨k, hk⟩ := Int.gcd_dvd_right t b
  have e0 : b.natAbs = Int.gcd t b * k.natAbs := by
    have := congrArg Int.natAbs hk
    rw [Int.natAbs_mul] at this
    simpa using this
  rw [e0, Nat.mul_div_cancel_left _ hg]
  split
  · rename_i h
    have e2 : b = (-(Int.gcd t b : Int)) * (-k) := by grind
    rw [fdiv_of e2 (by omega)]
    have : k < 0 := by
      by_cases hk0 : 0 ≤ k
      · have := Int.mul_nonneg (show (0 : Int) ≤ (Int.gcd t b : Int) by omega) hk0; omega
      · omega
    omega
  · rename_i h
    rw [fdiv_of hk (by omega)]
    have : 0 ≤ k := by
      by_cases hk0 : 0 ≤ k
      · exact hk0
      · have := Int.mul_neg_of_pos_of_neg (show (0 : Int) < (Int.gcd t b : Int) by omega) (show k < 0 by omega); omega
    omega
/-! ### points and turns -/
abbrev Pt := Rat × Rat × Rat
def ptD (p : Pt) : D := .tup [frD p.1, frD p.2.1, frD p.2.2]
theorem ptD_inj {p q : Pt} : ptD p = ptD q ↔ p = q := by
  constructor
  · intro h
    unfold ptD at h
    injection h with h
    injection h with h1 h2
    injection h2 with h2 h3
    injection h3 with h3 _
    obtain ⟨a, b, c⟩ := p
    obtain ⟨a', b', c'⟩ := q
    simp only [frD_inj] at h1 h2 h3
    rw [h1, h2, h3]
  · intro h; rw [h]
/-- the size of a four -/
def nrm (w x y z : Rat) : Rat := w * w + x * x + y * y + z * z
/-- the turn of a four of fractions -/
def rotQ (w x y z : Rat) (p : Pt) : Pt :=
  ((p.1 * (w * w + x * x - y * y - z * z) + p.2.1 * (2 * (x * y - w * z)) + p.2.2 * (2 * (x * z + w * y))) * (nrm w x y z)⁻¹,
   (p.1 * (2 * (x * y + w * z)) + p.2.1 * (w * w - x * x + y * y - z * z) + p.2.2 * (2 * (y * z - w * x))) * (nrm w x y z)⁻¹,
   (p.1 * (2 * (x * z - w * y)) + p.2.1 * (2 * (y * z + w * x)) + p.2.2 * (w * w - x * x - y * y + z * z)) * (nrm w x y z)⁻¹)
def rot (a : List Int) (p : Pt) : Pt := match a with
  | [w, x, y, z] => rotQ w x y z p
  | _ => p
/-- the product of fours, the first one's turn done last -/
def qmul : List Int → List Int → List Int
  | [p, q, r, s], [t, u, v, o] => [p * t - q * u - r * v - s * o, p * u + q * t + r * o - s * v, p * v - q * o + r * t + s * u, p * o + q * v - r * u + s * t]
  | _, _ => []
def qbk : List Int → List Int
  | [w, x, y, z] => [w, -x, -y, -z]
  | _ => []
theorem four_of {a : List Int} (h : a.length = 4) : ∃ w x y z, a = [w, x, y, z] := by
  match a, h with
  | [w, x, y, z], _ => exact ⟨w, x, y, z, rfl⟩
def nrmI : List Int → Int
  | [w, x, y, z] => w * w + x * x + y * y + z * z
  | _ => 0
theorem sq_pos {x : Int} (h : x ≠ 0) : 0 < x * x := by
  rcases Int.lt_or_gt_of_ne h with h | h
  · exact Int.mul_pos_of_neg_of_neg h h
  · exact Int.mul_pos h h
theorem sq_nn (x : Int) : 0 ≤ x * x := by
  by_cases h : x = 0
  · subst h; decide
  · exact Int.le_of_lt (sq_pos h)
theorem nrmI_pos {w x y z : Int} (h : ∃ n ∈ [w, x, y, z], n ≠ 0) : 0 < nrmI [w, x, y, z] := by
  obtain ⟨n, hn, h0⟩ := h
  have a := sq_nn w
  have b := sq_nn x
  have c := sq_nn y
  have d := sq_nn z
  have e := sq_pos h0
  show 0 < w * w + x * x + y * y + z * z
  simp only [List.mem_cons, List.not_mem_nil, or_false] at hn
  rcases hn with rfl | rfl | rfl | rfl <;> omega
theorem nz_of_nrm {w x y z : Int} (h : nrmI [w, x, y, z] ≠ 0) : ∃ n ∈ [w, x, y, z], n ≠ 0 := by
  by_cases h1 : w = 0
  · by_cases h2 : x = 0
    · by_cases h3 : y = 0
      · by_cases h4 : z = 0
        · subst h1 h2 h3 h4; exact absurd rfl h
        · exact ⟨z, by simp, h4⟩
      · exact ⟨y, by simp, h3⟩
    · exact ⟨x, by simp, h2⟩
  · exact ⟨w, by simp, h1⟩
theorem nrmI_qmul {a b : List Int} (ha : a.length = 4) (hb : b.length = 4) : nrmI (qmul a b) = nrmI a * nrmI b := by
  obtain ⟨p, q, r, s, rfl⟩ := four_of ha
  obtain ⟨t, u, v, o, rfl⟩ := four_of hb
  simp only [qmul, nrmI]
  grind
theorem qmul_len {a b : List Int} (ha : a.length = 4) (hb : b.length = 4) : (qmul a b).length = 4 := by
  obtain ⟨p, q, r, s, rfl⟩ := four_of ha
  obtain ⟨t, u, v, o, rfl⟩ := four_of hb
  rfl
theorem qmul_nz {a b : List Int} (ha : a.length = 4) (hb : b.length = 4) (h1 : ∃ n ∈ a, n ≠ 0) (h2 : ∃ n ∈ b, n ≠ 0) : ∃ n ∈ qmul a b, n ≠ 0 := by
  have e := nrmI_qmul ha hb
  obtain ⟨p, q, r, s, rfl⟩ := four_of ha
  obtain ⟨t, u, v, o, rfl⟩ := four_of hb
  have k1 := nrmI_pos h1
  have k2 := nrmI_pos h2
  refine nz_of_nrm ?_
  have := Int.mul_pos k1 k2
  show nrmI (qmul [p, q, r, s] [t, u, v, o]) ≠ 0
  omega
theorem qmul_bd {m n : Nat} {a b : List Int} (h1 : ∀ x ∈ a, Bd m x) (h2 : ∀ x ∈ b, Bd n x) : ∀ x ∈ qmul a b, Bd (m + n + 3) x := by
  unfold qmul
  split
  · rename_i p q r s t u v o
    simp only [List.mem_cons, List.not_mem_nil, or_false] at h1 h2 ⊢
    have mm : ∀ i j, Bd m i → Bd n j → Bd (m + n) (i * j) := fun i j a b => a.mul b
    have p1 := h1 p (by simp); have p2 := h1 q (by simp); have p3 := h1 r (by simp); have p4 := h1 s (by simp)
    have q1 := h2 t (by simp); have q2 := h2 u (by simp); have q3 := h2 v (by simp); have q4 := h2 o (by simp)
    have fin : ∀ {a b c d e f : Int}, Bd (m + n) a → Bd (m + n) b → Bd (m + n) c → Bd (m + n) d → (e = a - b - c - d ∨ e = a + b + c - d ∨ e = a - b + c + d ∨ e = a + b - c + d) → Bd (m + n + 3) e := by
      intro a b c d e f h1 h2 h3 h4 h
      simp only [bd_iff] at *
      have : 2 ^ (m + n + 3) = 2 ^ (m + n) * 8 := by rw [Nat.pow_add]
      rcases h with h | h | h | h <;> omega
    rintro x (rfl | rfl | rfl | rfl)
    · exact fin (f := 0) (mm _ _ p1 q1) (mm _ _ p2 q2) (mm _ _ p3 q3) (mm _ _ p4 q4) (.inl rfl)
    · exact fin (f := 0) (mm _ _ p1 q2) (mm _ _ p2 q1) (mm _ _ p3 q4) (mm _ _ p4 q3) (.inr (.inl rfl))
    · exact fin (f := 0) (mm _ _ p1 q3) (mm _ _ p2 q4) (mm _ _ p3 q1) (mm _ _ p4 q2) (.inr (.inr (.inl rfl)))
    · exact fin (f := 0) (mm _ _ p1 q4) (mm _ _ p2 q3) (mm _ _ p3 q2) (mm _ _ p4 q1) (.inr (.inr (.inr rfl)))
  · intro x hx; simp at hx
theorem nrm_mul (w x y z a b c d : Rat) : nrm (a * w - b * x - c * y - d * z) (a * x + b * w + c * z - d * y) (a * y - b * z + c * w + d * x) (a * z + b * y - c * x + d * w) = nrm a b c d * nrm w x y z := by
  unfold nrm; grind
/-- one turn and then another one is the turn of the product -/
theorem rotQ_comp (w x y z a b c d : Rat) (p : Pt) : rotQ (a * w - b * x - c * y - d * z) (a * x + b * w + c * z - d * y) (a * y - b * z + c * w + d * x) (a * z + b * y - c * x + d * w) p = rotQ a b c d (rotQ w x y z p) := by
  obtain ⟨p, q, r⟩ := p
  unfold rotQ
  rw [nrm_mul, Rat.inv_mul_rev]
  generalize (nrm w x y z)⁻¹ = i
  generalize (nrm a b c d)⁻¹ = j
  simp only [Prod.mk.injEq]
  refine ⟨?_, ?_, ?_⟩ <;> grind
theorem rot_comp {a b : List Int} (ha : a.length = 4) (hb : b.length = 4) (p : Pt) : rot (qmul b a) p = rot b (rot a p) := by
  obtain ⟨w, x, y, z, rfl⟩ := four_of ha
  obtain ⟨s, t, u, v, rfl⟩ := four_of hb
  simp only [rot, qmul]
  rw [← rotQ_comp]
  simp only [Rat.intCast_sub, Rat.intCast_add, Rat.intCast_mul]
theorem nrm_ne {w x y z : Int} (h : ∃ n ∈ [w, x, y, z], n ≠ 0) : nrm w x y z ≠ 0 := by
  have := nrmI_pos h
  have e : nrm w x y z = ((nrmI [w, x, y, z] : Int) : Rat) := by simp only [nrm, nrmI, Rat.intCast_add, Rat.intCast_mul]
  rw [e]
  intro h0
  have : nrmI [w, x, y, z] = 0 := by exact_mod_cast h0
  omega
theorem rotQ_smul {k w x y z : Rat} (hk : k ≠ 0) (p : Pt) : rotQ (k * w) (k * x) (k * y) (k * z) p = rotQ w x y z p := by
  obtain ⟨p, q, r⟩ := p
  unfold rotQ
  have e : nrm (k * w) (k * x) (k * y) (k * z) = (k * k) * nrm w x y z := by unfold nrm; grind
  have hkk : k * k ≠ 0 := by grind
  have e2 : (nrm (k * w) (k * x) (k * y) (k * z))⁻¹ = (nrm w x y z)⁻¹ * (k * k)⁻¹ := by rw [e, Rat.inv_mul_rev]
  have e3 := Rat.mul_inv_cancel _ hkk
  rw [e2]
  generalize (nrm w x y z)⁻¹ = i
  generalize hj : (k * k)⁻¹ = j at e3
  simp only [Prod.mk.injEq]
  refine ⟨?_, ?_, ?_⟩ <;> grind
theorem rot_smul {k : Int} (hk : k ≠ 0) {a : List Int} (ha : a.length = 4) (p : Pt) : rot (a.map (k * ·)) p = rot a p := by
  obtain ⟨w, x, y, z, rfl⟩ := four_of ha
  simp only [rot, List.map_cons, List.map_nil, Rat.intCast_mul]
  exact rotQ_smul (by exact_mod_cast hk) p
theorem rot_pln {a : List Int} (ha : a.length = 4) (hz : ∃ n ∈ a, n ≠ 0) (p : Pt) : rot (pln a) p = rot a p := by
  conv => rhs; rw [pln_mul hz]
  exact (rot_smul (fsgl_ne hz) (by rw [pln_len, ha]) p).symm
/-- taken back -/
theorem rotQ_back {w x y z : Rat} (h : nrm w x y z ≠ 0) (p : Pt) : rotQ w (-x) (-y) (-z) (rotQ w x y z p) = p := by
  obtain ⟨p, q, r⟩ := p
  have e3 := Rat.mul_inv_cancel _ h
  have e1 : nrm w (-x) (-y) (-z) = nrm w x y z := by unfold nrm; grind
  unfold rotQ
  rw [e1]
  generalize hi : (nrm w x y z)⁻¹ = i at *
  unfold nrm at e3
  simp only [Prod.mk.injEq]
  refine ⟨?_, ?_, ?_⟩ <;> grind
theorem rot_back {a : List Int} (ha : a.length = 4) (hz : ∃ n ∈ a, n ≠ 0) (p : Pt) : rot (qbk a) (rot a p) = p := by
  obtain ⟨w, x, y, z, rfl⟩ := four_of ha
  simp only [rot, qbk, Rat.intCast_neg]
  exact rotQ_back (nrm_ne hz) p
/-- the square of a way -/
def sqP (p : Pt) : Rat := p.1 * p.1 + p.2.1 * p.2.1 + p.2.2 * p.2.2
theorem rotQ_sq {w x y z : Rat} (h : nrm w x y z ≠ 0) (p : Pt) : sqP (rotQ w x y z p) = sqP p := by
  obtain ⟨p, q, r⟩ := p
  have e3 := Rat.mul_inv_cancel _ h
  unfold rotQ sqP
  generalize hi : (nrm w x y z)⁻¹ = i at *
  unfold nrm at e3
  simp only
  grind
end Z

set_option Elab.async false
set_option linter.all false
set_option maxRecDepth 100000
set_option exponentiation.threshold 20000
/-! R2: promises about fours, fractions, points. -/
namespace Z
open PySem PySem.Spec PyProof.Rows L2 RZ
/-- the product of two fours -/
def spProd : SpZ := fun rs S W => match rs with
  | [.d (.tup xs), .d (.tup ys)] => ∃ a b : List Int, xs = a.map D.int ∧ ys = b.map D.int ∧ a.length = 4 ∧ b.length = 4 ∧ (∀ x ∈ a, Bd 60000000 x) ∧ (∀ x ∈ b, Bd 60000000 x) ∧ W (.d (.tup ((qmul a b).map D.int))) S
  | _ => False
/-- one turn and then another one -/
def spThen : SpZ := fun rs S W => match rs with
  | [.d (.tup xs), .d (.tup ys)] => ∃ a b : List Int, xs = a.map D.int ∧ ys = b.map D.int ∧ a.length = 4 ∧ b.length = 4 ∧ (∃ x ∈ a, x ≠ 0) ∧ (∃ x ∈ b, x ≠ 0) ∧ (∀ x ∈ a, Bd 4400 x) ∧ (∀ x ∈ b, Bd 4400 x) ∧ W (.d (.tup ((pln (qmul b a)).map D.int))) S
  | _ => False
def spBack : SpZ := fun rs S W => match rs with
  | [.d (.tup xs)] => ∃ a : List Int, xs = a.map D.int ∧ a.length = 4 ∧ (∃ x ∈ a, x ≠ 0) ∧ (∀ x ∈ a, Bd 9000 x) ∧ W (.d (.tup ((pln (qbk a)).map D.int))) S
  | _ => False
/-- a fraction in lowest terms -/
def spMade : SpZ := fun rs S W => match rs with
  | [.d (.int t), .d (.int b)] => b ≠ 0 ∧ Bd 9000 b ∧ W (.d (frD ((t : Rat) / (b : Rat)))) S
  | _ => False
theorem frD_pos {t b : Int} (h : 0 < b) : frD ((t : Rat) / (b : Rat)) = .tup [.int (t.fdiv (Int.gcd t b)), .int (b.fdiv (Int.gcd t b))] := by
  unfold frD
  rw [made_num (by omega), made_den (by omega), if_neg (by omega), if_neg (by omega)]
theorem frD_neg {t b : Int} (h : b < 0) : frD ((t : Rat) / (b : Rat)) = .tup [.int (t.fdiv (-(Int.gcd t b : Int))), .int (b.fdiv (-(Int.gcd t b : Int)))] := by
  unfold frD
  rw [made_num (by omega), made_den (by omega), if_pos h, if_pos h]
theorem gcd_cdv {t b : Int} (hb : b ≠ 0) (h : Bd 9000 b) (n : Int) : CDv n (Int.gcd t b) ∧ CDv n (-(Int.gcd t b : Int)) := by
  have hg : 0 < Int.gcd t b := Int.gcd_pos_of_ne_zero_right t hb
  have hle : Int.gcd t b ≤ b.natAbs := Nat.le_of_dvd (by omega) (Int.natAbs_dvd_natAbs.mpr (Int.gcd_dvd_right t b) |> fun q => by simpa using q)
  have b1 : Bd 9000 (Int.gcd t b : Int) := by simp only [bd_iff] at *; simp only [Int.natAbs_natCast]; omega
  exact ⟨cdv (by omega) b1 (Nat.le_refl _), cdv (by omega) b1.neg (Nat.le_refl _)⟩
/-- sizes of a fraction -/
def BQ (n : Nat) (q : Rat) : Prop := Bd n q.num ∧ Bd n (q.den : Int)
theorem BQ.mono {m n : Nat} {q : Rat} (h : BQ m q) (k : m ≤ n) : BQ n q := ⟨h.1.mono k, h.2.mono k⟩
theorem BQ.made {n : Nat} {t b : Int} (hb : b ≠ 0) (h1 : Bd n t) (h2 : Bd n b) : BQ n ((t : Rat) / (b : Rat)) := by
  have hg : 0 < Int.gcd t b := Int.gcd_pos_of_ne_zero_right t hb
  rw [← Rat.divInt_eq_div]
  unfold BQ; simp only [bd_iff] at *
  rw [Rat.num_divInt, Rat.den_divInt, if_neg hb]
  refine ⟨?_, ?_⟩
  · refine Nat.lt_of_le_of_lt (Int.natAbs_ediv_le_natAbs _ _) ?_
    rw [Int.natAbs_mul]
    have : b.sign.natAbs = 1 := Int.natAbs_sign_of_ne_zero hb
    rw [this, Nat.one_mul]; exact h1
  · simp only [Int.natAbs_natCast]
    exact Nat.lt_of_le_of_lt (Nat.div_le_self _ _) h2
/-- a point of one common bottom and tops of such sizes -/
def PtB (n : Nat) (p : Pt) : Prop := ∃ L : Nat, 0 < L ∧ Bd n (L : Int) ∧ ∀ q, (q = p.1 ∨ q = p.2.1 ∨ q = p.2.2) → q.den ∣ L ∧ Bd n (q.num * ((L / q.den : Nat) : Int))
theorem PtB.mono {m n : Nat} {p : Pt} (h : PtB m p) (k : m ≤ n) : PtB n p := by
  obtain ⟨L, h0, h1, h2⟩ := h
  exact ⟨L, h0, h1.mono k, fun q hq => ⟨(h2 q hq).1, (h2 q hq).2.mono k⟩⟩
theorem PtB.of {n : Nat} {p : Pt} (h1 : BQ n p.1) (h2 : BQ n p.2.1) (h3 : BQ n p.2.2) : PtB (n * 4) p := by
  obtain ⟨p, q, r⟩ := p
  simp only at h1 h2 h3
  have d1 := p.den_pos
  have d2 := q.den_pos
  have d3 := r.den_pos
  have hL : Bd (n + n + n) ((p.den * q.den * r.den : Nat) : Int) := by
    rw [Int.natCast_mul, Int.natCast_mul]
    exact (h1.2.mul h2.2).mul h3.2
  refine ⟨p.den * q.den * r.den, Nat.mul_pos (Nat.mul_pos d1 d2) d3, hL.mono (by omega), fun x hx => ?_⟩
  have key : ∀ x : Rat, Bd n x.num → x.den ∣ p.den * q.den * r.den → x.den ∣ p.den * q.den * r.den ∧ Bd (n * 4) (x.num * ((p.den * q.den * r.den / x.den : Nat) : Int)) := fun x hx hd => by
    refine ⟨hd, ?_⟩
    have : Bd (n + n + n) ((p.den * q.den * r.den / x.den : Nat) : Int) := by
      simp only [bd_iff] at *
      simp only [Int.natAbs_natCast] at *
      exact Nat.lt_of_le_of_lt (Nat.div_le_self _ _) hL
    exact (hx.mul this).mono (by omega)
  rcases hx with rfl | rfl | rfl
  · exact key _ h1.1 (Nat.dvd_trans (Nat.dvd_mul_right _ _) (Nat.dvd_mul_right _ _))
  · exact key _ h2.1 (Nat.dvd_trans (Nat.dvd_mul_left _ _) (Nat.dvd_mul_right _ _))
  · exact key _ h3.1 (Nat.dvd_mul_left _ _)
theorem PtB.bq {n : Nat} {p : Pt} (h : PtB n p) {q : Rat} (hq : q = p.1 ∨ q = p.2.1 ∨ q = p.2.2) : BQ n q := by
  obtain ⟨L, h0, h1, h2⟩ := h
  obtain ⟨hd, hb⟩ := h2 q hq
  refine ⟨?_, ?_⟩
  · simp only [bd_iff] at *
    rw [Int.natAbs_mul] at hb
    simp only [Int.natAbs_natCast] at hb
    have : 0 < L / q.den := Nat.div_pos (Nat.le_of_dvd h0 hd) q.den_pos
    exact Nat.lt_of_le_of_lt (Nat.le_mul_of_pos_right _ this) hb
  · simp only [bd_iff] at *
    simp only [Int.natAbs_natCast] at *
    exact Nat.lt_of_le_of_lt (Nat.le_of_dvd h0 hd) h1
/-- the turned point -/
def TB (a : List Int) (p : Pt) : Prop := ∃ m n : Nat, 2 * m + n ≤ 8900 ∧ (∀ x ∈ a, Bd m x) ∧ PtB n p
def spTurn : SpZ := fun rs S W => match rs with
  | [.d (.tup xs), .d pd] => ∃ (a : List Int) (p : Pt), xs = a.map D.int ∧ a.length = 4 ∧ (∃ x ∈ a, x ≠ 0) ∧ TB a p ∧ pd = ptD p ∧ W (.d (ptD (rot a p))) S
  | _ => False
/-- the rows of a four's table, whole -/
def rowsI : List Int → List (List Int)
  | [w, x, y, z] => [[w * w + x * x - y * y - z * z, 2 * (x * y - w * z), 2 * (x * z + w * y)], [2 * (x * y + w * z), w * w - x * x + y * y - z * z, 2 * (y * z - w * x)], [2 * (x * z - w * y), 2 * (y * z + w * x), w * w - x * x - y * y + z * z]]
  | _ => []
def rowD (xs : List Int) : D := .tup (xs.map D.int)
theorem rowsI_bd {n : Nat} {a : List Int} (h : ∀ x ∈ a, Bd n x) : ∀ row ∈ rowsI a, ∀ x ∈ row, Bd (n + n + 2) x := by
  unfold rowsI
  split
  · rename_i w x y z
    simp only [List.mem_cons, List.not_mem_nil, or_false] at h ⊢
    have mm : ∀ i j, Bd n i → Bd n j → (i * j).natAbs < 2 ^ (n + n) := fun i j a b => (a.mul b).lt
    have p1 := h w (by simp); have p2 := h x (by simp); have p3 := h y (by simp); have p4 := h z (by simp)
    have e : 2 ^ (n + n + 2) = 2 ^ (n + n) * 4 := by rw [Nat.pow_add]
    have a1 := mm _ _ p1 p1; have a2 := mm _ _ p2 p2; have a3 := mm _ _ p3 p3; have a4 := mm _ _ p4 p4
    have b1 := mm _ _ p2 p3; have b2 := mm _ _ p1 p4; have b3 := mm _ _ p2 p4; have b4 := mm _ _ p1 p3; have b5 := mm _ _ p3 p4; have b6 := mm _ _ p1 p2
    have s1 := sq_nn w; have s2 := sq_nn x; have s3 := sq_nn y; have s4 := sq_nn z
    rintro row (rfl | rfl | rfl) u hu <;> simp only [List.mem_cons, List.not_mem_nil, or_false] at hu <;> rcases hu with rfl | rfl | rfl <;> (refine bd_iff.mpr ?_; rw [e]; omega)
  · intro row hr; simp at hr
end Z

set_option Elab.async false
set_option linter.all false
set_option maxRecDepth 100000
set_option exponentiation.threshold 20000
/-! R3: more of fours and turned points, plain. -/
namespace Z
open PySem PySem.Spec PyProof.Rows L2 RZ
theorem qmul_smul_l {k : Int} {a b : List Int} (ha : a.length = 4) (hb : b.length = 4) : qmul (a.map (k * ·)) b = (qmul a b).map (k * ·) := by
  obtain ⟨p, q, r, s, rfl⟩ := four_of ha
  obtain ⟨t, u, v, o, rfl⟩ := four_of hb
  simp only [qmul, List.map_cons, List.map_nil, List.cons.injEq, and_true]
  refine ⟨?_, ?_, ?_, ?_⟩ <;> grind
theorem qmul_smul_r {k : Int} {a b : List Int} (ha : a.length = 4) (hb : b.length = 4) : qmul a (b.map (k * ·)) = (qmul a b).map (k * ·) := by
  obtain ⟨p, q, r, s, rfl⟩ := four_of ha
  obtain ⟨t, u, v, o, rfl⟩ := four_of hb
  simp only [qmul, List.map_cons, List.map_nil, List.cons.injEq, and_true]
  refine ⟨?_, ?_, ?_, ?_⟩ <;> grind
theorem pln_qmul_l {a b : List Int} (ha : a.length = 4) (hb : b.length = 4) (za : ∃ n ∈ a, n ≠ 0) (zb : ∃ n ∈ b, n ≠ 0) : pln (qmul (pln a) b) = pln (qmul a b) := by
  have hp : (pln a).length = 4 := by rw [pln_len, ha]
  conv => rhs; rw [pln_mul za, qmul_smul_l hp hb, pln_smul (fsgl_ne za) (qmul_nz hp hb (pln_nz za) zb)]
theorem pln_qmul_r {a b : List Int} (ha : a.length = 4) (hb : b.length = 4) (za : ∃ n ∈ a, n ≠ 0) (zb : ∃ n ∈ b, n ≠ 0) : pln (qmul a (pln b)) = pln (qmul a b) := by
  have hp : (pln b).length = 4 := by rw [pln_len, hb]
  conv => rhs; rw [pln_mul zb, qmul_smul_r ha hp, pln_smul (fsgl_ne zb) (qmul_nz ha hp za (pln_nz zb))]
theorem qbk_len {a : List Int} (ha : a.length = 4) : (qbk a).length = 4 := by
  obtain ⟨p, q, r, s, rfl⟩ := four_of ha; rfl
theorem qbk_nz {a : List Int} (ha : a.length = 4) (hz : ∃ n ∈ a, n ≠ 0) : ∃ n ∈ qbk a, n ≠ 0 := by
  obtain ⟨w, x, y, z, rfl⟩ := four_of ha
  obtain ⟨n, hn, h0⟩ := hz
  simp only [qbk, List.mem_cons, List.not_mem_nil, or_false] at hn ⊢
  rcases hn with rfl | rfl | rfl | rfl
  · exact ⟨n, by simp, h0⟩
  · exact ⟨-n, by simp, by omega⟩
  · exact ⟨-n, by simp, by omega⟩
  · exact ⟨-n, by simp, by omega⟩
theorem qbk_bd {n : Nat} {a : List Int} (hb : ∀ x ∈ a, Bd n x) : ∀ x ∈ qbk a, Bd n x := by
  unfold qbk
  split
  · simp only [List.mem_cons, List.not_mem_nil, or_false, forall_eq_or_imp, forall_eq] at hb ⊢
    exact ⟨hb.1, hb.2.1.neg, hb.2.2.1.neg, hb.2.2.2.neg⟩
  · intro x hx; simp at hx
theorem pln_one {n : Int} (h : n ≠ 0) : pln [n, 0, 0, 0] = [1, 0, 0, 0] := by
  have e : [n, 0, 0, 0] = [1, 0, 0, 0].map (n * ·) := by simp
  rw [e, pln_smul h ⟨1, by simp, by decide⟩]
  decide
theorem nrmI_ne {a : List Int} (ha : a.length = 4) (hz : ∃ n ∈ a, n ≠ 0) : nrmI a ≠ 0 := by
  obtain ⟨w, x, y, z, rfl⟩ := four_of ha
  have := nrmI_pos hz
  omega
theorem qmul_bk_l {a : List Int} (ha : a.length = 4) (hz : ∃ n ∈ a, n ≠ 0) : pln (qmul (qbk a) a) = [1, 0, 0, 0] := by
  have hn := nrmI_ne ha hz
  obtain ⟨w, x, y, z, rfl⟩ := four_of ha
  have e : qmul (qbk [w, x, y, z]) [w, x, y, z] = [nrmI [w, x, y, z], 0, 0, 0] := by
    simp only [qmul, qbk, nrmI, List.cons.injEq, and_true]
    refine ⟨?_, ?_, ?_, ?_⟩ <;> grind
  rw [e, pln_one hn]
theorem qmul_bk_r {a : List Int} (ha : a.length = 4) (hz : ∃ n ∈ a, n ≠ 0) : pln (qmul a (qbk a)) = [1, 0, 0, 0] := by
  have hn := nrmI_ne ha hz
  obtain ⟨w, x, y, z, rfl⟩ := four_of ha
  have e : qmul [w, x, y, z] (qbk [w, x, y, z]) = [nrmI [w, x, y, z], 0, 0, 0] := by
    simp only [qmul, qbk, nrmI, List.cons.injEq, and_true]
    refine ⟨?_, ?_, ?_, ?_⟩ <;> grind
  rw [e, pln_one hn]
theorem qmul_one_r {k : Int} {a : List Int} (ha : a.length = 4) : qmul a [k, 0, 0, 0] = a.map (k * ·) := by
  obtain ⟨w, x, y, z, rfl⟩ := four_of ha
  simp only [qmul, List.map_cons, List.map_nil, List.cons.injEq, and_true]
  refine ⟨?_, ?_, ?_, ?_⟩ <;> grind
theorem qmul_one_l {k : Int} {a : List Int} (ha : a.length = 4) : qmul [k, 0, 0, 0] a = a.map (k * ·) := by
  obtain ⟨w, x, y, z, rfl⟩ := four_of ha
  simp only [qmul, List.map_cons, List.map_nil, List.cons.injEq, and_true]
  refine ⟨?_, ?_, ?_, ?_⟩ <;> grind
theorem qmul_assoc {a b c : List Int} (ha : a.length = 4) (hb : b.length = 4) (hc : c.length = 4) : qmul (qmul a b) c = qmul a (qmul b c) := by
  obtain ⟨p, q, r, s, rfl⟩ := four_of ha
  obtain ⟨t, u, v, o, rfl⟩ := four_of hb
  obtain ⟨w, x, y, z, rfl⟩ := four_of hc
  simp only [qmul, List.cons.injEq, and_true]
  refine ⟨?_, ?_, ?_, ?_⟩ <;> grind
/-! ### a point over one bottom -/
/-- the top of q over the bottom B -/
def topOf (B : Nat) (q : Rat) : Int := q.num * ((B / q.den : Nat) : Int)
theorem topOf_eq {B : Nat} {q : Rat} (h0 : 0 < B) (hd : q.den ∣ B) : (topOf B q : Rat) = q * (B : Rat) := by
  obtain ⟨c, rfl⟩ := hd
  have h1 : q.den * c / q.den = c := Nat.mul_div_cancel_left c q.den_pos
  unfold topOf
  have hd : (q.den : Rat) ≠ 0 := by exact_mod_cast (by have := q.den_pos; omega : q.den ≠ 0)
  have e : q * (q.den : Rat) = (q.num : Rat) := by
    conv => lhs; lhs; rw [← Rat.mkRat_self q, Rat.mkRat_eq_div]
    rw [Rat.div_def, Rat.mul_assoc, Rat.inv_mul_cancel _ hd, Rat.mul_one]
  rw [h1, Rat.intCast_mul, Rat.natCast_mul, ← Rat.mul_assoc, e]
  rfl
theorem fdiv_nat (a b : Nat) : (a : Int).fdiv (b : Int) = ((a / b : Nat) : Int) := by
  rw [Int.fdiv_eq_ediv_of_nonneg _ (by omega)]; rfl
/-- one line of the table on a point -/
def dotI (row : List Int) (B : Nat) (p : Pt) : Int := match row with
  | [a, b, c] => a * topOf B p.1 + b * topOf B p.2.1 + c * topOf B p.2.2
  | _ => 0
theorem mul_inv_c {x : Rat} (h : x ≠ 0) (y : Rat) : y * x * x⁻¹ = y := by rw [Rat.mul_assoc, Rat.mul_inv_cancel _ h, Rat.mul_one]
theorem rot_rows {a : List Int} (ha : a.length = 4) (hz : ∃ n ∈ a, n ≠ 0) {p : Pt} {B : Nat} (h0 : 0 < B) (h1 : p.1.den ∣ B) (h2 : p.2.1.den ∣ B) (h3 : p.2.2.den ∣ B) :
    ptD (rot a p) = .tup ((rowsI a).map fun row => frD ((dotI row B p : Rat) / ((nrmI a * (B : Int) : Int) : Rat))) := by
  have e1 := topOf_eq h0 h1
  have e2 := topOf_eq h0 h2
  have e3 := topOf_eq h0 h3
  obtain ⟨w, x, y, z, rfl⟩ := four_of ha
  have hB : (B : Rat) ≠ 0 := by exact_mod_cast (by omega : B ≠ 0)
  have hn := nrm_ne hz
  have en : ((nrmI [w, x, y, z] : Int) : Rat) = nrm w x y z := by
    simp only [nrmI, nrm, Rat.intCast_add, Rat.intCast_mul]
  obtain ⟨p1, p2, p3⟩ := p
  simp only at e1 e2 e3
  have key : ∀ r1 r2 r3 : Int, ((dotI [r1, r2, r3] B (p1, p2, p3) : Int) : Rat) / ((nrmI [w, x, y, z] * (B : Int) : Int) : Rat) = (p1 * r1 + p2 * r2 + p3 * r3) * (nrm w x y z)⁻¹ := fun r1 r2 r3 => by
    simp only [dotI, Rat.intCast_add, Rat.intCast_mul, e1, e2, e3, en, Rat.intCast_natCast]
    rw [Rat.div_def, Rat.inv_mul_rev]
    have := Rat.mul_inv_cancel _ hB
    generalize (nrm (w : Rat) x y z)⁻¹ = i
    generalize ((B : Rat))⁻¹ = j at this ⊢
    grind
  simp only [ptD, rowsI, List.map_cons, List.map_nil, key, rot, rotQ]
  simp only [Rat.intCast_add, Rat.intCast_mul, Rat.intCast_sub]
  rfl
/-- the least common bottom, one more part -/
def lcmS (b d : Nat) : Nat := b * (d / Nat.gcd b d)
theorem lcmS_pos {b d : Nat} (hb : 0 < b) (hd : 0 < d) : 0 < lcmS b d := Nat.mul_pos hb (Nat.div_pos (Nat.le_of_dvd hd (Nat.gcd_dvd_right b d)) (Nat.gcd_pos_of_pos_left _ hb))
theorem lcmS_eq (b d : Nat) : lcmS b d = Nat.lcm b d := by
  unfold lcmS Nat.lcm
  rw [← Nat.mul_div_assoc _ (Nat.gcd_dvd_right b d)]
theorem lcmS_l (b d : Nat) : b ∣ lcmS b d := by rw [lcmS_eq]; exact Nat.dvd_lcm_left b d
theorem lcmS_r (b d : Nat) : d ∣ lcmS b d := by rw [lcmS_eq]; exact Nat.dvd_lcm_right b d
theorem lcmS_dvd {b d L : Nat} (h1 : b ∣ L) (h2 : d ∣ L) : lcmS b d ∣ L := by rw [lcmS_eq]; exact Nat.lcm_dvd h1 h2
theorem topOf_bd {n : Nat} {B L : Nat} {q : Rat} (hL : 0 < L) (h1 : q.den ∣ B) (h2 : B ∣ L) (h : Bd n (q.num * ((L / q.den : Nat) : Int))) : Bd n (topOf B q) := by
  unfold topOf
  simp only [bd_iff] at *
  rw [Int.natAbs_mul] at *
  simp only [Int.natAbs_natCast] at *
  exact Nat.lt_of_le_of_lt (Nat.mul_le_mul_left _ (Nat.div_le_div_right (Nat.le_of_dvd hL h2))) h
/-! ### rows of anything -/
theorem lcL_enc {α : Type} {k : Nat} {chk : Sto → Prop} {f : R → Rho → Option Rho} {t : PT1} {w : PE1} {r : Rho} {xs : List α} (enc : α → R) (g : α → D) {S : Sto} {W : List D → Sto → Prop} (hk : S.take k = S) (hc : chk S)
    (h : ∀ x ∈ xs, ∃ r1, f (enc x) r = some r1 ∧ (∀ W1 : Bool → Sto → Prop, W1 true S → t r1 S W1) ∧ ∀ W1 : PK1, W1 (.r (.d (g x))) S → w r1 S W1) (q : W (xs.map g) S) : lcL k chk f t w r (xs.map enc) S W := by
  induction xs generalizing W with
  | nil => exact ⟨hc, q⟩
  | cons x xs ih =>
    obtain ⟨r1, h1, h2, h3⟩ := h x (by simp)
    simp only [List.map_cons]
    unfold lcL
    refine ⟨hc, ?_⟩
    rw [h1]
    refine h2 _ ?_
    rw [if_pos rfl]
    refine h3 _ ?_
    rw [hk]
    exact ih (fun y hy => h y (by simp [hy])) q
theorem item_enc {α : Type} {enc : α → R} {xs : List α} {i : Nat} {x : R} (hx : (xs.map enc)[i]? = some x) : ∃ y, xs[i]? = some y ∧ x = enc y := by
  rw [List.getElem?_map] at hx
  cases e : xs[i]? with
  | none => rw [e] at hx; simp at hx
  | some y => rw [e] at hx; simp at hx; exact ⟨y, rfl, hx.symm⟩
theorem take_one {α β : Type} {xs : List α} {i : Nat} {y : α} (h : xs[i]? = some y) (g : α → β) : (xs.take (i + 1)).map g = (xs.take i).map g ++ [g y] := by
  rw [List.take_add_one, h]; simp
theorem mem_take_one {α : Type} {xs : List α} {i : Nat} {y q : α} (h : xs[i]? = some y) (hq : q ∈ xs.take (i + 1)) : q ∈ xs.take i ∨ q = y := by
  rw [List.take_add_one, h] at hq; simpa using hq
theorem mem_of_at {α : Type} {xs : List α} {i : Nat} {y : α} (h : xs[i]? = some y) : y ∈ xs := List.mem_of_getElem? h
def qsOf (p : Pt) : List Rat := [p.1, p.2.1, p.2.2]
theorem ptD_qs (p : Pt) : ptD p = .tup ((qsOf p).map frD) := rfl
theorem rowsI_three {a row : List Int} (h : row ∈ rowsI a) : ∃ x y z, row = [x, y, z] := by
  unfold rowsI at h
  split at h
  · simp only [List.mem_cons, List.not_mem_nil, or_false] at h
    rcases h with rfl | rfl | rfl <;> exact ⟨_, _, _, rfl⟩
  · simp at h
theorem nrmI_bd {n : Nat} {a : List Int} (h : ∀ x ∈ a, Bd n x) : Bd (n + n + 2) (nrmI a) := by
  unfold nrmI
  split
  · rename_i w x y z
    simp only [List.mem_cons, List.not_mem_nil, or_false, forall_eq_or_imp, forall_eq] at h
    obtain ⟨p1, p2, p3, p4⟩ := h
    have a1 := (p1.mul p1).lt; have a2 := (p2.mul p2).lt; have a3 := (p3.mul p3).lt; have a4 := (p4.mul p4).lt
    have s1 := sq_nn w; have s2 := sq_nn x; have s3 := sq_nn y; have s4 := sq_nn z
    have e : 2 ^ (n + n + 2) = 2 ^ (n + n) * 4 := by rw [Nat.pow_add]
    refine bd_iff.mpr ?_
    rw [e]; omega
  · exact Bd.zero
def sqs (xs : List Int) : Int := (xs.map fun x => x * x).sum
def spSize : SpZ := fun rs S W => match rs with
  | [.d (.tup xs)] => ∃ ns : List Int, xs = ns.map D.int ∧ (∀ n ∈ ns, Bd 60000000 n) ∧ ns.length ≤ 1000 ∧ W (.d (.int (sqs ns))) S
  | _ => False
theorem sqs_four {a : List Int} (h : a.length = 4) : sqs a = nrmI a := by
  obtain ⟨w, x, y, z, rfl⟩ := four_of h
  simp only [sqs, nrmI, List.map_cons, List.map_nil, List.sum_cons, List.sum_nil]
  omega
theorem fr_den (q : Rat) : (q.den : Int) ≠ 0 := by have := q.den_pos; omega
theorem gcd_nat (b d : Nat) : Int.gcd (b : Int) (d : Int) = Nat.gcd b d := by simp [Int.gcd]
/-! ### places in a store that grew -/
theorem at_k {S l : Sto} {k : Nat} : (S ++ l)[S.length + k]? = l[k]? := by
  rw [List.getElem?_append_right (by omega), Nat.add_sub_cancel_left]
theorem at_0 {S l : Sto} : (S ++ l)[S.length]? = l[0]? := at_k (k := 0)
theorem set_k {S l : Sto} {k : Nat} {x : O} : (S ++ l).set (S.length + k) x = S ++ l.set k x := by
  rw [List.set_append_right _ _ (by omega), Nat.add_sub_cancel_left]
theorem set_0 {S l : Sto} {x : O} : (S ++ l).set S.length x = S ++ l.set 0 x := set_k (k := 0)
theorem lt_k {n k : Nat} : (n + k < n) = False := by simp
theorem take_k {S l : Sto} {k : Nat} : (S ++ l).take (S.length + k) = S ++ l.take k := by
  rw [List.take_append, Nat.add_sub_cancel_left, List.take_of_length_le (by omega)]
theorem lt_kk {n j k : Nat} : (n + j < n + k) = (j < k) := by simp
theorem rowsI_len (a : List Int) : (rowsI a).length ≤ 3 := by unfold rowsI; split <;> simp
def spTurnL : SpZ := fun rs S W => match rs with
  | [.d (.tup xs), .d pd] => ∃ (a : List Int) (p : Pt), xs = a.map D.int ∧ a.length = 4 ∧ (∃ x ∈ a, x ≠ 0) ∧ (∀ x ∈ a, Bd 2000 x) ∧ pd = ptD p ∧ (∀ q ∈ qsOf p, BQ 1000 q) ∧ W (.d (ptD (rot a p))) S
  | _ => False
/-- a line of the table on a point, by the parts -/
def dotQ (row : List Int) (p : Pt) : Rat := match row with
  | [a, b, c] => a * p.1 + b * p.2.1 + c * p.2.2
  | _ => 0
theorem dot_cross {r1 r2 r3 : Int} {p : Pt} {n : Int} :
    ((((0 * (p.1.den : Int) + r1 * p.1.num * 1) * (p.2.1.den : Int) + r2 * p.2.1.num * (1 * (p.1.den : Int))) * (p.2.2.den : Int) + r3 * p.2.2.num * (1 * (p.1.den : Int) * (p.2.1.den : Int)) : Int) : Rat) / ((1 * (p.1.den : Int) * (p.2.1.den : Int) * (p.2.2.den : Int) * n : Int) : Rat) = dotQ [r1, r2, r3] p * (n : Rat)⁻¹ := by
  have k : ∀ q : Rat, ∃ d : Rat, d ≠ 0 ∧ ((q.den : Int) : Rat) = d ∧ (q.num : Rat) = q * d := fun q => by
    have hd : (q.den : Rat) ≠ 0 := by exact_mod_cast (by have := q.den_pos; omega : q.den ≠ 0)
    refine ⟨(q.den : Rat), hd, rfl, ?_⟩
    conv => rhs; lhs; rw [← Rat.mkRat_self q, Rat.mkRat_eq_div]
    rw [Rat.div_def, Rat.mul_assoc, Rat.inv_mul_cancel _ hd, Rat.mul_one]
  obtain ⟨p1, p2, p3⟩ := p
  obtain ⟨d1, z1, e1, f1⟩ := k p1
  obtain ⟨d2, z2, e2, f2⟩ := k p2
  obtain ⟨d3, z3, e3, f3⟩ := k p3
  simp only [Rat.intCast_add, Rat.intCast_mul, e1, e2, e3, f1, f2, f3, dotQ]
  rw [Rat.div_def, Rat.inv_mul_rev]
  generalize hn : (n : Rat)⁻¹ = i
  have hz : d1 * d2 * d3 ≠ 0 := by
    intro h
    rcases Rat.mul_eq_zero.mp h with h | h
    · rcases Rat.mul_eq_zero.mp h with h | h
      · exact z1 h
      · exact z2 h
    · exact z3 h
  have := Rat.mul_inv_cancel _ hz
  have e : ((1 : Int) : Rat) * d1 * d2 * d3 = d1 * d2 * d3 := by rw [show ((1 : Int) : Rat) = 1 from rfl, Rat.one_mul]
  rw [e]
  generalize (d1 * d2 * d3)⁻¹ = j at this ⊢
  simp only [show ((1 : Int) : Rat) = 1 from rfl, show ((0 : Int) : Rat) = 0 from rfl]
  grind
theorem rot_dot {a : List Int} (ha : a.length = 4) (p : Pt) : ptD (rot a p) = .tup ((rowsI a).map fun row => frD (dotQ row p * (nrmI a : Rat)⁻¹)) := by
  obtain ⟨w, x, y, z, rfl⟩ := four_of ha
  obtain ⟨p1, p2, p3⟩ := p
  have en : ((nrmI [w, x, y, z] : Int) : Rat) = nrm w x y z := by
    simp only [nrmI, nrm, Rat.intCast_add, Rat.intCast_mul]
  simp only [ptD, rowsI, List.map_cons, List.map_nil, rot, rotQ, dotQ, en]
  simp only [Rat.intCast_add, Rat.intCast_mul, Rat.intCast_sub]
  refine congrArg D.tup ?_
  simp only [List.cons.injEq, and_true, frD_inj]
  refine ⟨?_, ?_, ?_⟩ <;> (congr 1; simp only [show ((2 : Int) : Rat) = 2 from rfl]; grind)
theorem ptD_fr (p : Pt) : ptD p = .tup [.tup [.int p.1.num, .int (p.1.den : Int)], .tup [.int p.2.1.num, .int (p.2.1.den : Int)], .tup [.int p.2.2.num, .int (p.2.2.den : Int)]] := rfl
theorem forL_cons {k : Nat} {chk : Sto → Prop} {f : R → Rho → Option Rho} {body : PS1} {N : En} {x : R} {xs : List R} {r : Rho} {S : Sto} (hc : chk S)
    (h : match f x r with
      | some r1 => body { nx := fun r2 S2 => ∃ r3 S3, Cut k r2 S2 r3 S3 ∧ forL k chk f body N xs r3 S3, rt := N.rt, bk := N.nx, ct := fun r2 S2 => ∃ r3 S3, Cut k r2 S2 r3 S3 ∧ forL k chk f body N xs r3 S3 } r1 S
      | none => False) : forL k chk f body N (x :: xs) r S := by
  unfold forL
  exact ⟨hc, h⟩
theorem forL_nil {k : Nat} {chk : Sto → Prop} {f : R → Rho → Option Rho} {body : PS1} {N : En} {r : Rho} {S : Sto} (hc : chk S) (h : N.nx r S) : forL k chk f body N [] r S := by
  unfold forL
  exact ⟨hc, h⟩
theorem lt_0k {n k : Nat} : (n < n + k) = (0 < k) := by simp
/-- a drawn point: small tops and bottoms -/
def PtS (p : Pt) : Prop := ∀ q ∈ qsOf p, BQ 100 q
theorem PtS.big {p : Pt} (h : PtS p) : PtB 4000 p := by
  have k : PtB (100 * 4) p := PtB.of (h _ (by simp [qsOf])) (h _ (by simp [qsOf])) (h _ (by simp [qsOf]))
  exact k.mono (by decide)
/-- any drawn point -/
def spPt : SpZ := fun rs S W => match rs, S with
  | [.loc 0], [.lst [.int _, .int _]] => ∀ (p : Pt) (a b : Int), PtS p → W (.d (ptD p)) [.lst [.int a, .int b]]
  | _, _ => False
theorem pt_of {qs : List Rat} (h : qs.length = 3) : ∃ p : Pt, qs = qsOf p := by
  match qs, h with
  | [x, y, z], _ => exact ⟨(x, y, z), rfl⟩
/-- a point that is the due one -/
def spIsPt : SpZ := fun rs S W => match rs with
  | [.d x, .d y] => ∃ p : Pt, x = ptD p ∧ y = ptD p ∧ W (.d (.bl true)) S
  | _ => False
/-- any drawn four -/
def spFour : SpZ := fun rs S W => match rs, S with
  | [.loc 0], [.lst [.int _, .int _]] => ∀ (ns : List Int) (a b : Int), ns.length = 4 → (∀ n ∈ ns, Bd 100 n) → (∃ n ∈ ns, n ≠ 0) → W (.d (.tup (ns.map D.int))) [.lst [.int a, .int b]]
  | _, _ => False
theorem eqv_ii {a b : Int} : PyData.eqv (.int a) (.int b) = (a == b) := by simp only [PyData.eqv]
theorem eqv_bb {a b : Bool} : PyData.eqv (.bool a) (.bool b) = (a == b) := by simp only [PyData.eqv]
theorem eqv_tt {a b : List PyData} : PyData.eqv (.tuple a) (.tuple b) = PyData.eqvAll a b := by simp only [PyData.eqv]
theorem eqv_ll {a b : List PyData} : PyData.eqv (.list a) (.list b) = PyData.eqvAll a b := by simp only [PyData.eqv]
theorem eqv_nn : PyData.eqv .none .none = true := by simp only [PyData.eqv]
theorem eqv_tn {a : List PyData} : PyData.eqv (.tuple a) .none = false := by simp only [PyData.eqv]
theorem eqv_nt {a : List PyData} : PyData.eqv .none (.tuple a) = false := by simp only [PyData.eqv]
theorem eqv_it {a : List PyData} {i : Int} : PyData.eqv (.int i) (.tuple a) = false := by simp only [PyData.eqv]
theorem eqv_ti {a : List PyData} {i : Int} : PyData.eqv (.tuple a) (.int i) = false := by simp only [PyData.eqv]
theorem eqv_in {i : Int} : PyData.eqv (.int i) .none = false := by simp only [PyData.eqv]
theorem eqv_ni {i : Int} : PyData.eqv .none (.int i) = false := by simp only [PyData.eqv]
theorem eqa_nil : PyData.eqvAll [] [] = true := by simp only [PyData.eqvAll]
theorem eqa_nc {a : PyData} {as : List PyData} : PyData.eqvAll [] (a :: as) = false := by simp only [PyData.eqvAll]
theorem eqa_cn {a : PyData} {as : List PyData} : PyData.eqvAll (a :: as) [] = false := by simp only [PyData.eqvAll]
theorem eqa_cc {a b : PyData} {as bs : List PyData} : PyData.eqvAll (a :: as) (b :: bs) = (PyData.eqv a b && PyData.eqvAll as bs) := by simp only [PyData.eqvAll]
end Z

set_option Elab.async false
set_option linter.all false
set_option maxRecDepth 100000
set_option exponentiation.threshold 20000
/-! R4: sizes of turned points, squares of distances, sameness of points. -/
namespace Z
open PySem PySem.Spec PyProof.Rows L2 RZ
theorem fr_parts (q : Rat) : ∃ d : Rat, d ≠ 0 ∧ ((q.den : Int) : Rat) = d ∧ (q.num : Rat) = q * d := by
  have hd : (q.den : Rat) ≠ 0 := by exact_mod_cast (by have := q.den_pos; omega : q.den ≠ 0)
  refine ⟨(q.den : Rat), hd, rfl, ?_⟩
  conv => rhs; lhs; rw [← Rat.mkRat_self q, Rat.mkRat_eq_div]
  rw [Rat.div_def, Rat.mul_assoc, Rat.inv_mul_cancel _ hd, Rat.mul_one]
theorem dot_made {r1 r2 r3 n : Int} {p : Pt} :
    dotQ [r1, r2, r3] p * (n : Rat)⁻¹ = ((r1 * p.1.num * p.2.1.den * p.2.2.den + r2 * p.2.1.num * p.1.den * p.2.2.den + r3 * p.2.2.num * p.1.den * p.2.1.den : Int) : Rat) / ((p.1.den * p.2.1.den * p.2.2.den * n : Int) : Rat) := by
  obtain ⟨p1, p2, p3⟩ := p
  obtain ⟨d1, z1, e1, f1⟩ := fr_parts p1
  obtain ⟨d2, z2, e2, f2⟩ := fr_parts p2
  obtain ⟨d3, z3, e3, f3⟩ := fr_parts p3
  simp only [Rat.intCast_add, Rat.intCast_mul, e1, e2, e3, f1, f2, f3, dotQ]
  rw [Rat.div_def, Rat.inv_mul_rev (d1 * d2 * d3)]
  generalize hn : (n : Rat)⁻¹ = i
  have hz : d1 * d2 * d3 ≠ 0 := by
    intro h
    rcases Rat.mul_eq_zero.mp h with h | h
    · rcases Rat.mul_eq_zero.mp h with h | h
      · exact z1 h
      · exact z2 h
    · exact z3 h
  have := Rat.mul_inv_cancel _ hz
  generalize (d1 * d2 * d3)⁻¹ = j at this ⊢
  grind
/-- the parts of a turned point stay small -/
theorem rot_bq {m n : Nat} {a : List Int} (ha : a.length = 4) (hz : ∃ x ∈ a, x ≠ 0) (hb : ∀ x ∈ a, Bd m x) {p : Pt} (hp : ∀ q ∈ qsOf p, BQ n q) : ∀ q ∈ qsOf (rot a p), BQ (2 * m + 3 * n + 4) q := by
  have nb : Bd (m + m + 2) (nrmI a) := nrmI_bd hb
  have nz := nrmI_ne ha hz
  have rb := rowsI_bd hb
  have key : ∀ row ∈ rowsI a, BQ (2 * m + 3 * n + 4) (dotQ row p * (nrmI a : Rat)⁻¹) := fun row hr => by
    have r := rb row hr
    obtain ⟨r1, r2, r3, rfl⟩ := rowsI_three hr
    simp only [List.mem_cons, List.not_mem_nil, or_false, forall_eq_or_imp, forall_eq, qsOf, BQ] at r hp
    obtain ⟨b1, b2, b3⟩ := r
    obtain ⟨⟨c1, d1⟩, ⟨c2, d2⟩, ⟨c3, d3⟩⟩ := hp
    rw [dot_made]
    refine BQ.made ?_ ?_ ?_
    · have := p.1.den_pos; have := p.2.1.den_pos; have := p.2.2.den_pos
      exact Int.mul_ne_zero (Int.mul_ne_zero (Int.mul_ne_zero (by omega) (by omega)) (by omega)) nz
    · exact (((((b1.mul c1).mul d2).mul d3).add (((b2.mul c2).mul d1).mul d3)).add (((b3.mul c3).mul d1).mul d2)).mono (by omega)
    · exact (((d1.mul d2).mul d3).mul nb).mono (by omega)
  have e := rot_dot ha p
  rw [ptD_qs] at e
  have e2 : (qsOf (rot a p)).map frD = ((rowsI a).map fun row => dotQ row p * (nrmI a : Rat)⁻¹).map frD := by
    rw [List.map_map]; simpa [Function.comp_def] using e
  have inj : ∀ xs ys : List Rat, xs.map frD = ys.map frD → xs = ys := by
    intro xs
    induction xs with
    | nil => intro ys h; cases ys with
      | nil => rfl
      | cons y ys => simp at h
    | cons x xs ih => intro ys h; cases ys with
      | nil => simp at h
      | cons y ys =>
        simp only [List.map_cons, List.cons.injEq] at h
        rw [frD_inj.mp h.1, ih ys h.2]
  rw [inj _ _ e2]
  intro q hq
  obtain ⟨row, hr, rfl⟩ := List.mem_map.mp hq
  exact key row hr
theorem ptb_of {n : Nat} {p : Pt} (h : ∀ q ∈ qsOf p, BQ n q) : PtB (n * 4) p := PtB.of (h _ (by simp [qsOf])) (h _ (by simp [qsOf])) (h _ (by simp [qsOf]))
/-- the square of the distance -/
def sqD (p q : Pt) : Rat := (p.1 - q.1) * (p.1 - q.1) + (p.2.1 - q.2.1) * (p.2.1 - q.2.1) + (p.2.2 - q.2.2) * (p.2.2 - q.2.2)
theorem sq_step {T B n1 d1 n2 d2 s x y : Rat} (h : T = s * B) (h1 : n1 = x * d1) (h2 : n2 = y * d2) :
    T * (d1 * d2) * (d1 * d2) + (n1 * d2 - n2 * d1) * (n1 * d2 - n2 * d1) * B = (s + (x - y) * (x - y)) * (B * (d1 * d2) * (d1 * d2)) := by
  subst h1 h2 h; grind
def spSq : SpZ := fun rs S W => match rs with
  | [.d x, .d y] => ∃ p q : Pt, x = ptD p ∧ y = ptD q ∧ (∀ z ∈ qsOf p, BQ 600 z) ∧ (∀ z ∈ qsOf q, BQ 600 z) ∧ W (.d (frD (sqD p q))) S
  | _ => False
theorem sq_cross {p q : Pt} (d : Int → Int → Int) (u : Int → Int → Int → Int → Int) (hd : ∀ x y, d x y = x * y) (hu : ∀ a b c e, u a b c e = a * e - c * b) :
    ((((0 * d p.1.den q.1.den * d p.1.den q.1.den + u p.1.num p.1.den q.1.num q.1.den * u p.1.num p.1.den q.1.num q.1.den * 1) * d p.2.1.den q.2.1.den * d p.2.1.den q.2.1.den + u p.2.1.num p.2.1.den q.2.1.num q.2.1.den * u p.2.1.num p.2.1.den q.2.1.num q.2.1.den * (1 * d p.1.den q.1.den * d p.1.den q.1.den)) * d p.2.2.den q.2.2.den * d p.2.2.den q.2.2.den + u p.2.2.num p.2.2.den q.2.2.num q.2.2.den * u p.2.2.num p.2.2.den q.2.2.num q.2.2.den * (1 * d p.1.den q.1.den * d p.1.den q.1.den * d p.2.1.den q.2.1.den * d p.2.1.den q.2.1.den) : Int) : Rat) / ((1 * d p.1.den q.1.den * d p.1.den q.1.den * d p.2.1.den q.2.1.den * d p.2.1.den q.2.1.den * d p.2.2.den q.2.2.den * d p.2.2.den q.2.2.den : Int) : Rat) = sqD p q := by
  obtain ⟨p1, p2, p3⟩ := p
  obtain ⟨q1, q2, q3⟩ := q
  obtain ⟨d1, z1, e1, f1⟩ := fr_parts p1
  obtain ⟨d2, z2, e2, f2⟩ := fr_parts p2
  obtain ⟨d3, z3, e3, f3⟩ := fr_parts p3
  obtain ⟨g1, y1, a1, b1⟩ := fr_parts q1
  obtain ⟨g2, y2, a2, b2⟩ := fr_parts q2
  obtain ⟨g3, y3, a3, b3⟩ := fr_parts q3
  simp only [hd, hu, Rat.intCast_add, Rat.intCast_mul, Rat.intCast_sub, e1, e2, e3, a1, a2, a3, show ((1 : Int) : Rat) = 1 from rfl, show ((0 : Int) : Rat) = 0 from rfl]
  have s1 := sq_step (T := 0) (B := 1) (s := 0) (by grind) f1 b1
  have s2 := sq_step s1 f2 b2
  have s3 := sq_step s2 f3 b3
  rw [s3]
  have nz : ∀ {x y : Rat}, x ≠ 0 → y ≠ 0 → x * y ≠ 0 := fun hx hy h => by
    rcases Rat.mul_eq_zero.mp h with h | h
    · exact hx h
    · exact hy h
  have hz : 1 * (d1 * g1) * (d1 * g1) * (d2 * g2) * (d2 * g2) * (d3 * g3) * (d3 * g3) ≠ 0 :=
    nz (nz (nz (nz (nz (nz (by decide) (nz z1 y1)) (nz z1 y1)) (nz z2 y2)) (nz z2 y2)) (nz z3 y3)) (nz z3 y3)
  rw [Rat.div_def, Rat.mul_assoc, Rat.mul_inv_cancel _ hz, Rat.mul_one]
  simp only [sqD]
  grind
theorem eqv_fr {x y : Rat} : (py (frD x)).eqv (py (frD y)) = decide (x = y) := by
  have e : (py (frD x)).eqv (py (frD y)) = decide (frL x = frL y) := by
    rw [frD_map, frD_map]
    show PyData.eqv (.tuple _) (.tuple _) = _
    simp only [PyData.eqv]
    exact eqv_ints
  rw [e, decide_eq_decide]
  exact frL_inj
theorem eqv_frs : ∀ {xs ys : List Rat}, PyData.eqvAll (pys (xs.map frD)) (pys (ys.map frD)) = decide (xs = ys)
  | [], [] => by simp [pys, PyData.eqvAll]
  | [], _ :: _ => by simp [pys, PyData.eqvAll]
  | _ :: _, [] => by simp [pys, PyData.eqvAll]
  | x :: xs, y :: ys => by
    simp only [List.map_cons, pys, PyData.eqvAll, eqv_frs, eqv_fr, List.cons.injEq, Bool.decide_and]
theorem eqv_pt {p q : Pt} : (py (ptD p)).eqv (py (ptD q)) = decide (p = q) := by
  have e : (py (ptD p)).eqv (py (ptD q)) = decide (qsOf p = qsOf q) := by
    rw [ptD_qs, ptD_qs]
    show PyData.eqv (.tuple _) (.tuple _) = _
    simp only [PyData.eqv]
    exact eqv_frs
  rw [e, decide_eq_decide]
  obtain ⟨p1, p2, p3⟩ := p
  obtain ⟨q1, q2, q3⟩ := q
  simp [qsOf]
theorem dp_fr (x : Rat) : (py (frD x)).depth ≤ 2 := by
  have := depth_ints (frL x)
  rw [frD_map]
  show PyData.depth (.tuple _) ≤ 2
  simp only [PyData.depth]
  omega
theorem dp_frs (xs : List Rat) : PyData.depthAll (pys (xs.map frD)) ≤ 2 := by
  induction xs with
  | nil => simp [pys, PyData.depthAll]
  | cons x xs ih =>
    simp only [List.map_cons, pys, PyData.depthAll]
    have := dp_fr x
    omega
theorem dp_pt (p : Pt) : (py (ptD p)).depth ≤ 3 := by
  have := dp_frs (qsOf p)
  rw [ptD_qs]
  show PyData.depth (.tuple _) ≤ 3
  simp only [PyData.depth]
  omega
theorem rot_sq {a : List Int} (ha : a.length = 4) (hz : ∃ n ∈ a, n ≠ 0) (p q : Pt) : sqD (rot a p) (rot a q) = sqD p q := by
  obtain ⟨w, x, y, z, rfl⟩ := four_of ha
  have h := nrm_ne hz
  have k := rotQ_sq h (p.1 - q.1, p.2.1 - q.2.1, p.2.2 - q.2.2)
  simp only [sqP, rotQ] at k
  simp only [sqD, rot, rotQ]
  rw [← k]
  generalize (nrm (w : Rat) x y z)⁻¹ = i
  grind
theorem rot_mid {a : List Int} (ha : a.length = 4) : rot a (0, 0, 0) = (0, 0, 0) := by
  obtain ⟨w, x, y, z, rfl⟩ := four_of ha
  simp only [rot, rotQ, Prod.mk.injEq]
  refine ⟨?_, ?_, ?_⟩ <;> grind
theorem rot_one (p : Pt) : rot [1, 0, 0, 0] p = p := by
  have h1 : nrm 1 0 0 0 = 1 := by decide +kernel
  obtain ⟨p1, p2, p3⟩ := p
  simp only [rot, rotQ, show ((1 : Int) : Rat) = 1 from rfl, show ((0 : Int) : Rat) = 0 from rfl, Prod.mk.injEq]
  rw [h1]
  rw [show (1 : Rat)⁻¹ = 1 by decide +kernel]
  refine ⟨?_, ?_, ?_⟩ <;> grind
end Z

set_option Elab.async false
set_option linter.all false
set_option maxRecDepth 100000
set_option exponentiation.threshold 20000
/-! R5: a turn is told by what it does to points. -/
namespace Z
open PySem PySem.Spec PyProof.Rows L2 RZ
theorem rat_sq_zero {x : Rat} (h : x * x = 0) : x = 0 := by rcases Rat.mul_eq_zero.mp h with h | h <;> exact h
theorem int_sq_zero {x : Int} (h : x * x ≤ 0) : x = 0 := by
  by_cases h0 : x = 0
  · exact h0
  · have := sq_pos h0; omega
/-- a four that leaves two ways as they are has no turn in it -/
theorem rot_fix {c : List Int} (hc : c.length = 4) (hz : ∃ n ∈ c, n ≠ 0) (h1 : rot c (1, 0, 0) = (1, 0, 0)) (h2 : rot c (0, 1, 0) = (0, 1, 0)) : ∃ w : Int, w ≠ 0 ∧ c = [w, 0, 0, 0] := by
  obtain ⟨w, x, y, z, rfl⟩ := four_of hc
  have hn := nrm_ne hz
  have hi := Rat.mul_inv_cancel _ hn
  simp only [rot, rotQ, Prod.mk.injEq] at h1 h2
  obtain ⟨a1, _, _⟩ := h1
  obtain ⟨_, b1, _⟩ := h2
  have e1 : (y : Rat) * y + z * z = 0 := by
    simp only [nrm] at *
    generalize ((w : Rat) * w + x * x + y * y + z * z)⁻¹ = i at *
    grind
  have e2 : (x : Rat) * x + z * z = 0 := by
    simp only [nrm] at *
    generalize ((w : Rat) * w + x * x + y * y + z * z)⁻¹ = i at *
    grind
  have f1 : y * y + z * z = 0 := by exact_mod_cast e1
  have f2 : x * x + z * z = 0 := by exact_mod_cast e2
  have s1 := sq_nn x; have s2 := sq_nn y; have s3 := sq_nn z
  have hx := int_sq_zero (x := x) (by omega)
  have hy := int_sq_zero (x := y) (by omega)
  have hzz := int_sq_zero (x := z) (by omega)
  subst hx hy hzz
  refine ⟨w, ?_, rfl⟩
  rintro rfl
  obtain ⟨n, hm, h0⟩ := hz
  simp at hm
  exact h0 hm
theorem rot_two {a : List Int} (ha : a.length = 4) (k : Rat) (p q : Pt) : rot a (k * p.1 + q.1, k * p.2.1 + q.2.1, k * p.2.2 + q.2.2) = (k * (rot a p).1 + (rot a q).1, k * (rot a p).2.1 + (rot a q).2.1, k * (rot a p).2.2 + (rot a q).2.2) := by
  obtain ⟨w, x, y, z, rfl⟩ := four_of ha
  simp only [rot, rotQ, Prod.mk.injEq]
  generalize (nrm (w : Rat) x y z)⁻¹ = i
  refine ⟨?_, ?_, ?_⟩ <;> grind
theorem pln_of_rot {a b : List Int} (ha : a.length = 4) (hb : b.length = 4) (za : ∃ n ∈ a, n ≠ 0) (zb : ∃ n ∈ b, n ≠ 0) (h1 : rot a (1, 0, 0) = rot b (1, 0, 0)) (h2 : rot a (0, 1, 0) = rot b (0, 1, 0)) : pln a = pln b := by
  have hk := qbk_len hb
  have zk := qbk_nz hb zb
  have zc := qmul_nz hk ha zk za
  have lc := qmul_len hk ha
  have k1 : rot (qmul (qbk b) a) (1, 0, 0) = (1, 0, 0) := by rw [rot_comp ha hk, h1, rot_back hb zb]
  have k2 : rot (qmul (qbk b) a) (0, 1, 0) = (0, 1, 0) := by rw [rot_comp ha hk, h2, rot_back hb zb]
  obtain ⟨w, hw, e⟩ := rot_fix lc zc k1 k2
  have e2 : qmul b (qmul (qbk b) a) = a.map (nrmI b * ·) := by
    obtain ⟨p, q, r, s, rfl⟩ := four_of hb
    obtain ⟨t, u, v, o, rfl⟩ := four_of ha
    simp only [qmul, qbk, nrmI, List.map_cons, List.map_nil, List.cons.injEq, and_true]
    refine ⟨?_, ?_, ?_, ?_⟩ <;> grind
  rw [e, qmul_one_r hb] at e2
  exact (pln_ratio hw (nrmI_ne hb zb) zb e2).symm
theorem rot_of_pln {a b : List Int} (ha : a.length = 4) (hb : b.length = 4) (za : ∃ n ∈ a, n ≠ 0) (zb : ∃ n ∈ b, n ≠ 0) (h : pln a = pln b) (p : Pt) : rot a p = rot b p := by
  rw [← rot_pln ha za, h, rot_pln hb zb]
/-- told by three ways -/
theorem pln_three {a b : List Int} (ha : a.length = 4) (hb : b.length = 4) (za : ∃ n ∈ a, n ≠ 0) (zb : ∃ n ∈ b, n ≠ 0) :
    decide (pln a = pln b) = (decide (rot a (1, 0, 0) = rot b (1, 0, 0)) && decide (rot a (2, 1, 0) = rot b (2, 1, 0)) && decide (rot a (-1, 3, 1) = rot b (-1, 3, 1))) := by
  by_cases h : pln a = pln b
  · simp [h, rot_of_pln ha hb za zb h]
  · rw [decide_eq_false h]
    by_cases h1 : rot a (1, 0, 0) = rot b (1, 0, 0)
    · by_cases h2 : rot a (2, 1, 0) = rot b (2, 1, 0)
      · exfalso
        refine h (pln_of_rot ha hb za zb h1 ?_)
        have e : ((0, 1, 0) : Pt) = ((-2) * (1, 0, 0).1 + (2, 1, 0).1, (-2) * (1, 0, 0).2.1 + (2, 1, 0).2.1, (-2) * (1, 0, 0).2.2 + (2, 1, 0).2.2) := by decide +kernel
        have ea := rot_two ha (-2) (1, 0, 0) (2, 1, 0)
        have eb := rot_two hb (-2) (1, 0, 0) (2, 1, 0)
        rw [← e] at ea eb
        rw [ea, eb, h1, h2]
      · simp [h2]
    · simp [h1]
theorem nz_four {ms : List Int} (hl : ms.length = 4) (h : ms ≠ [0, 0, 0, 0]) : ∃ n ∈ ms, n ≠ 0 := by
  obtain ⟨p, q, r, s, rfl⟩ := four_of hl
  by_cases h1 : p = 0
  · by_cases h2 : q = 0
    · by_cases h3 : r = 0
      · by_cases h4 : s = 0
        · subst h1 h2 h3 h4; exact absurd rfl h
        · exact ⟨s, by simp, h4⟩
      · exact ⟨r, by simp, h3⟩
    · exact ⟨q, by simp, h2⟩
  · exact ⟨p, by simp, h1⟩
end Z

set_option Elab.async false
set_option linter.all false
set_option maxRecDepth 100000
set_option exponentiation.threshold 20000
/-! R6: sizes by a common bottom; sums of points; motions. -/
namespace Z
open PySem PySem.Spec PyProof.Rows L2 RZ
/-- every part over one bottom -/
theorem ptb_iff {n : Nat} {p : Pt} : PtB n p ↔ ∃ L : Nat, 0 < L ∧ Bd n (L : Int) ∧ ∀ q ∈ qsOf p, q.den ∣ L ∧ Bd n (topOf L q) := by
  constructor
  · rintro ⟨L, h0, h1, h2⟩
    exact ⟨L, h0, h1, fun q hq => h2 q (by simpa [qsOf] using hq)⟩
  · rintro ⟨L, h0, h1, h2⟩
    exact ⟨L, h0, h1, fun q hq => h2 q (by simpa [qsOf] using hq)⟩
theorem den_dvd {t : Int} {b : Nat} (hb : 0 < b) {q : Rat} (h : q = (t : Rat) / ((b : Int) : Rat)) : q.den ∣ b ∧ topOf b q = t := by
  have hd : q.den ∣ b := by
    have e : q = Rat.divInt t (b : Int) := by rw [h, Rat.divInt_eq_div]
    rw [e]
    rw [Rat.den_divInt, if_neg (by omega), Int.natAbs_natCast]
    refine Nat.div_dvd_of_dvd ?_
    have := Int.gcd_dvd_left (b : Int) t
    exact_mod_cast this
  refine ⟨hd, ?_⟩
  have e := topOf_eq hb hd
  have hB : (b : Rat) ≠ 0 := by exact_mod_cast (by omega : b ≠ 0)
  have e2 : (topOf b q : Rat) = (t : Rat) := by
    rw [e, h, Rat.div_def, Rat.mul_assoc, show (((b : Int) : Rat)) = (b : Rat) from rfl, Rat.inv_mul_cancel _ hB, Rat.mul_one]
  exact_mod_cast e2
theorem PtB.rot {m n : Nat} {a : List Int} (ha : a.length = 4) (hz : ∃ x ∈ a, x ≠ 0) (hb : ∀ x ∈ a, Bd m x) {p : Pt} (hp : PtB n p) : PtB (2 * m + n + 4) (Z.rot a p) := by
  obtain ⟨L, h0, h1, h2⟩ := ptb_iff.mp hp
  have nb : Bd (m + m + 2) (nrmI a) := nrmI_bd hb
  have npos : 0 < nrmI a := by
    obtain ⟨w, x, y, z, rfl⟩ := four_of ha
    exact nrmI_pos hz
  have rb := rowsI_bd hb
  have e := rot_rows ha hz h0 (h2 p.1 (by simp [qsOf])).1 (h2 p.2.1 (by simp [qsOf])).1 (h2 p.2.2 (by simp [qsOf])).1
  obtain ⟨N, hN⟩ : ∃ N : Nat, nrmI a = (N : Int) := ⟨(nrmI a).toNat, by omega⟩
  have hN0 : 0 < N := by omega
  refine ptb_iff.mpr ⟨N * L, Nat.mul_pos hN0 h0, ?_, ?_⟩
  · have := nb.mul h1
    rw [hN] at this
    exact Bd.mono (m := m + m + 2 + n) (by exact_mod_cast this) (by omega)
  · have key : ∀ row ∈ rowsI a, ∀ q : Rat, q = (dotI row L p : Rat) / ((nrmI a * (L : Int) : Int) : Rat) → q.den ∣ N * L ∧ Bd (2 * m + n + 4) (topOf (N * L) q) := fun row hr q hq => by
      have r := rb row hr
      obtain ⟨r1, r2, r3, rfl⟩ := rowsI_three hr
      simp only [List.mem_cons, List.not_mem_nil, or_false, forall_eq_or_imp, forall_eq] at r
      obtain ⟨b1, b2, b3⟩ := r
      have c1 := (h2 p.1 (by simp [qsOf])).2
      have c2 := (h2 p.2.1 (by simp [qsOf])).2
      have c3 := (h2 p.2.2 (by simp [qsOf])).2
      have e1 : ((nrmI a * (L : Int) : Int)) = ((N * L : Nat) : Int) := by rw [hN]; rfl
      rw [e1] at hq
      obtain ⟨k1, k2⟩ := den_dvd (Nat.mul_pos hN0 h0) hq
      refine ⟨k1, ?_⟩
      rw [k2]
      simp only [dotI]
      exact (((b1.mul c1).add (b2.mul c2)).add (b3.mul c3)).mono (by omega)
    rw [ptD_qs] at e
    have e2 : (qsOf (Z.rot a p)).map frD = ((rowsI a).map fun row => (dotI row L p : Rat) / ((nrmI a * (L : Int) : Int) : Rat)).map frD := by
      rw [List.map_map]; simpa [Function.comp_def] using e
    have inj : ∀ xs ys : List Rat, xs.map frD = ys.map frD → xs = ys := by
      intro xs
      induction xs with
      | nil => intro ys h; cases ys with
        | nil => rfl
        | cons y ys => simp at h
      | cons x xs ih => intro ys h; cases ys with
        | nil => simp at h
        | cons y ys =>
          simp only [List.map_cons, List.cons.injEq] at h
          rw [frD_inj.mp h.1, ih ys h.2]
    rw [inj _ _ e2]
    intro q hq
    obtain ⟨row, hr, rfl⟩ := List.mem_map.mp hq
    exact key row hr _ rfl
def ptAdd (p q : Pt) : Pt := (p.1 + q.1, p.2.1 + q.2.1, p.2.2 + q.2.2)
def ptNeg (p : Pt) : Pt := (-p.1, -p.2.1, -p.2.2)
theorem add_tops {L K : Nat} {x y : Rat} (hL : 0 < L) (hK : 0 < K) (h1 : x.den ∣ L) (h2 : y.den ∣ K) : (x + y).den ∣ L * K ∧ topOf (L * K) (x + y) = topOf L x * K + topOf K y * L := by
  refine den_dvd (Nat.mul_pos hL hK) ?_
  have e1 := topOf_eq hL h1
  have e2 := topOf_eq hK h2
  have z1 : (L : Rat) ≠ 0 := by exact_mod_cast (by omega : L ≠ 0)
  have z2 : (K : Rat) ≠ 0 := by exact_mod_cast (by omega : K ≠ 0)
  have hz : (L : Rat) * K ≠ 0 := by
    intro h
    rcases Rat.mul_eq_zero.mp h with h | h
    · exact z1 h
    · exact z2 h
  have i1 := Rat.mul_inv_cancel _ hz
  simp only [Rat.intCast_add, Rat.intCast_mul, e1, e2]
  rw [Rat.div_def, show (((L * K : Nat) : Int) : Rat) = (L : Rat) * K by rw [← Rat.natCast_mul]; rfl, show (((K : Nat) : Int) : Rat) = (K : Rat) from rfl, show (((L : Nat) : Int) : Rat) = (L : Rat) from rfl]
  generalize ((L : Rat) * K)⁻¹ = j at i1 ⊢
  grind
theorem PtB.add {n k : Nat} {p q : Pt} (hp : PtB n p) (hq : PtB k q) : PtB (n + k + 1) (ptAdd p q) := by
  obtain ⟨L, h0, h1, h2⟩ := ptb_iff.mp hp
  obtain ⟨K, g0, g1, g2⟩ := ptb_iff.mp hq
  refine ptb_iff.mpr ⟨L * K, Nat.mul_pos h0 g0, ?_, ?_⟩
  · exact Bd.mono (m := n + k) (by have := h1.mul g1; exact_mod_cast this) (by omega)
  · have key : ∀ x y : Rat, x.den ∣ L ∧ Bd n (topOf L x) → y.den ∣ K ∧ Bd k (topOf K y) → (x + y).den ∣ L * K ∧ Bd (n + k + 1) (topOf (L * K) (x + y)) := fun x y ⟨a1, a2⟩ ⟨b1, b2⟩ => by
      obtain ⟨c1, c2⟩ := add_tops h0 g0 a1 b1
      refine ⟨c1, ?_⟩
      rw [c2]
      exact ((a2.mul g1).add (b2.mul h1)).mono (by omega)
    intro r hr
    simp only [qsOf, ptAdd, List.mem_cons, List.not_mem_nil, or_false] at hr
    rcases hr with rfl | rfl | rfl
    · exact key _ _ (h2 _ (by simp [qsOf])) (g2 _ (by simp [qsOf]))
    · exact key _ _ (h2 _ (by simp [qsOf])) (g2 _ (by simp [qsOf]))
    · exact key _ _ (h2 _ (by simp [qsOf])) (g2 _ (by simp [qsOf]))
theorem PtB.neg {n : Nat} {p : Pt} (hp : PtB n p) : PtB n (ptNeg p) := by
  obtain ⟨L, h0, h1, h2⟩ := ptb_iff.mp hp
  refine ptb_iff.mpr ⟨L, h0, h1, fun r hr => ?_⟩
  have key : ∀ x : Rat, x.den ∣ L ∧ Bd n (topOf L x) → (-x).den ∣ L ∧ Bd n (topOf L (-x)) := fun x ⟨a1, a2⟩ => by
    refine ⟨by rw [Rat.neg_den]; exact a1, ?_⟩
    have : topOf L (-x) = - topOf L x := by
      unfold topOf; rw [Rat.neg_num, Rat.neg_den, Int.neg_mul]
    rw [this]; exact a2.neg
  simp only [qsOf, ptNeg, List.mem_cons, List.not_mem_nil, or_false] at hr
  rcases hr with rfl | rfl | rfl
  · exact key _ (h2 _ (by simp [qsOf]))
  · exact key _ (h2 _ (by simp [qsOf]))
  · exact key _ (h2 _ (by simp [qsOf]))
/-- the sum of two fractions -/
def spAdd : SpZ := fun rs S W => match rs with
  | [.d x, .d y] => ∃ (p q : Rat) (m n : Nat), x = frD p ∧ y = frD q ∧ BQ m p ∧ BQ n q ∧ m + n ≤ 9000 ∧ W (.d (frD (p + q))) S
  | _ => False
theorem add_made {p q : Rat} : ((p.num * (q.den : Int) + q.num * (p.den : Int) : Int) : Rat) / (((p.den : Int) * (q.den : Int) : Int) : Rat) = p + q := by
  obtain ⟨d1, z1, e1, f1⟩ := fr_parts p
  obtain ⟨d2, z2, e2, f2⟩ := fr_parts q
  simp only [Rat.intCast_add, Rat.intCast_mul, e1, e2, f1, f2]
  have hz : d1 * d2 ≠ 0 := by
    intro h
    rcases Rat.mul_eq_zero.mp h with h | h
    · exact z1 h
    · exact z2 h
  have := Rat.mul_inv_cancel _ hz
  rw [Rat.div_def]
  generalize (d1 * d2)⁻¹ = j at this ⊢
  grind
theorem made_ne {p q : Rat} : (p.den : Int) * (q.den : Int) ≠ 0 := Int.mul_ne_zero (fr_den p) (fr_den q)
theorem PtB.bqs {n : Nat} {p : Pt} (h : PtB n p) : ∀ q ∈ qsOf p, BQ n q := fun q hq => h.bq (by simpa [qsOf] using hq)
/-- the sum of two points -/
def spSum : SpZ := fun rs S W => match rs with
  | [.d x, .d y] => ∃ (p q : Pt) (m n : Nat), x = ptD p ∧ y = ptD q ∧ (∀ z ∈ qsOf p, BQ m z) ∧ (∀ z ∈ qsOf q, BQ n z) ∧ m + n ≤ 9000 ∧ W (.d (ptD (ptAdd p q))) S
  | _ => False
/-! ### motions: a four and a point -/
abbrev Mo := List Int × Pt
def moD (m : Mo) : D := .tup [.tup (m.1.map D.int), ptD m.2]
def mov (m : Mo) (p : Pt) : Pt := ptAdd (rot m.1 p) m.2
def moAnd (a b : Mo) : Mo := (pln (qmul b.1 a.1), mov b a.2)
def moBack (m : Mo) : Mo := (pln (qbk m.1), ptNeg (rot (pln (qbk m.1)) m.2))
/-- sizes of a motion -/
structure MB (m n : Nat) (a : Mo) : Prop where
  len : a.1.length = 4
  nz : ∃ x ∈ a.1, x ≠ 0
  bd : ∀ x ∈ a.1, Bd m x
  pt : PtB n a.2
theorem MB.mov {m n k : Nat} {a : Mo} (h : MB m n a) {p : Pt} (hp : PtB k p) : PtB (2 * m + k + 4 + n + 1) (mov a p) := (PtB.rot h.len h.nz h.bd hp).add h.pt
theorem MB.and {m n k l : Nat} {a b : Mo} (ha : MB m n a) (hb : MB k l b) : MB (k + m + 3) (2 * k + n + 4 + l + 1) (moAnd a b) := by
  have q := qmul_nz hb.len ha.len hb.nz ha.nz
  exact ⟨by simp only [moAnd]; rw [pln_len, qmul_len hb.len ha.len], pln_nz q, pln_bds q (qmul_bd hb.bd ha.bd), hb.mov ha.pt⟩
theorem MB.back {m n : Nat} {a : Mo} (h : MB m n a) : MB m (2 * m + n + 4) (moBack a) := by
  have q := qbk_nz h.len h.nz
  have l : (pln (qbk a.1)).length = 4 := by rw [pln_len, qbk_len h.len]
  have b := pln_bds q (qbk_bd h.bd)
  exact ⟨l, pln_nz q, b, (PtB.rot l (pln_nz q) b h.pt).neg⟩
def spMov : SpZ := fun rs S W => match rs with
  | [.d x, .d pd] => ∃ (a : Mo) (p : Pt) (m n k : Nat), x = moD a ∧ pd = ptD p ∧ MB m n a ∧ PtB k p ∧ 2 * m + k + 4 + n ≤ 8900 ∧ W (.d (ptD (mov a p))) S
  | _ => False
def spMoAnd : SpZ := fun rs S W => match rs with
  | [.d x, .d y] => ∃ (a b : Mo) (m n k l : Nat), x = moD a ∧ y = moD b ∧ MB m n a ∧ MB k l b ∧ m ≤ 4400 ∧ k ≤ 4400 ∧ 2 * k + n + 4 + l ≤ 8900 ∧ W (.d (moD (moAnd a b))) S
  | _ => False
def spMoBack : SpZ := fun rs S W => match rs with
  | [.d x] => ∃ (a : Mo) (m n : Nat), x = moD a ∧ MB m n a ∧ 2 * m + n + 4 ≤ 8900 ∧ W (.d (moD (moBack a))) S
  | _ => False
theorem tup_moD {xs : List Int} {p : Pt} : D.tup [D.tup (xs.map D.int), ptD p] = moD (xs, p) := rfl
end Z

set_option Elab.async false
set_option linter.all false
set_option maxRecDepth 100000
set_option exponentiation.threshold 20000
/-! R7: laws of motions. -/
namespace Z
open PySem PySem.Spec PyProof.Rows L2 RZ
theorem rot_add {a : List Int} (ha : a.length = 4) (p q : Pt) : rot a (ptAdd p q) = ptAdd (rot a p) (rot a q) := by
  obtain ⟨w, x, y, z, rfl⟩ := four_of ha
  simp only [rot, rotQ, ptAdd, Prod.mk.injEq]
  generalize (nrm (w : Rat) x y z)⁻¹ = i
  refine ⟨?_, ?_, ?_⟩ <;> grind
theorem rot_neg {a : List Int} (ha : a.length = 4) (p : Pt) : rot a (ptNeg p) = ptNeg (rot a p) := by
  obtain ⟨w, x, y, z, rfl⟩ := four_of ha
  simp only [rot, rotQ, ptNeg, Prod.mk.injEq]
  generalize (nrm (w : Rat) x y z)⁻¹ = i
  refine ⟨?_, ?_, ?_⟩ <;> grind
theorem ptAdd_assoc (p q r : Pt) : ptAdd (ptAdd p q) r = ptAdd p (ptAdd q r) := by
  simp only [ptAdd, Rat.add_assoc]
theorem ptAdd_neg (p : Pt) : ptAdd p (ptNeg p) = (0, 0, 0) := by
  simp only [ptAdd, ptNeg, Prod.mk.injEq]
  refine ⟨?_, ?_, ?_⟩ <;> grind
theorem ptNeg_add (p : Pt) : ptAdd (ptNeg p) p = (0, 0, 0) := by
  simp only [ptAdd, ptNeg, Prod.mk.injEq]
  refine ⟨?_, ?_, ?_⟩ <;> grind
theorem ptAdd_zero (p : Pt) : ptAdd p (0, 0, 0) = p := by
  obtain ⟨x, y, z⟩ := p
  simp only [ptAdd, Prod.mk.injEq]
  refine ⟨?_, ?_, ?_⟩ <;> grind
theorem zero_ptAdd (p : Pt) : ptAdd (0, 0, 0) p = p := by
  obtain ⟨x, y, z⟩ := p
  simp only [ptAdd, Prod.mk.injEq]
  refine ⟨?_, ?_, ?_⟩ <;> grind
theorem ptNeg_neg (p : Pt) : ptNeg (ptNeg p) = p := by
  obtain ⟨x, y, z⟩ := p
  simp only [ptNeg, Prod.mk.injEq]
  refine ⟨?_, ?_, ?_⟩ <;> grind
theorem qbk_smul {k : Int} {a : List Int} (ha : a.length = 4) : qbk (a.map (k * ·)) = (qbk a).map (k * ·) := by
  obtain ⟨w, x, y, z, rfl⟩ := four_of ha
  simp only [qbk, List.map_cons, List.map_nil, Int.mul_neg]
theorem qbk_qbk {a : List Int} (ha : a.length = 4) : qbk (qbk a) = a := by
  obtain ⟨w, x, y, z, rfl⟩ := four_of ha
  simp only [qbk, Int.neg_neg]
/-- the inverse of the plain form turns as the inverse -/
theorem rot_bk_pln {a : List Int} (ha : a.length = 4) (hz : ∃ n ∈ a, n ≠ 0) (p : Pt) : rot (qbk (pln a)) p = rot (qbk a) p := by
  have l : (pln a).length = 4 := by rw [pln_len, ha]
  conv => rhs; rw [pln_mul hz, qbk_smul l]
  exact (rot_smul (fsgl_ne hz) (qbk_len l) p).symm
theorem rot_back2 {a : List Int} (ha : a.length = 4) (hz : ∃ n ∈ a, n ≠ 0) (p : Pt) : rot a (rot (qbk a) p) = p := by
  have := rot_back (qbk_len ha) (qbk_nz ha hz) p
  rwa [qbk_qbk ha] at this
/-- the parts that laws of motions ask -/
structure MW (a : Mo) : Prop where
  len : a.1.length = 4
  nz : ∃ x ∈ a.1, x ≠ 0
theorem MB.w {m n : Nat} {a : Mo} (h : MB m n a) : MW a := ⟨h.len, h.nz⟩
theorem mov_and {a b : Mo} (ha : MW a) (hb : MW b) (p : Pt) : mov (moAnd a b) p = mov b (mov a p) := by
  have ql := qmul_len hb.len ha.len
  have qz := qmul_nz hb.len ha.len hb.nz ha.nz
  simp only [mov, moAnd]
  rw [rot_pln ql qz, rot_comp ha.len hb.len, rot_add hb.len, ptAdd_assoc]
theorem MW.and {a b : Mo} (ha : MW a) (hb : MW b) : MW (moAnd a b) :=
  ⟨by simp only [moAnd]; rw [pln_len, qmul_len hb.len ha.len], pln_nz (qmul_nz hb.len ha.len hb.nz ha.nz)⟩
theorem MW.back {a : Mo} (h : MW a) : MW (moBack a) :=
  ⟨by simp only [moBack]; rw [pln_len, qbk_len h.len], pln_nz (qbk_nz h.len h.nz)⟩
theorem moAnd_assoc {a b c : Mo} (ha : MW a) (hb : MW b) (hc : MW c) : moAnd a (moAnd b c) = moAnd (moAnd a b) c := by
  have e1 : pln (qmul (pln (qmul c.1 b.1)) a.1) = pln (qmul c.1 (pln (qmul b.1 a.1))) := by
    rw [pln_qmul_l (qmul_len hc.len hb.len) ha.len (qmul_nz hc.len hb.len hc.nz hb.nz) ha.nz, pln_qmul_r hc.len (qmul_len hb.len ha.len) hc.nz (qmul_nz hb.len ha.len hb.nz ha.nz), qmul_assoc hc.len hb.len ha.len]
  have e2 := mov_and hb hc a.2
  show (pln (qmul (pln (qmul c.1 b.1)) a.1), mov (moAnd b c) a.2) = (pln (qmul c.1 (pln (qmul b.1 a.1))), mov c (mov b a.2))
  rw [e1, e2]
def moStill : Mo := ([1, 0, 0, 0], (0, 0, 0))
theorem mov_still (p : Pt) : mov moStill p = p := by
  simp only [mov, moStill]
  rw [rot_one, ptAdd_zero]
theorem mov_back {a : Mo} (h : MW a) (p : Pt) : mov (moBack a) (mov a p) = p := by
  have l := qbk_len h.len
  have z := qbk_nz h.len h.nz
  simp only [mov, moBack]
  rw [rot_pln l z, rot_pln l z, rot_add l, rot_back h.len h.nz, ptAdd_assoc, ptAdd_neg, ptAdd_zero]
theorem back_back {a : Mo} (h : MW a) : (moBack (moBack a)).2 = a.2 := by
  have l := qbk_len h.len
  have z := qbk_nz h.len h.nz
  have l2 : (pln (qbk a.1)).length = 4 := by rw [pln_len, l]
  have z2 := pln_nz z
  simp only [moBack]
  rw [rot_pln (qbk_len l2) (qbk_nz l2 z2), rot_bk_pln l z, qbk_qbk h.len, rot_pln l z, rot_neg h.len, rot_back2 h.len h.nz, ptNeg_neg]
theorem and_back {a : Mo} (h : MW a) : moAnd a (moBack a) = moStill := by
  have l := qbk_len h.len
  have z := qbk_nz h.len h.nz
  show (pln (qmul (pln (qbk a.1)) a.1), ptAdd (rot (pln (qbk a.1)) a.2) (ptNeg (rot (pln (qbk a.1)) a.2))) = ([1, 0, 0, 0], (0, 0, 0))
  rw [pln_qmul_l l h.len z h.nz, qmul_bk_l h.len h.nz, ptAdd_neg]
theorem back_and {a : Mo} (h : MW a) : moAnd (moBack a) a = moStill := by
  have l := qbk_len h.len
  have z := qbk_nz h.len h.nz
  show (pln (qmul a.1 (pln (qbk a.1))), ptAdd (rot a.1 (ptNeg (rot (pln (qbk a.1)) a.2))) a.2) = ([1, 0, 0, 0], (0, 0, 0))
  rw [pln_qmul_r h.len l h.nz z, qmul_bk_r h.len h.nz, rot_neg h.len, rot_pln l z, rot_back2 h.len h.nz, ptNeg_add]
theorem still_and {a : Mo} (h : MW a) : moAnd moStill a = (pln a.1, a.2) := by
  show (pln (qmul a.1 [1, 0, 0, 0]), ptAdd (rot a.1 (0, 0, 0)) a.2) = (pln a.1, a.2)
  rw [qmul_one_r h.len, pln_smul (by decide) h.nz, rot_mid h.len, zero_ptAdd]
theorem eqv_mo {a b : Mo} : (py (moD a)).eqv (py (moD b)) = decide (a = b) := by
  obtain ⟨a1, a2⟩ := a
  obtain ⟨b1, b2⟩ := b
  have e : (py (moD (a1, a2))).eqv (py (moD (b1, b2))) = (PyData.eqvAll (pys (a1.map D.int)) (pys (b1.map D.int)) && (PyData.eqv (py (ptD a2)) (py (ptD b2)) && true)) := by
    show PyData.eqv (.tuple _) (.tuple _) = _
    rw [eqv_tt]
    show PyData.eqvAll (_ :: _ :: _) (_ :: _ :: _) = _
    rw [eqa_cc, eqa_cc]
    show (PyData.eqv (.tuple _) (.tuple _) && (_ && PyData.eqvAll [] [])) = _
    rw [eqv_tt, eqa_nil]
  rw [e, eqv_ints, eqv_pt]
  simp [Bool.decide_and]
theorem MB.mono {m n k l : Nat} {a : Mo} (h : MB m n a) (h1 : m ≤ k) (h2 : n ≤ l) : MB k l a := ⟨h.len, h.nz, fun x hx => (h.bd x hx).mono h1, h.pt.mono h2⟩
theorem seq_mo {S : Sto} {m : Mo} : seqOf S (.r (.d (moD m))) = some [.tup (m.1.map D.int), ptD m.2] := rfl
theorem seq_pt {S : Sto} {p : Pt} : seqOf S (.r (.d (ptD p))) = some [frD p.1, frD p.2.1, frD p.2.2] := rfl
theorem seq_fr {S : Sto} {q : Rat} : seqOf S (.r (.d (frD q))) = some [.int q.num, .int (q.den : Int)] := rfl
theorem dp_mo (a : Mo) : (py (moD a)).depth ≤ 4 := by
  have h1 := depth_ints a.1
  have h2 := dp_pt a.2
  show PyData.depth (.tuple [.tuple _, _]) ≤ 4
  simp only [PyData.depth, PyData.depthAll]
  omega
end Z

set_option Elab.async false
set_option linter.all false
set_option maxRecDepth 100000
set_option exponentiation.threshold 20000
/-! R8: ways (three whole numbers), their products; swings and twists. -/
namespace Z
open PySem PySem.Spec PyProof.Rows L2 RZ
def dt : List Int → List Int → Int
  | [a, b, c], [p, q, r] => a * p + b * q + c * r
  | _, _ => 0
def crs : List Int → List Int → List Int
  | [a, b, c], [p, q, r] => [b * r - c * q, c * p - a * r, a * q - b * p]
  | _, _ => []
theorem three_of {a : List Int} (h : a.length = 3) : ∃ x y z, a = [x, y, z] := by
  match a, h with
  | [x, y, z], _ => exact ⟨x, y, z, rfl⟩
theorem two_of {a : List Int} (h : a.length = 2) : ∃ x y, a = [x, y] := by
  match a, h with
  | [x, y], _ => exact ⟨x, y, rfl⟩
theorem nz_three {ms : List Int} (hl : ms.length = 3) (h : ms ≠ [0, 0, 0]) : ∃ n ∈ ms, n ≠ 0 := by
  obtain ⟨p, q, r, rfl⟩ := three_of hl
  by_cases h1 : p = 0
  · by_cases h2 : q = 0
    · by_cases h3 : r = 0
      · subst h1 h2 h3; exact absurd rfl h
      · exact ⟨r, by simp, h3⟩
    · exact ⟨q, by simp, h2⟩
  · exact ⟨p, by simp, h1⟩
theorem ne_three {ms : List Int} (h : ∃ n ∈ ms, n ≠ 0) : ms ≠ [0, 0, 0] := by
  rintro rfl
  obtain ⟨n, hn, h0⟩ := h
  simp at hn; exact h0 hn
theorem ne_four {ms : List Int} (h : ∃ n ∈ ms, n ≠ 0) : ms ≠ [0, 0, 0, 0] := by
  rintro rfl
  obtain ⟨n, hn, h0⟩ := h
  simp at hn; exact h0 hn
theorem crs_len {a b : List Int} (ha : a.length = 3) (hb : b.length = 3) : (crs a b).length = 3 := by
  obtain ⟨p, q, r, rfl⟩ := three_of ha
  obtain ⟨t, u, v, rfl⟩ := three_of hb
  rfl
theorem crs_bd {m n : Nat} {a b : List Int} (h1 : ∀ x ∈ a, Bd m x) (h2 : ∀ x ∈ b, Bd n x) : ∀ x ∈ crs a b, Bd (m + n + 1) x := by
  unfold crs
  split
  · rename_i p q r t u v
    simp only [List.mem_cons, List.not_mem_nil, or_false, forall_eq_or_imp, forall_eq] at h1 h2 ⊢
    obtain ⟨a1, a2, a3⟩ := h1
    obtain ⟨b1, b2, b3⟩ := h2
    exact ⟨((a2.mul b3).sub (a3.mul b2)).mono (by omega), ((a3.mul b1).sub (a1.mul b3)).mono (by omega), ((a1.mul b2).sub (a2.mul b1)).mono (by omega)⟩
  · intro x hx; simp at hx
theorem dt_bd {m n : Nat} {a b : List Int} (h1 : ∀ x ∈ a, Bd m x) (h2 : ∀ x ∈ b, Bd n x) : Bd (m + n + 2) (dt a b) := by
  unfold dt
  split
  · rename_i p q r t u v
    simp only [List.mem_cons, List.not_mem_nil, or_false, forall_eq_or_imp, forall_eq] at h1 h2 ⊢
    obtain ⟨a1, a2, a3⟩ := h1
    obtain ⟨b1, b2, b3⟩ := h2
    exact (((a1.mul b1).add (a2.mul b2)).add (a3.mul b3)).mono (by omega)
  · exact Bd.zero
theorem dt_smul {k : Int} {a b : List Int} (ha : a.length = 3) (hb : b.length = 3) : dt a (b.map (k * ·)) = k * dt a b := by
  obtain ⟨p, q, r, rfl⟩ := three_of ha
  obtain ⟨t, u, v, rfl⟩ := three_of hb
  simp only [dt, List.map_cons, List.map_nil]; grind
theorem dt_smul_l {k : Int} {a b : List Int} (ha : a.length = 3) (hb : b.length = 3) : dt (a.map (k * ·)) b = k * dt a b := by
  obtain ⟨p, q, r, rfl⟩ := three_of ha
  obtain ⟨t, u, v, rfl⟩ := three_of hb
  simp only [dt, List.map_cons, List.map_nil]; grind
theorem crs_smul {k : Int} {a b : List Int} (ha : a.length = 3) (hb : b.length = 3) : crs a (b.map (k * ·)) = (crs a b).map (k * ·) := by
  obtain ⟨p, q, r, rfl⟩ := three_of ha
  obtain ⟨t, u, v, rfl⟩ := three_of hb
  simp only [crs, List.map_cons, List.map_nil, List.cons.injEq, and_true]
  refine ⟨?_, ?_, ?_⟩ <;> grind
theorem crs_smul_l {k : Int} {a b : List Int} (ha : a.length = 3) (hb : b.length = 3) : crs (a.map (k * ·)) b = (crs a b).map (k * ·) := by
  obtain ⟨p, q, r, rfl⟩ := three_of ha
  obtain ⟨t, u, v, rfl⟩ := three_of hb
  simp only [crs, List.map_cons, List.map_nil, List.cons.injEq, and_true]
  refine ⟨?_, ?_, ?_⟩ <;> grind
theorem dt_comm {a b : List Int} (ha : a.length = 3) (hb : b.length = 3) : dt a b = dt b a := by
  obtain ⟨p, q, r, rfl⟩ := three_of ha
  obtain ⟨t, u, v, rfl⟩ := three_of hb
  simp only [dt]; grind
theorem dt_pos {a : List Int} (ha : a.length = 3) (hz : ∃ n ∈ a, n ≠ 0) : 0 < dt a a := by
  obtain ⟨p, q, r, rfl⟩ := three_of ha
  obtain ⟨n, hn, h0⟩ := hz
  have a := sq_nn p
  have b := sq_nn q
  have c := sq_nn r
  have e := sq_pos h0
  show 0 < p * p + q * q + r * r
  simp only [List.mem_cons, List.not_mem_nil, or_false] at hn
  rcases hn with rfl | rfl | rfl <;> omega
theorem sm_inj {k : Int} (hk : k ≠ 0) {xs ys : List Int} (h : xs.map (k * ·) = ys.map (k * ·)) : xs = ys :=
  List.map_inj_right (fun _ _ e => Int.eq_of_mul_eq_mul_left hk e) |>.mp h
theorem sm_zero {k : Int} (hk : k ≠ 0) {xs : List Int} {n : Nat} (h : xs.map (k * ·) = List.replicate n 0) : xs = List.replicate n 0 := by
  refine sm_inj hk (h.trans ?_)
  simp
theorem drop_map {k : Int} {a : List Int} : (a.map (k * ·)).drop 1 = (a.drop 1).map (k * ·) := by rw [List.map_drop]
theorem tail_len {f : List Int} (h : f.length = 4) : (f.drop 1).length = 3 := by rw [List.length_drop, h]
theorem drop_bd {n : Nat} {f : List Int} (h : ∀ x ∈ f, Bd n x) : ∀ x ∈ f.drop 1, Bd n x := fun x hx => h x (List.mem_of_mem_drop hx)
theorem cut_one {x : D} {xs : List D} : cutD (x :: xs) (some 1) none = xs := cutD_drop (xs := x :: xs) 1
theorem cut_1 {xs : List D} : cutD xs (some 1) none = xs.drop 1 := cutD_drop 1
def spDt : SpZ := fun rs S W => match rs with
  | [.d (.tup xs), .d (.tup ys)] => ∃ a b : List Int, xs = a.map D.int ∧ ys = b.map D.int ∧ a.length = 3 ∧ b.length = 3 ∧ (∀ x ∈ a, Bd 60000000 x) ∧ (∀ x ∈ b, Bd 60000000 x) ∧ W (.d (.int (dt a b))) S
  | _ => False
def spCrs : SpZ := fun rs S W => match rs with
  | [.d (.tup xs), .d (.tup ys)] => ∃ a b : List Int, xs = a.map D.int ∧ ys = b.map D.int ∧ a.length = 3 ∧ b.length = 3 ∧ (∀ x ∈ a, Bd 60000000 x) ∧ (∀ x ∈ b, Bd 60000000 x) ∧ W (.d (.tup ((crs a b).map D.int))) S
  | _ => False
/-- the same, handed back as a new list -/
def spCrsL : SpZ := fun rs S W => match rs with
  | [.d (.tup xs), .d (.tup ys)] => ∃ a b : List Int, xs = a.map D.int ∧ ys = b.map D.int ∧ a.length = 3 ∧ b.length = 3 ∧ (∀ x ∈ a, Bd 60000000 x) ∧ (∀ x ∈ b, Bd 60000000 x) ∧ W (.loc S.length) (S ++ [.lst ((crs a b).map D.int)])
  | _ => False
theorem eqv_ss {a b : Str} : PyData.eqv (.str a) (.str b) = (a == b) := by simp only [PyData.eqv]
theorem pln_qbk {a : List Int} (ha : a.length = 4) (hz : ∃ n ∈ a, n ≠ 0) : pln (qbk (pln a)) = pln (qbk a) := by
  have l : (pln a).length = 4 := by rw [pln_len, ha]
  conv => rhs; rw [pln_mul hz, qbk_smul l, pln_smul (fsgl_ne hz) (qbk_nz l (pln_nz hz))]
/-! ### swing and twist -/
def hd (f : List Int) : Int := f.headD 0
def twst (f a : List Int) : List Int := (hd f * dt a a) :: a.map (dt a (f.drop 1) * ·)
def lockT (f a : List Int) : Bool := hd f == 0 && dt a (f.drop 1) == 0
def partD (f a : List Int) : D := if lockT f a = true then .tup [.str (PySem.Str.ofString "lock")] else .tup [.str (PySem.Str.ofString "parted"), rowD (pln (qmul f (qbk (twst f a)))), rowD (pln (twst f a))]
theorem twst_len {f a : List Int} (ha : a.length = 3) : (twst f a).length = 4 := by simp [twst, ha]
theorem twst_nz {f a : List Int} (ha : a.length = 3) (hz : ∃ n ∈ a, n ≠ 0) (h : lockT f a = false) : ∃ n ∈ twst f a, n ≠ 0 := by
  have hp := dt_pos ha hz
  unfold lockT at h
  rw [Bool.and_eq_false_iff] at h
  rcases h with h | h
  · have : hd f ≠ 0 := by simpa using h
    exact ⟨_, List.mem_cons_self, Int.mul_ne_zero this (by omega)⟩
  · have : dt a (f.drop 1) ≠ 0 := by simpa using h
    obtain ⟨n, hn, h0⟩ := nz_map this hz
    exact ⟨n, List.mem_cons_of_mem _ hn, h0⟩
theorem twst_bd {m n : Nat} {f a : List Int} (hf : ∀ x ∈ f, Bd n x) (ha : ∀ x ∈ a, Bd m x) : ∀ x ∈ twst f a, Bd (m + m + n + 2) x := by
  intro x hx
  rcases List.mem_cons.mp hx with rfl | hx
  · have h1 : Bd n (hd f) := by
      cases f with
      | nil => exact Bd.zero
      | cons y ys => exact hf _ (by simp [hd])
    exact (h1.mul (dt_bd ha ha)).mono (by omega)
  · obtain ⟨y, hy, rfl⟩ := List.mem_map.mp hx
    exact ((dt_bd ha (drop_bd hf)).mul (ha y hy)).mono (by omega)
theorem twst_crs {f a : List Int} (ha : a.length = 3) : crs a ((twst f a).drop 1) = [0, 0, 0] := by
  simp only [twst, List.drop_succ_cons, List.drop_zero]
  rw [crs_smul ha ha]
  obtain ⟨p, q, r, rfl⟩ := three_of ha
  simp only [crs, List.map_cons, List.map_nil, List.cons.injEq, and_true]
  refine ⟨?_, ?_, ?_⟩ <;> grind
theorem twst_dt {f a : List Int} (hf : f.length = 4) (ha : a.length = 3) : dt a ((qmul f (qbk (twst f a))).drop 1) = 0 := by
  obtain ⟨w, x, y, z, rfl⟩ := four_of hf
  obtain ⟨p, q, r, rfl⟩ := three_of ha
  simp only [twst, hd, dt, List.headD_cons, List.drop_succ_cons, List.drop_zero, List.map_cons, List.map_nil, qbk, qmul]
  grind
theorem twst_mul {f t : List Int} (hf : f.length = 4) (ht : t.length = 4) : qmul (qmul f (qbk t)) t = f.map (nrmI t * ·) := by
  obtain ⟨w, x, y, z, rfl⟩ := four_of hf
  obtain ⟨p, q, r, s, rfl⟩ := four_of ht
  simp only [qbk, qmul, nrmI, List.map_cons, List.map_nil, List.cons.injEq, and_true]
  refine ⟨?_, ?_, ?_, ?_⟩ <;> grind
structure Parts (f a s t : List Int) : Prop where
  slen : s.length = 4
  tlen : t.length = 4
  snz : ∃ n ∈ s, n ≠ 0
  tnz : ∃ n ∈ t, n ≠ 0
  sp : pln s = s
  tp : pln t = t
  along : crs a (t.drop 1) = [0, 0, 0]
  up : dt a (s.drop 1) = 0
  mul : pln (qmul s t) = pln f
theorem parts_of {f a : List Int} (hf : f.length = 4) (zf : ∃ n ∈ f, n ≠ 0) (ha : a.length = 3) (za : ∃ n ∈ a, n ≠ 0) (h : lockT f a = false) : Parts f a (pln (qmul f (qbk (twst f a)))) (pln (twst f a)) := by
  have tl : (twst f a).length = 4 := twst_len ha
  have tz := twst_nz ha za h
  have kl := qbk_len tl
  have kz := qbk_nz tl tz
  have ql := qmul_len hf kl
  have qz := qmul_nz hf kl zf kz
  refine ⟨by rw [pln_len, ql], by rw [pln_len, tl], pln_nz qz, pln_nz tz, pln_pln qz, pln_pln tz, ?_, ?_, ?_⟩
  · have e := twst_crs (f := f) ha
    rw [pln_mul tz, drop_map, crs_smul ha (tail_len (by rw [pln_len, tl]))] at e
    exact sm_zero (n := 3) (fsgl_ne tz) e
  · have e := twst_dt hf ha
    rw [pln_mul qz, drop_map, dt_smul ha (tail_len (by rw [pln_len, ql]))] at e
    rcases Int.mul_eq_zero.mp e with e | e
    · exact absurd e (fsgl_ne qz)
    · exact e
  · rw [pln_qmul_l ql (by rw [pln_len, tl]) qz (pln_nz tz), pln_qmul_r ql tl qz tz, twst_mul hf tl, pln_smul (nrmI_ne tl tz) zf]
def spPart : SpZ := fun rs S W => match rs with
  | [.d (.tup xs), .d (.tup ys)] => ∃ a f : List Int, xs = a.map D.int ∧ ys = f.map D.int ∧ a.length = 3 ∧ f.length = 4 ∧ (∃ x ∈ a, x ≠ 0) ∧ (∃ x ∈ f, x ≠ 0) ∧ (∀ x ∈ a, Bd 1000 x) ∧ (∀ x ∈ f, Bd 1000 x) ∧ W (.d (partD f a)) S
  | _ => False
/-- any drawn way -/
def spWay : SpZ := fun rs S W => match rs, S with
  | [.loc 0], [.lst [.int _, .int _]] => ∀ (ns : List Int) (a b : Int), ns.length = 3 → (∀ n ∈ ns, Bd 100 n) → (∃ n ∈ ns, n ≠ 0) → W (.d (.tup (ns.map D.int))) [.lst [.int a, .int b]]
  | _, _ => False
/-! scaled -/
theorem hd_map {k : Int} {f : List Int} (h : f.length = 4) : hd (f.map (k * ·)) = k * hd f := by
  obtain ⟨w, x, y, z, rfl⟩ := four_of h
  rfl
theorem lockT_smul {c k : Int} (hc : c ≠ 0) (hk : k ≠ 0) {f a : List Int} (hf : f.length = 4) (ha : a.length = 3) : lockT (f.map (c * ·)) (a.map (k * ·)) = lockT f a := by
  unfold lockT
  rw [hd_map hf, drop_map, dt_smul_l ha (by rw [List.length_map, tail_len hf]), dt_smul ha (tail_len hf)]
  have e : ∀ {k x : Int}, k ≠ 0 → (k * x == 0) = (x == 0) := fun {k x} hk => by
    by_cases h : x = 0
    · rw [h, Int.mul_zero]
    · have := Int.mul_ne_zero hk h
      rw [beq_eq_false_iff_ne.mpr h, beq_eq_false_iff_ne.mpr this]
  rw [e hc, e hk, e hc]
theorem twst_smul {c k : Int} {f a : List Int} (hf : f.length = 4) (ha : a.length = 3) : twst (f.map (c * ·)) (a.map (k * ·)) = (twst f a).map ((c * (k * k)) * ·) := by
  obtain ⟨p, q, r, rfl⟩ := three_of ha
  obtain ⟨w, x, y, z, rfl⟩ := four_of hf
  simp only [twst, hd, dt, List.headD_cons, List.drop_succ_cons, List.drop_zero, List.map_cons, List.map_nil, List.cons.injEq, and_true]
  refine ⟨?_, ?_, ?_, ?_⟩ <;> grind
theorem partD_smul {c k : Int} (hc : c ≠ 0) (hk : k ≠ 0) {f a : List Int} (hf : f.length = 4) (zf : ∃ n ∈ f, n ≠ 0) (ha : a.length = 3) (za : ∃ n ∈ a, n ≠ 0) : partD (f.map (c * ·)) (a.map (k * ·)) = partD f a := by
  unfold partD
  rw [lockT_smul hc hk hf ha]
  split
  · rfl
  · rename_i hl
    have hl : lockT f a = false := by simpa using hl
    have tl : (twst f a).length = 4 := twst_len ha
    have tz := twst_nz ha za hl
    have hm : c * (k * k) ≠ 0 := Int.mul_ne_zero hc (Int.mul_ne_zero hk hk)
    have kl := qbk_len tl
    have kz := qbk_nz tl tz
    rw [twst_smul hf ha, pln_smul hm tz, qbk_smul tl, qmul_smul_l hf (by rw [List.length_map, kl]), qmul_smul_r hf kl, pln_smul hc (nz_map hm (qmul_nz hf kl zf kz)), pln_smul hm (qmul_nz hf kl zf kz)]
theorem partD_pln {f a : List Int} (hf : f.length = 4) (zf : ∃ n ∈ f, n ≠ 0) (ha : a.length = 3) (za : ∃ n ∈ a, n ≠ 0) {k : Int} (hk : k ≠ 0) : partD (pln f) (a.map (k * ·)) = partD f a := by
  have l : (pln f).length = 4 := by rw [pln_len, hf]
  have e1 := partD_smul (fsgl_ne zf) (k := 1) (by decide) l (pln_nz zf) ha za
  have e2 := partD_smul (c := 1) (by decide) hk l (pln_nz zf) ha za
  have i : ∀ xs : List Int, xs.map ((1 : Int) * ·) = xs := fun xs => by simp
  rw [i] at e1 e2
  rw [← pln_mul zf] at e1
  rw [e2, e1]
/-- a swing behind a twist is parted in them -/
theorem partD_of {w l k : Int} {u a : List Int} (hu : u.length = 3) (ha : a.length = 3) (za : ∃ n ∈ a, n ≠ 0) (h0 : dt a u = 0) (zs : ∃ n ∈ w :: u, n ≠ 0) (zt : ∃ n ∈ l :: a.map (k * ·), n ≠ 0) :
    partD (qmul (pln (w :: u)) (pln (l :: a.map (k * ·)))) a = if lockT (qmul (pln (w :: u)) (pln (l :: a.map (k * ·)))) a = true then .tup [.str (PySem.Str.ofString "lock")] else .tup [.str (PySem.Str.ofString "parted"), rowD (pln (w :: u)), rowD (pln (l :: a.map (k * ·)))] := by
  have l1 : (w :: u).length = 4 := by simp [hu]
  have l2 : (l :: a.map (k * ·)).length = 4 := by simp [ha]
  have p1 : (pln (w :: u)).length = 4 := by rw [pln_len, l1]
  have p2 : (pln (l :: a.map (k * ·))).length = 4 := by rw [pln_len, l2]
  have q1 : qmul (w :: u) (l :: a.map (k * ·)) = (qmul (pln (w :: u)) (pln (l :: a.map (k * ·)))).map ((fs (w :: u) * (gl (w :: u) : Int)) * (fs (l :: a.map (k * ·)) * (gl (l :: a.map (k * ·)) : Int)) * ·) := by
    conv => lhs; rw [pln_mul zs]; arg 2; rw [pln_mul zt]
    rw [qmul_smul_l p1 (by rw [List.length_map, p2]), qmul_smul_r p1 p2, List.map_map]
    refine List.map_congr_left fun x _ => ?_
    simp only [Function.comp]; grind
  have hc := Int.mul_ne_zero (fsgl_ne zs) (fsgl_ne zt)
  generalize hcc : (fs (w :: u) * (gl (w :: u) : Int)) * (fs (l :: a.map (k * ·)) * (gl (l :: a.map (k * ·)) : Int)) = c at *
  have ql := qmul_len p1 p2
  have qz := qmul_nz p1 p2 (pln_nz zs) (pln_nz zt)
  have key := partD_smul (k := 1) hc (by decide) ql qz ha za
  have lk := lockT_smul (k := 1) hc (by decide) ql ha
  have i : ∀ xs : List Int, xs.map ((1 : Int) * ·) = xs := fun xs => by simp
  rw [← q1, i] at key lk
  rw [← key, ← lk]
  unfold partD
  split
  · rfl
  · rename_i hl
    have hl : lockT (qmul (w :: u) (l :: a.map (k * ·))) a = false := by simpa using hl
    have e1 : twst (qmul (w :: u) (l :: a.map (k * ·))) a = (l :: a.map (k * ·)).map ((w * dt a a) * ·) := by
      obtain ⟨p, q, r, rfl⟩ := three_of ha
      obtain ⟨x, y, z, rfl⟩ := three_of hu
      simp only [dt] at h0
      simp only [twst, qmul, hd, dt, List.map_cons, List.map_nil, List.headD_cons, List.drop_succ_cons, List.drop_zero, List.cons.injEq, and_true]
      refine ⟨?_, ?_, ?_, ?_⟩ <;> grind
    have tz := twst_nz ha za hl
    have hw : w * dt a a ≠ 0 := by
      rintro h
      rw [e1, h] at tz
      obtain ⟨n, hn, h1⟩ := tz
      obtain ⟨m, _, rfl⟩ := List.mem_map.mp hn
      omega
    have kl := qbk_len l2
    have kz := qbk_nz l2 zt
    have zq := qmul_nz l1 l2 zs zt
    have lq := qmul_len l1 l2
    have e2 : qmul (qmul (w :: u) (l :: a.map (k * ·))) (qbk (l :: a.map (k * ·))) = (w :: u).map (nrmI (l :: a.map (k * ·)) * ·) := by
      generalize l :: a.map (k * ·) = t at *
      generalize w :: u = s at *
      obtain ⟨p, q, r, s', rfl⟩ := four_of l2
      obtain ⟨x, y, z, o, rfl⟩ := four_of l1
      simp only [qmul, qbk, nrmI, List.map_cons, List.map_nil, List.cons.injEq, and_true]
      refine ⟨?_, ?_, ?_, ?_⟩ <;> grind
    rw [e1, pln_smul hw zt, qbk_smul l2, qmul_smul_r lq kl, pln_smul hw (qmul_nz lq kl zq kz), e2, pln_smul (nrmI_ne l2 zt) zs]
theorem crs_up {a b : List Int} (ha : a.length = 3) (hb : b.length = 3) : dt a (crs a b) = 0 := by
  obtain ⟨p, q, r, rfl⟩ := three_of ha
  obtain ⟨t, u, v, rfl⟩ := three_of hb
  simp only [dt, crs]; grind
/-- any drawn setting -/
def spSet : SpZ := fun rs S W => match rs, S with
  | [.loc 0], [.lst [.int _, .int _]] => ∀ k l a b : Int, (∃ n ∈ [k, l], n ≠ 0) → Bd 45 k → Bd 45 l → W (.d (.tup [.int k, .int l])) [.lst [.int a, .int b]]
  | _, _ => False
/-- a value is itself -/
theorem eqv_self (d : D) : (py d).eqv (py d) = true := by
  have h := D.rec (motive_1 := fun d => (py d).eqv (py d) = true) (motive_2 := fun xs => PyData.eqvAll (pys xs) (pys xs) = true) (by simp only [py, PyData.eqv]) (fun b => by simp [py, PyData.eqv]) (fun b => by simp [py, PyData.eqv]) (fun b => by simp [py, PyData.eqv]) (fun xs h => by simpa [py, PyData.eqv] using h) (fun xs h => by simpa [py, PyData.eqv] using h) (by simp only [pys, PyData.eqvAll]) (fun x xs h1 h2 => by simp only [pys, PyData.eqvAll, h1, h2, Bool.and_self]) d
  exact h
end Z

set_option Elab.async false
set_option linter.all false
set_option maxRecDepth 100000
set_option exponentiation.threshold 20000
/-! R9: settings, axes, turns about ways. -/
namespace Z
open PySem PySem.Spec PyProof.Rows L2 RZ
/-- the plain setting -/
def pset (k l : Int) : List Int := (pln [l, k]).reverse
theorem pset_eq (k l : Int) : pset k l = [fs [l, k] * (k / (gl [l, k] : Int)), fs [l, k] * (l / (gl [l, k] : Int))] := rfl
theorem gl_two (k l : Int) : gl [l, k] = gl [k, l] := by simp only [gl, Nat.gcd_zero_right]; exact Nat.gcd_comm _ _
def spPset : SpZ := fun rs S W => match rs with
  | [.d (.int k), .d (.int l)] => (∃ n ∈ [k, l], n ≠ 0) ∧ Bd 9000 k ∧ Bd 9000 l ∧ W (.d (.tup ((pset k l).map D.int))) S
  | _ => False
theorem nz_swap {k l : Int} (h : ∃ n ∈ [k, l], n ≠ 0) : ∃ n ∈ [l, k], n ≠ 0 := by
  obtain ⟨n, hn, h0⟩ := h
  exact ⟨n, by simp only [List.mem_cons, List.not_mem_nil, or_false] at hn ⊢; exact hn.symm, h0⟩
theorem pset_smul {c k l : Int} (hc : c ≠ 0) (h : ∃ n ∈ [k, l], n ≠ 0) : pset (c * k) (c * l) = pset k l := by
  unfold pset
  rw [show [c * l, c * k] = [l, k].map (c * ·) from rfl, pln_smul hc (nz_swap h)]
theorem pset_len (k l : Int) : (pset k l).length = 2 := rfl
theorem pset_nz {k l : Int} (h : ∃ n ∈ [k, l], n ≠ 0) : ∃ n ∈ pset k l, n ≠ 0 := by
  obtain ⟨n, hn, h0⟩ := pln_nz (nz_swap h)
  exact ⟨n, by simpa [pset] using hn, h0⟩
theorem pset_bd {n : Nat} {k l : Int} (h : ∃ n ∈ [k, l], n ≠ 0) (bk : Bd n k) (bl : Bd n l) : ∀ x ∈ pset k l, Bd n x := by
  intro x hx
  refine pln_bds (nz_swap h) (ns := [l, k]) (fun y hy => ?_) x (by simpa [pset] using hx)
  simp only [List.mem_cons, List.not_mem_nil, or_false] at hy
  rcases hy with rfl | rfl
  · exact bl
  · exact bk
/-- the turn about a way by a setting -/
def abt (a : List Int) (k l : Int) : List Int := l :: a.map (k * ·)
theorem abt_len {a : List Int} (ha : a.length = 3) (k l : Int) : (abt a k l).length = 4 := by simp [abt, ha]
theorem abt_nz {a : List Int} (za : ∃ n ∈ a, n ≠ 0) {k l : Int} (h : ∃ n ∈ [k, l], n ≠ 0) : ∃ n ∈ abt a k l, n ≠ 0 := by
  obtain ⟨n, hn, h0⟩ := h
  simp only [List.mem_cons, List.not_mem_nil, or_false] at hn
  rcases hn with rfl | rfl
  · obtain ⟨m, hm, h1⟩ := nz_map h0 za
    exact ⟨m, List.mem_cons_of_mem _ hm, h1⟩
  · exact ⟨n, by simp [abt], h0⟩
theorem abt_bd {m n : Nat} {a : List Int} {k l : Int} (ba : ∀ x ∈ a, Bd m x) (bk : Bd n k) (bl : Bd n l) : ∀ x ∈ abt a k l, Bd (n + m) x := by
  intro x hx
  rcases List.mem_cons.mp hx with rfl | hx
  · exact bl.mono (by omega)
  · obtain ⟨y, hy, rfl⟩ := List.mem_map.mp hx
    exact bk.mul (ba y hy)
theorem abt_smul (c : Int) (a : List Int) (k l : Int) : abt a (c * k) (c * l) = (abt a k l).map (c * ·) := by
  unfold abt
  rw [List.map_cons, List.map_map]
  congr 1
  exact List.map_congr_left fun x _ => Int.mul_assoc c k x
theorem abt_way (c : Int) (a : List Int) (k l : Int) : abt (a.map (c * ·)) k l = abt a (k * c) l := by
  unfold abt
  rw [List.map_map]
  congr 1
  exact List.map_congr_left fun x _ => (Int.mul_assoc k c x).symm
theorem pln_abt_pset {a : List Int} (za : ∃ n ∈ a, n ≠ 0) {k l : Int} (h : ∃ n ∈ [k, l], n ≠ 0) : pln (abt a ((pset k l)[0]!) ((pset k l)[1]!)) = pln (abt a k l) := by
  have e := pln_mul (nz_swap h)
  have e1 : k = (fs [l, k] * (gl [l, k] : Int)) * (pset k l)[0]! := by
    have := congrArg (fun xs : List Int => xs[1]!) e
    exact this
  have e2 : l = (fs [l, k] * (gl [l, k] : Int)) * (pset k l)[1]! := by
    have := congrArg (fun xs : List Int => xs[0]!) e
    exact this
  have hz : ∃ n ∈ [(pset k l)[0]!, (pset k l)[1]!], n ≠ 0 := pset_nz h
  have hc := fsgl_ne (nz_swap h)
  clear e
  generalize fs [l, k] * (gl [l, k] : Int) = c at *
  generalize (pset k l)[0]! = k' at *
  generalize (pset k l)[1]! = l' at *
  rw [e1, e2, abt_smul, pln_smul hc (abt_nz za hz)]
def spAbout : SpZ := fun rs S W => match rs with
  | [.d (.tup xs), .d (.tup ys)] => ∃ (a : List Int) (k l : Int), xs = a.map D.int ∧ ys = [.int k, .int l] ∧ a.length = 3 ∧ (∃ x ∈ a, x ≠ 0) ∧ (∃ n ∈ [k, l], n ≠ 0) ∧ (∀ x ∈ a, Bd 4000 x) ∧ Bd 4000 k ∧ Bd 4000 l ∧ W (.d (.tup ((pln (abt a k l)).map D.int))) S
  | _ => False
/-! the first part that isn't 0 -/
def fnz : List Int → Nat
  | [] => 0
  | x :: xs => if x = 0 then fnz xs + 1 else 0
theorem fnz_lt : ∀ {a : List Int}, (∃ n ∈ a, n ≠ 0) → fnz a < a.length ∧ a[fnz a]! ≠ 0
  | [], h => by simp at h
  | x :: xs, h => by
    unfold fnz
    split
    · rename_i h0
      have h' : ∃ n ∈ xs, n ≠ 0 := by
        obtain ⟨n, hn, h1⟩ := h
        rcases List.mem_cons.mp hn with rfl | hn
        · exact absurd h0 h1
        · exact ⟨n, hn, h1⟩
      have := fnz_lt h'
      exact ⟨by simp; omega, by simpa using this.2⟩
    · rename_i h0
      exact ⟨by simp, by simpa using h0⟩
theorem fnz_zero : ∀ {a : List Int} {i : Nat}, i < fnz a → a[i]! = 0
  | [], i, h => by simp [fnz] at h
  | x :: xs, i, h => by
    unfold fnz at h
    split at h
    · rename_i h0
      cases i with
      | zero => simpa using h0
      | succ i => simpa using fnz_zero (a := xs) (i := i) (by omega)
    · omega
/-- the setting by which a turn is one about a way -/
def stab (a f : List Int) : D := if crs a (f.drop 1) = [0, 0, 0] then .tup ((pset ((f.drop 1)[fnz a]!) (a[fnz a]! * hd f)).map D.int) else .non
def spStab : SpZ := fun rs S W => match rs with
  | [.d (.tup xs), .d (.tup ys)] => ∃ a f : List Int, xs = a.map D.int ∧ ys = f.map D.int ∧ a.length = 3 ∧ f.length = 4 ∧ (∃ x ∈ a, x ≠ 0) ∧ (∃ x ∈ f, x ≠ 0) ∧ (∀ x ∈ a, Bd 4000 x) ∧ (∀ x ∈ f, Bd 4000 x) ∧ W (.d (stab a f)) S
  | _ => False
theorem par_of {a u : List Int} (ha : a.length = 3) (hu : u.length = 3) (hc : crs a u = [0, 0, 0]) {i : Nat} (hi : i < 3) : a.map (u[i]! * ·) = u.map (a[i]! * ·) := by
  obtain ⟨p, q, r, rfl⟩ := three_of ha
  obtain ⟨x, y, z, rfl⟩ := three_of hu
  simp only [crs, List.cons.injEq, and_true] at hc
  obtain ⟨c1, c2, c3⟩ := hc
  have : i = 0 ∨ i = 1 ∨ i = 2 := by omega
  rcases this with rfl | rfl | rfl <;> simp only [List.map_cons, List.map_nil, List.cons.injEq, and_true, List.getElem!_cons_zero, List.getElem!_cons_succ] <;> (refine ⟨?_, ?_, ?_⟩ <;> grind)
theorem stab_nz {a f : List Int} (ha : a.length = 3) (hf : f.length = 4) (za : ∃ n ∈ a, n ≠ 0) (zf : ∃ n ∈ f, n ≠ 0) (hc : crs a (f.drop 1) = [0, 0, 0]) : ∃ n ∈ [(f.drop 1)[fnz a]!, a[fnz a]! * hd f], n ≠ 0 := by
  have hz := fnz_lt za
  have hp := par_of ha (tail_len hf) hc (i := fnz a) (by omega)
  by_cases h : hd f = 0
  · refine ⟨(f.drop 1)[fnz a]!, by simp, fun h0 => ?_⟩
    rw [h0] at hp
    have e0 : f.drop 1 = [0, 0, 0] := by
      have : (f.drop 1).map (a[fnz a]! * ·) = List.replicate 3 0 := by
        rw [← hp]
        obtain ⟨p, q, r, rfl⟩ := three_of ha
        simp
      exact sm_zero hz.2 this
    obtain ⟨w, x, y, z, rfl⟩ := four_of hf
    simp only [hd, List.headD_cons] at h
    simp only [List.drop_succ_cons, List.drop_zero] at e0
    rw [h, e0] at zf
    obtain ⟨n, hn, h1⟩ := zf
    simp at hn
    exact h1 hn
  · exact ⟨a[fnz a]! * hd f, by simp, Int.mul_ne_zero hz.2 h⟩
theorem abt_stab {a f : List Int} (ha : a.length = 3) (hf : f.length = 4) (za : ∃ n ∈ a, n ≠ 0) (zf : ∃ n ∈ f, n ≠ 0) (hc : crs a (f.drop 1) = [0, 0, 0]) : pln (abt a ((f.drop 1)[fnz a]!) (a[fnz a]! * hd f)) = pln f := by
  have hz := fnz_lt za
  have hp := par_of ha (tail_len hf) hc (i := fnz a) (by omega)
  unfold abt
  rw [hp]
  have e : (a[fnz a]! * hd f) :: (f.drop 1).map (a[fnz a]! * ·) = f.map (a[fnz a]! * ·) := by
    obtain ⟨w, x, y, z, rfl⟩ := four_of hf
    rfl
  rw [e, pln_smul hz.2 zf]
/-- the axis -/
def axD (f : List Int) : D := if (pln f).drop 1 = [0, 0, 0] then .non else rowD (prow ((pln f).drop 1))
def spAxis : SpZ := fun rs S W => match rs with
  | [.d (.tup xs)] => ∃ f : List Int, xs = f.map D.int ∧ f.length = 4 ∧ (∃ x ∈ f, x ≠ 0) ∧ (∀ x ∈ f, Bd 9000 x) ∧ W (.d (axD f)) S
  | _ => False
def rstQ (f : List Int) : Rat := ((hd f * hd f : Int) : Rat) / (nrmI f : Rat)
def spRest : SpZ := fun rs S W => match rs with
  | [.d (.tup xs)] => ∃ f : List Int, xs = f.map D.int ∧ f.length = 4 ∧ (∃ x ∈ f, x ≠ 0) ∧ (∀ x ∈ f, Bd 4400 x) ∧ W (.d (frD (rstQ f))) S
  | _ => False
/-- a way as a point -/
def wayP (a : List Int) : Pt := ((a[0]! : Int), (a[1]! : Int), (a[2]! : Int))
theorem wayP_D {p q r : Int} : ptD (wayP [p, q, r]) = .tup [.tup [.int p, .int 1], .tup [.int q, .int 1], .tup [.int r, .int 1]] := rfl
theorem rot_axis {a f : List Int} (ha : a.length = 3) (hf : f.length = 4) (zf : ∃ n ∈ f, n ≠ 0) (hc : crs a (f.drop 1) = [0, 0, 0]) : rot f (wayP a) = wayP a := by
  obtain ⟨w, x, y, z, rfl⟩ := four_of hf
  obtain ⟨p, q, r, rfl⟩ := three_of ha
  have hn := nrm_ne zf
  have hi := Rat.mul_inv_cancel _ hn
  simp only [List.drop_succ_cons, List.drop_zero, crs, List.cons.injEq, and_true] at hc
  obtain ⟨c1, c2, c3⟩ := hc
  have d1 : (q : Rat) * z - r * y = 0 := by exact_mod_cast c1
  have d2 : (r : Rat) * x - p * z = 0 := by exact_mod_cast c2
  have d3 : (p : Rat) * y - q * x = 0 := by exact_mod_cast c3
  simp only [rot, rotQ, wayP, List.getElem!_cons_zero, List.getElem!_cons_succ, Prod.mk.injEq]
  simp only [nrm] at *
  generalize ((w : Rat) * w + x * x + y * y + z * z)⁻¹ = i at *
  refine ⟨?_, ?_, ?_⟩ <;> grind
theorem way_ptb {n : Nat} {a : List Int} (ha : a.length = 3) (ba : ∀ x ∈ a, Bd n x) : PtB (n + 1) (wayP a) := by
  obtain ⟨p, q, r, rfl⟩ := three_of ha
  refine ⟨1, by decide, Bd.lit (by simpa using Nat.one_lt_two_pow (by omega)), fun x hx => ?_⟩
  have key : ∀ m : Int, Bd n m → ((m : Rat)).den ∣ 1 ∧ Bd (n + 1) ((m : Rat).num * ((1 / (m : Rat).den : Nat) : Int)) := fun m hm => ⟨by simp, by simpa using hm.mono (by omega)⟩
  simp only [wayP, List.getElem!_cons_zero, List.getElem!_cons_succ] at hx
  rcases hx with rfl | rfl | rfl
  · exact key _ (ba _ (by simp))
  · exact key _ (ba _ (by simp))
  · exact key _ (ba _ (by simp))
/-! a locked turn behind a taken back twist -/
theorem lock_hd {a f : List Int} (ha : a.length = 3) (hf : f.length = 4) (hl : lockT f a = true) (k l : Int) : hd (qmul f (qbk (abt a k l))) = 0 ∧ dt ((qmul f (qbk (abt a k l))).drop 1) a = 0 := by
  obtain ⟨w, x, y, z, rfl⟩ := four_of hf
  obtain ⟨p, q, r, rfl⟩ := three_of ha
  unfold lockT at hl
  rw [Bool.and_eq_true] at hl
  have h1 : w = 0 := by simpa [hd] using hl.1
  have h2 : p * x + q * y + r * z = 0 := by simpa [dt] using hl.2
  subst h1
  simp only [abt, qbk, qmul, hd, dt, List.map_cons, List.map_nil, List.headD_cons, List.drop_succ_cons, List.drop_zero]
  constructor <;> grind
theorem hd_pln {f : List Int} (hf : f.length = 4) (zf : ∃ n ∈ f, n ≠ 0) (h : hd f = 0) : hd (pln f) = 0 := by
  have l : (pln f).length = 4 := by rw [pln_len, hf]
  rw [pln_mul zf, hd_map l] at h
  rcases Int.mul_eq_zero.mp h with h | h
  · exact absurd h (fsgl_ne zf)
  · exact h
theorem dt_pln {a f : List Int} (ha : a.length = 3) (hf : f.length = 4) (zf : ∃ n ∈ f, n ≠ 0) (h : dt (f.drop 1) a = 0) : dt ((pln f).drop 1) a = 0 := by
  have l : (pln f).length = 4 := by rw [pln_len, hf]
  rw [pln_mul zf, drop_map, dt_smul_l (tail_len l) ha] at h
  rcases Int.mul_eq_zero.mp h with h | h
  · exact absurd h (fsgl_ne zf)
  · exact h
theorem dt_prow {a u : List Int} (ha : a.length = 3) (hu : u.length = 3) (zu : ∃ n ∈ u, n ≠ 0) (h : dt u a = 0) : dt (prow u) a = 0 := by
  have l : (prow u).length = 3 := by simp [prow, hu]
  have g := gl_pos zu
  rw [prow_mul zu, dt_smul_l l ha] at h
  rcases Int.mul_eq_zero.mp h with h | h
  · omega
  · exact h
theorem tail_nz {f : List Int} (hf : f.length = 4) (zf : ∃ n ∈ f, n ≠ 0) (h : hd f = 0) : ∃ n ∈ f.drop 1, n ≠ 0 := by
  obtain ⟨w, x, y, z, rfl⟩ := four_of hf
  obtain ⟨n, hn, h0⟩ := zf
  have h : w = 0 := h
  simp only [List.mem_cons, List.not_mem_nil, or_false] at hn
  rcases hn with rfl | hn
  · exact absurd h h0
  · exact ⟨n, by simpa using hn, h0⟩
theorem prow_bd {n : Nat} {u : List Int} (bu : ∀ x ∈ u, Bd n x) : ∀ x ∈ prow u, Bd n x := by
  intro x hx
  obtain ⟨y, hy, rfl⟩ := List.mem_map.mp hx
  exact (bu y hy).ediv
end Z

set_option Elab.async false
set_option linter.all false
set_option maxRecDepth 100000
set_option exponentiation.threshold 20000
/-! R10: fractions in general; mirrors. -/
namespace Z
open PySem PySem.Spec PyProof.Rows L2 RZ
theorem mul_ne {a b : Rat} (ha : a ≠ 0) (hb : b ≠ 0) : a * b ≠ 0 := fun h => (Rat.mul_eq_zero.mp h).elim ha hb
theorem min_made {p q : Rat} : ((p.num * (q.den : Int) - q.num * (p.den : Int) : Int) : Rat) / (((p.den : Int) * (q.den : Int) : Int) : Rat) = p - q := by
  obtain ⟨d1, z1, e1, f1⟩ := fr_parts p
  obtain ⟨d2, z2, e2, f2⟩ := fr_parts q
  simp only [Rat.intCast_sub, Rat.intCast_mul, e1, e2, f1, f2]
  have := Rat.mul_inv_cancel _ (mul_ne z1 z2)
  rw [Rat.div_def]
  generalize (d1 * d2)⁻¹ = j at this ⊢
  grind
theorem mul_made {p q : Rat} : ((p.num * q.num : Int) : Rat) / (((p.den : Int) * (q.den : Int) : Int) : Rat) = p * q := by
  obtain ⟨d1, z1, e1, f1⟩ := fr_parts p
  obtain ⟨d2, z2, e2, f2⟩ := fr_parts q
  simp only [Rat.intCast_mul, e1, e2, f1, f2]
  have := Rat.mul_inv_cancel _ (mul_ne z1 z2)
  rw [Rat.div_def]
  generalize (d1 * d2)⁻¹ = j at this ⊢
  grind
theorem BQ.add {m n : Nat} {p q : Rat} (hp : BQ m p) (hq : BQ n q) : BQ (m + n + 1) (p + q) := by
  rw [← add_made]
  exact BQ.made made_ne (((hp.1.mul hq.2).add (hq.1.mul hp.2)).mono (by omega)) ((hp.2.mul hq.2).mono (by omega))
theorem BQ.sub {m n : Nat} {p q : Rat} (hp : BQ m p) (hq : BQ n q) : BQ (m + n + 1) (p - q) := by
  rw [← min_made]
  exact BQ.made made_ne (((hp.1.mul hq.2).sub (hq.1.mul hp.2)).mono (by omega)) ((hp.2.mul hq.2).mono (by omega))
theorem BQ.mul {m n : Nat} {p q : Rat} (hp : BQ m p) (hq : BQ n q) : BQ (m + n) (p * q) := by
  rw [← mul_made]
  exact BQ.made made_ne (hp.1.mul hq.1) (hp.2.mul hq.2)
theorem BQ.neg {m : Nat} {p : Rat} (hp : BQ m p) : BQ m (-p) := ⟨by rw [Rat.neg_num]; exact hp.1.neg, by rw [Rat.neg_den]; exact hp.2⟩
theorem BQ.int {n : Nat} {x : Int} (h : Bd n x) : BQ (n + 1) (x : Rat) := ⟨by simpa using h.mono (by omega), by simpa using Bd.lit (n := n + 1) (i := 1) (by simpa using Nat.one_lt_two_pow (by omega))⟩
theorem frD_int (x : Int) : frD (x : Rat) = .tup [.int x, .int 1] := rfl
def spMin : SpZ := fun rs S W => match rs with
  | [.d x, .d y] => ∃ (p q : Rat) (m n : Nat), x = frD p ∧ y = frD q ∧ BQ m p ∧ BQ n q ∧ m + n ≤ 9000 ∧ W (.d (frD (p - q))) S
  | _ => False
def spMul : SpZ := fun rs S W => match rs with
  | [.d x, .d y] => ∃ (p q : Rat) (m n : Nat), x = frD p ∧ y = frD q ∧ BQ m p ∧ BQ n q ∧ m + n ≤ 9000 ∧ W (.d (frD (p * q))) S
  | _ => False
/-- the product of a point and a way -/
def dq (a : List Int) (p : Pt) : Rat := p.1 * (a[0]! : Int) + p.2.1 * (a[1]! : Int) + p.2.2 * (a[2]! : Int)
/-- the point in a mirror -/
def mirC (a : List Int) (p : Pt) : Rat := dq a p * ((2 : Int) / (dt a a : Int) : Rat)
def mirP (a : List Int) (p : Pt) : Pt := (p.1 - mirC a p * (a[0]! : Int), p.2.1 - mirC a p * (a[1]! : Int), p.2.2 - mirC a p * (a[2]! : Int))
theorem dq_bq {m n : Nat} {a : List Int} (ha : a.length = 3) (ba : ∀ x ∈ a, Bd n x) {p : Pt} (hp : ∀ q ∈ qsOf p, BQ m q) : BQ (3 * m + 3 * n + 5) (dq a p) := by
  obtain ⟨x, y, z, rfl⟩ := three_of ha
  simp only [List.mem_cons, List.not_mem_nil, or_false, forall_eq_or_imp, forall_eq, qsOf] at ba hp
  exact (((hp.1.mul (BQ.int ba.1)).add (hp.2.1.mul (BQ.int ba.2.1))).add (hp.2.2.mul (BQ.int ba.2.2))).mono (by omega)
theorem two_bq {n : Nat} {a : List Int} (ha : a.length = 3) (za : ∃ x ∈ a, x ≠ 0) (ba : ∀ x ∈ a, Bd n x) : BQ (2 * n + 2) ((2 : Int) / (dt a a : Int) : Rat) := by
  have := dt_pos ha za
  have b2 : Bd (2 * n + 2) 2 := Bd.mono (m := 2) (Bd.lit (by decide)) (by omega)
  exact BQ.made (by omega) b2 ((dt_bd ba ba).mono (by omega))
theorem mirC_bq {m n : Nat} {a : List Int} (ha : a.length = 3) (za : ∃ x ∈ a, x ≠ 0) (ba : ∀ x ∈ a, Bd n x) {p : Pt} (hp : ∀ q ∈ qsOf p, BQ m q) : BQ (3 * m + 5 * n + 7) (mirC a p) := ((dq_bq ha ba hp).mul (two_bq ha za ba)).mono (by omega)
theorem mir_bq {m n : Nat} {a : List Int} (ha : a.length = 3) (za : ∃ x ∈ a, x ≠ 0) (ba : ∀ x ∈ a, Bd n x) {p : Pt} (hp : ∀ q ∈ qsOf p, BQ m q) : ∀ q ∈ qsOf (mirP a p), BQ (4 * m + 6 * n + 9) q := by
  have hc := mirC_bq ha za ba hp
  obtain ⟨x, y, z, rfl⟩ := three_of ha
  simp only [List.mem_cons, List.not_mem_nil, or_false, forall_eq_or_imp, forall_eq, qsOf, mirP] at ba hp ⊢
  exact ⟨(hp.1.sub (hc.mul (BQ.int ba.1))).mono (by omega), (hp.2.1.sub (hc.mul (BQ.int ba.2.1))).mono (by omega), (hp.2.2.sub (hc.mul (BQ.int ba.2.2))).mono (by omega)⟩
def spMir : SpZ := fun rs S W => match rs with
  | [.d (.tup xs), .d pd] => ∃ (a : List Int) (p : Pt) (m n : Nat), xs = a.map D.int ∧ pd = ptD p ∧ a.length = 3 ∧ (∃ x ∈ a, x ≠ 0) ∧ (∀ x ∈ a, Bd n x) ∧ (∀ q ∈ qsOf p, BQ m q) ∧ 4 * m + 6 * n + 10 ≤ 8900 ∧ W (.d (ptD (mirP a p))) S
  | _ => False
/-- the law's own reckoning of it -/
theorem mir_cross {a : Int} {x y z p t : Rat} {L : Int} (hL : L ≠ 0) (top : Int) (ht : (top : Rat) = t * ((x.den : Int) * (y.den : Int) * (z.den : Int) : Int)) :
    ((p.num * ((x.den : Int) * (y.den : Int) * (z.den : Int)) * L - 2 * top * a * (p.den : Int) : Int) : Rat) / (((p.den : Int) * ((x.den : Int) * (y.den : Int) * (z.den : Int)) * L : Int) : Rat) = p - t * ((2 : Int) / (L : Int) : Rat) * (a : Int) := by
  obtain ⟨d, z0, e0, f0⟩ := fr_parts p
  obtain ⟨d1, z1, e1, f1⟩ := fr_parts x
  obtain ⟨d2, z2, e2, f2⟩ := fr_parts y
  obtain ⟨d3, z3, e3, f3⟩ := fr_parts z
  have hl : (L : Rat) ≠ 0 := by exact_mod_cast hL
  simp only [Rat.intCast_sub, Rat.intCast_mul, e0, f0, e1, e2, e3, ht]
  have i1 := Rat.mul_inv_cancel _ (mul_ne (mul_ne z0 (mul_ne (mul_ne z1 z2) z3)) hl)
  have i2 := Rat.mul_inv_cancel _ hl
  rw [Rat.div_def, Rat.div_def]
  generalize (d * (d1 * d2 * d3) * (L : Rat))⁻¹ = j at i1 ⊢
  generalize ((L : Rat))⁻¹ = k at i2 ⊢
  have c2 : ((2 : Int) : Rat) = 2 := rfl
  rw [c2]
  grind
theorem top_cross {a b c : Int} {x y z : Rat} : ((((0 * (x.den : Int) + a * x.num * 1) * (y.den : Int) + b * y.num * (1 * (x.den : Int))) * (z.den : Int) + c * z.num * (1 * (x.den : Int) * (y.den : Int)) : Int) : Rat) = (x * a + y * b + z * c) * ((x.den : Int) * (y.den : Int) * (z.den : Int) : Int) := by
  obtain ⟨d1, z1, e1, f1⟩ := fr_parts x
  obtain ⟨d2, z2, e2, f2⟩ := fr_parts y
  obtain ⟨d3, z3, e3, f3⟩ := fr_parts z
  simp only [Rat.intCast_add, Rat.intCast_mul, f1, f2, f3, e1, e2, e3]
  have c0 : ((0 : Int) : Rat) = 0 := rfl
  have c1 : ((1 : Int) : Rat) = 1 := rfl
  rw [c0, c1]
  grind
/-! mirrors as fours -/
def z4 (a : List Int) : List Int := 0 :: a
theorem z4_len {a : List Int} (ha : a.length = 3) : (z4 a).length = 4 := by simp [z4, ha]
theorem z4_nz {a : List Int} (za : ∃ x ∈ a, x ≠ 0) : ∃ x ∈ z4 a, x ≠ 0 := by
  obtain ⟨n, hn, h0⟩ := za
  exact ⟨n, List.mem_cons_of_mem _ hn, h0⟩
theorem z4_bd {n : Nat} {a : List Int} (ba : ∀ x ∈ a, Bd n x) : ∀ x ∈ z4 a, Bd n x := by
  intro x hx
  rcases List.mem_cons.mp hx with rfl | hx
  · exact Bd.zero
  · exact ba x hx
def spTwo : SpZ := fun rs S W => match rs with
  | [.d (.tup xs), .d (.tup ys)] => ∃ a b : List Int, xs = a.map D.int ∧ ys = b.map D.int ∧ a.length = 3 ∧ b.length = 3 ∧ (∃ x ∈ a, x ≠ 0) ∧ (∃ x ∈ b, x ≠ 0) ∧ (∀ x ∈ a, Bd 4400 x) ∧ (∀ x ∈ b, Bd 4400 x) ∧ W (.d (.tup ((pln (qmul (z4 b) (z4 a))).map D.int))) S
  | _ => False
def omir (f a : List Int) : D := if dt (f.drop 1) a = 0 then .tup (((pln (qmul f (z4 a))).drop 1).map D.int) else .non
def spOther : SpZ := fun rs S W => match rs with
  | [.d (.tup ys), .d (.tup xs)] => ∃ a f : List Int, xs = a.map D.int ∧ ys = f.map D.int ∧ a.length = 3 ∧ f.length = 4 ∧ (∃ x ∈ a, x ≠ 0) ∧ (∃ x ∈ f, x ≠ 0) ∧ (∀ x ∈ a, Bd 4400 x) ∧ (∀ x ∈ f, Bd 4400 x) ∧ W (.d (omir f a)) S
  | _ => False
end Z

set_option Elab.async false
set_option linter.all false
set_option maxRecDepth 100000
set_option exponentiation.threshold 20000
/-! R11: two mirrors turn. -/
namespace Z
open PySem PySem.Spec PyProof.Rows L2 RZ
theorem dtR_ne {x y z : Int} (h : ∃ n ∈ [x, y, z], n ≠ 0) : (x : Rat) * x + y * y + z * z ≠ 0 := by
  have := dt_pos (a := [x, y, z]) rfl h
  simp only [dt] at this
  intro h0
  have : x * x + y * y + z * z = 0 := by exact_mod_cast h0
  omega
theorem mir_mir {a : List Int} (ha : a.length = 3) (za : ∃ n ∈ a, n ≠ 0) (p : Pt) : mirP a (mirP a p) = p := by
  obtain ⟨x, y, z, rfl⟩ := three_of ha
  obtain ⟨p, q, r⟩ := p
  have hn := Rat.mul_inv_cancel _ (dtR_ne za)
  simp only [mirP, mirC, dq, dt, List.getElem!_cons_zero, List.getElem!_cons_succ, Rat.div_def, Rat.intCast_add, Rat.intCast_mul, Prod.mk.injEq]
  have c2 : ((2 : Int) : Rat) = 2 := rfl
  rw [c2]
  generalize ((x : Rat) * x + y * y + z * z)⁻¹ = i at *
  refine ⟨?_, ?_, ?_⟩ <;> grind
theorem mir_sq {a : List Int} (ha : a.length = 3) (za : ∃ n ∈ a, n ≠ 0) (p q : Pt) : sqD (mirP a p) (mirP a q) = sqD p q := by
  obtain ⟨x, y, z, rfl⟩ := three_of ha
  obtain ⟨p1, p2, p3⟩ := p
  obtain ⟨q1, q2, q3⟩ := q
  have hn := Rat.mul_inv_cancel _ (dtR_ne za)
  simp only [mirP, mirC, dq, dt, sqD, List.getElem!_cons_zero, List.getElem!_cons_succ, Rat.div_def, Rat.intCast_add, Rat.intCast_mul]
  have c2 : ((2 : Int) : Rat) = 2 := rfl
  rw [c2]
  generalize ((x : Rat) * x + y * y + z * z)⁻¹ = i at *
  grind
theorem mir_way {a : List Int} (ha : a.length = 3) (za : ∃ n ∈ a, n ≠ 0) : mirP a (wayP a) = wayP (a.map (0 - ·)) := by
  obtain ⟨x, y, z, rfl⟩ := three_of ha
  have hn := Rat.mul_inv_cancel _ (dtR_ne za)
  simp only [mirP, mirC, dq, dt, wayP, List.map_cons, List.map_nil, List.getElem!_cons_zero, List.getElem!_cons_succ, Rat.div_def, Rat.intCast_add, Rat.intCast_mul, Rat.intCast_sub, Prod.mk.injEq]
  have c2 : ((2 : Int) : Rat) = 2 := rfl
  have c0 : ((0 : Int) : Rat) = 0 := rfl
  rw [c2, c0]
  generalize ((x : Rat) * x + y * y + z * z)⁻¹ = i at *
  refine ⟨?_, ?_, ?_⟩ <;> grind
theorem mir_up {a b : List Int} (ha : a.length = 3) (hb : b.length = 3) : mirP a (wayP (crs a b)) = wayP (crs a b) := by
  obtain ⟨x, y, z, rfl⟩ := three_of ha
  obtain ⟨p, q, r, rfl⟩ := three_of hb
  have e : dq [x, y, z] (wayP (crs [x, y, z] [p, q, r])) = 0 := by
    simp only [dq, crs, wayP, List.getElem!_cons_zero, List.getElem!_cons_succ, Rat.intCast_sub, Rat.intCast_mul]
    grind
  have s : ∀ x : Rat, x - 0 = x := fun x => by grind
  simp only [mirP, mirC, e, Rat.zero_mul, s]
theorem mir_two {a b : List Int} (ha : a.length = 3) (hb : b.length = 3) (za : ∃ n ∈ a, n ≠ 0) (zb : ∃ n ∈ b, n ≠ 0) (p : Pt) : mirP b (mirP a p) = rot (pln (qmul (z4 b) (z4 a))) p := by
  rw [rot_pln (qmul_len (z4_len hb) (z4_len ha)) (qmul_nz (z4_len hb) (z4_len ha) (z4_nz zb) (z4_nz za)), rot_comp (z4_len ha) (z4_len hb)]
  have key : ∀ (a : List Int), a.length = 3 → (∃ n ∈ a, n ≠ 0) → ∀ p : Pt, rot (z4 a) p = ptNeg (mirP a p) := by
    intro a ha za p
    obtain ⟨x, y, z, rfl⟩ := three_of ha
    obtain ⟨p1, p2, p3⟩ := p
    have hn := Rat.mul_inv_cancel _ (dtR_ne za)
    have c2 : ((2 : Int) : Rat) = 2 := rfl
    have c0 : ((0 : Int) : Rat) = 0 := rfl
    have en : nrm ((0 : Int) : Rat) x y z = (x : Rat) * x + y * y + z * z := by unfold nrm; rw [c0]; grind
    simp only [z4, rot, rotQ, ptNeg, mirP, mirC, dq, dt, List.getElem!_cons_zero, List.getElem!_cons_succ, Rat.div_def, Rat.intCast_add, Rat.intCast_mul, Prod.mk.injEq]
    rw [en, c2, c0]
    generalize ((x : Rat) * x + y * y + z * z)⁻¹ = i at *
    refine ⟨?_, ?_, ?_⟩ <;> grind
  rw [key a ha za, rot_neg (z4_len hb), key b hb zb, ptNeg_neg]
theorem omir_two {a b : List Int} (ha : a.length = 3) (hb : b.length = 3) (za : ∃ n ∈ a, n ≠ 0) (zb : ∃ n ∈ b, n ≠ 0) : omir (pln (qmul (z4 b) (z4 a))) a = .tup (((pln (z4 b)).drop 1).map D.int) := by
  have la := z4_len ha
  have lb := z4_len hb
  have ql := qmul_len lb la
  have qz := qmul_nz lb la (z4_nz zb) (z4_nz za)
  have d0 : dt ((qmul (z4 b) (z4 a)).drop 1) a = 0 := by
    obtain ⟨x, y, z, rfl⟩ := three_of ha
    obtain ⟨p, q, r, rfl⟩ := three_of hb
    simp only [z4, qmul, dt, List.drop_succ_cons, List.drop_zero]; grind
  unfold omir
  rw [if_pos (dt_pln ha ql qz d0), pln_qmul_l ql la qz (z4_nz za)]
  have e : qmul (qmul (z4 b) (z4 a)) (z4 a) = (z4 b).map (-(dt a a) * ·) := by
    obtain ⟨x, y, z, rfl⟩ := three_of ha
    obtain ⟨p, q, r, rfl⟩ := three_of hb
    simp only [z4, qmul, dt, List.map_cons, List.map_nil, List.cons.injEq, and_true]
    refine ⟨?_, ?_, ?_, ?_⟩ <;> grind
  have := dt_pos ha za
  rw [e, pln_smul (by omega) (z4_nz zb)]
/-- the other mirror makes the turn -/
theorem omir_makes {a f : List Int} (ha : a.length = 3) (hf : f.length = 4) (za : ∃ n ∈ a, n ≠ 0) (zf : ∃ n ∈ f, n ≠ 0) (h0 : dt (f.drop 1) a = 0) :
    ∃ b : List Int, b.length = 3 ∧ (∃ n ∈ b, n ≠ 0) ∧ b = (pln (qmul f (z4 a))).drop 1 ∧ omir f a = .tup (b.map D.int) ∧ pln (qmul (z4 b) (z4 a)) = pln f := by
  have la := z4_len ha
  have ql := qmul_len hf la
  have qz := qmul_nz hf la zf (z4_nz za)
  have pl : (pln (qmul f (z4 a))).length = 4 := by rw [pln_len, ql]
  have pz := pln_nz qz
  have hq : hd (qmul f (z4 a)) = 0 := by
    obtain ⟨x, y, z, rfl⟩ := three_of ha
    obtain ⟨s, p, q, r, rfl⟩ := four_of hf
    simp only [dt, List.drop_succ_cons, List.drop_zero] at h0
    simp only [z4, qmul, hd, List.headD_cons]; grind
  have hp := hd_pln ql qz hq
  have eg : z4 ((pln (qmul f (z4 a))).drop 1) = pln (qmul f (z4 a)) := by
    obtain ⟨s, p, q, r, e⟩ := four_of pl
    rw [e] at hp ⊢
    simp only [hd, List.headD_cons] at hp
    rw [hp]; rfl
  refine ⟨_, tail_len pl, tail_nz pl pz hp, rfl, by unfold omir; rw [if_pos h0], ?_⟩
  rw [eg, pln_qmul_l ql la qz (z4_nz za)]
  have e : qmul (qmul f (z4 a)) (z4 a) = f.map (-(dt a a) * ·) := by
    obtain ⟨x, y, z, rfl⟩ := three_of ha
    obtain ⟨s, p, q, r, rfl⟩ := four_of hf
    simp only [z4, qmul, dt, List.map_cons, List.map_nil, List.cons.injEq, and_true]
    refine ⟨?_, ?_, ?_, ?_⟩ <;> grind
  have := dt_pos ha za
  rw [e, pln_smul (by omega) zf]
/-- points that are drawn near, ways of small numbers -/
def spPtN : SpZ := fun rs S W => match rs, S with
  | [.loc 0], [.lst [.int _, .int _]] => ∀ (p : Pt) (a b : Int), (∀ q ∈ qsOf p, BQ 31 q) → W (.d (ptD p)) [.lst [.int a, .int b]]
  | _, _ => False
def spWayS : SpZ := fun rs S W => match rs, S with
  | [.loc 0], [.lst [.int _, .int _]] => ∀ (ns : List Int) (a b : Int), ns.length = 3 → (∀ n ∈ ns, Bd 10 n) → (∃ n ∈ ns, n ≠ 0) → W (.d (.tup (ns.map D.int))) [.lst [.int a, .int b]]
  | _, _ => False
end Z

set_option Elab.async false
set_option linter.all false
set_option maxRecDepth 100000
set_option exponentiation.threshold 20000
/-! R12: screws. -/
namespace Z
open PySem PySem.Spec PyProof.Rows L2 RZ
def smP (k : Rat) (p : Pt) : Pt := (k * p.1, k * p.2.1, k * p.2.2)
def sbP (p q : Pt) : Pt := (p.1 - q.1, p.2.1 - q.2.1, p.2.2 - q.2.2)
def dP (p q : Pt) : Rat := p.1 * q.1 + p.2.1 * q.2.1 + p.2.2 * q.2.2
def xP (p q : Pt) : Pt := (p.2.1 * q.2.2 - p.2.2 * q.2.1, p.2.2 * q.1 - p.1 * q.2.2, p.1 * q.2.1 - p.2.1 * q.1)
theorem dq_dP (a : List Int) (p : Pt) : dq a p = dP (wayP a) p := by unfold dq dP wayP; grind
theorem dP_add (p q r : Pt) : dP p (ptAdd q r) = dP p q + dP p r := by simp only [dP, ptAdd]; grind
theorem dP_sb (p q r : Pt) : dP p (sbP q r) = dP p q - dP p r := by simp only [dP, sbP]; grind
theorem dP_sm (k : Rat) (p q : Pt) : dP p (smP k q) = k * dP p q := by simp only [dP, smP]; grind
theorem dP_neg (p q : Pt) : dP p (ptNeg q) = - dP p q := by simp only [dP, ptNeg]; grind
theorem sb_add (p q : Pt) : ptAdd (sbP p q) q = p := by
  obtain ⟨x, y, z⟩ := p
  simp only [sbP, ptAdd, Prod.mk.injEq]
  refine ⟨?_, ?_, ?_⟩ <;> grind
theorem rot_sm {a : List Int} (ha : a.length = 4) (k : Rat) (p : Pt) : rot a (smP k p) = smP k (rot a p) := by
  obtain ⟨w, x, y, z, rfl⟩ := four_of ha
  simp only [rot, rotQ, smP, Prod.mk.injEq]
  generalize (nrm (w : Rat) x y z)⁻¹ = i
  refine ⟨?_, ?_, ?_⟩ <;> grind
theorem rot_sb {a : List Int} (ha : a.length = 4) (p q : Pt) : rot a (sbP p q) = sbP (rot a p) (rot a q) := by
  obtain ⟨w, x, y, z, rfl⟩ := four_of ha
  simp only [rot, rotQ, sbP, Prod.mk.injEq]
  generalize (nrm (w : Rat) x y z)⁻¹ = i
  refine ⟨?_, ?_, ?_⟩ <;> grind
/-- the product with the axis stays -/
theorem dP_rot {a f : List Int} (ha : a.length = 3) (hf : f.length = 4) (zf : ∃ n ∈ f, n ≠ 0) (hc : crs a (f.drop 1) = [0, 0, 0]) (v : Pt) : dP (wayP a) (rot f v) = dP (wayP a) v := by
  obtain ⟨w, x, y, z, rfl⟩ := four_of hf
  obtain ⟨p, q, r, rfl⟩ := three_of ha
  have hn := nrm_ne zf
  have hi := Rat.mul_inv_cancel _ hn
  simp only [List.drop_succ_cons, List.drop_zero, crs, List.cons.injEq, and_true] at hc
  obtain ⟨c1, c2, c3⟩ := hc
  have d1 : (q : Rat) * z - r * y = 0 := by exact_mod_cast c1
  have d2 : (r : Rat) * x - p * z = 0 := by exact_mod_cast c2
  have d3 : (p : Rat) * y - q * x = 0 := by exact_mod_cast c3
  obtain ⟨u, v, o⟩ := v
  simp only [rot, rotQ, wayP, dP, List.getElem!_cons_zero, List.getElem!_cons_succ]
  simp only [nrm] at *
  have key : (p : Rat) * (u * (w * w + x * x - y * y - z * z) + v * (2 * (x * y - w * z)) + o * (2 * (x * z + w * y))) + q * (u * (2 * (x * y + w * z)) + v * (w * w - x * x + y * y - z * z) + o * (2 * (y * z - w * x))) + r * (u * (2 * (x * z - w * y)) + v * (2 * (y * z + w * x)) + o * (w * w - x * x - y * y + z * z)) = (p * u + q * v + r * o) * (w * w + x * x + y * y + z * z) := by grind
  generalize ((w : Rat) * w + x * x + y * y + z * z)⁻¹ = i at *
  grind
/-- a turn about a way, on what is upright to it -/
theorem rot_perp {a : List Int} (ha : a.length = 3) {k l : Int} (hz : ∃ n ∈ abt a k l, n ≠ 0) {v : Pt} (hv : dP (wayP a) v = 0) :
    ∃ i : Rat, ((l : Rat) * l + k * k * (dt a a : Int)) * i = 1 ∧ rot (abt a k l) v = smP i (ptAdd (smP (l * l - k * k * (dt a a : Int)) v) (smP (2 * l * k) (xP (wayP a) v))) := by
  obtain ⟨p, q, r, rfl⟩ := three_of ha
  have hn := nrm_ne (w := l) (x := k * p) (y := k * q) (z := k * r) hz
  have hi := Rat.mul_inv_cancel _ hn
  obtain ⟨u, v, o⟩ := v
  simp only [dP, wayP, List.getElem!_cons_zero, List.getElem!_cons_succ] at hv
  refine ⟨(nrm (l : Rat) ((k * p : Int) : Rat) ((k * q : Int) : Rat) ((k * r : Int) : Rat))⁻¹, ?_, ?_⟩
  · rw [← hi]
    simp only [nrm, dt, Rat.intCast_add, Rat.intCast_mul]
    grind
  · simp only [abt, rot, rotQ, List.map_cons, List.map_nil]
    generalize (nrm (l : Rat) ((k * p : Int) : Rat) ((k * q : Int) : Rat) ((k * r : Int) : Rat))⁻¹ = i
    simp only [smP, ptAdd, xP, wayP, dt, List.getElem!_cons_zero, List.getElem!_cons_succ, Rat.intCast_add, Rat.intCast_mul, Prod.mk.injEq]
    refine ⟨?_, ?_, ?_⟩ <;> grind
def ftP (a : List Int) (k l : Int) (r : Pt) : Pt := ptAdd (smP ((1 : Int) / (2 : Int) : Rat) r) (smP ((l : Rat) / ((2 * k * dt a a : Int) : Rat)) (xP (wayP a) r))
theorem ft_perp {a : List Int} (ha : a.length = 3) {k l : Int} {r : Pt} (hr : dP (wayP a) r = 0) : dP (wayP a) (ftP a k l r) = 0 := by
  unfold ftP
  rw [dP_add, dP_sm, dP_sm, hr]
  have : dP (wayP a) (xP (wayP a) r) = 0 := by simp only [dP, xP]; grind
  rw [this]; grind
theorem ft_moves {a : List Int} (ha : a.length = 3) (za : ∃ n ∈ a, n ≠ 0) {k l : Int} (hk : k ≠ 0) {r : Pt} (hr : dP (wayP a) r = 0) : ptAdd (rot (abt a k l) (ftP a k l r)) r = ftP a k l r := by
  have hz : ∃ n ∈ abt a k l, n ≠ 0 := abt_nz za ⟨k, by simp, hk⟩
  obtain ⟨i, hi, e⟩ := rot_perp ha hz (ft_perp ha (k := k) (l := l) hr)
  rw [e]
  have hL := dt_pos ha za
  have hkL : ((2 * k * dt a a : Int) : Rat) ≠ 0 := by
    have : 2 * k * dt a a ≠ 0 := Int.mul_ne_zero (Int.mul_ne_zero (by decide) hk) (by omega)
    exact_mod_cast this
  have hj := Rat.mul_inv_cancel _ hkL
  obtain ⟨p, q, s, rfl⟩ := three_of ha
  obtain ⟨u, v, o⟩ := r
  have ch : ((1 : Int) / (2 : Int) : Rat) * 2 = 1 := by decide +kernel
  simp only [ftP, Rat.div_def]
  simp only [Rat.div_def] at ch
  generalize ((1 : Int) : Rat) * ((2 : Int) : Rat)⁻¹ = h at *
  generalize ((2 * k * dt [p, q, s] [p, q, s] : Int) : Rat)⁻¹ = j at *
  simp only [dP, wayP, dt, List.getElem!_cons_zero, List.getElem!_cons_succ, Rat.intCast_add, Rat.intCast_mul] at *
  have c2 : ((2 : Int) : Rat) = 2 := rfl
  rw [c2] at *
  generalize hLL : (p : Rat) * p + q * q + s * s = L at *
  simp only [smP, ptAdd, xP, Prod.mk.injEq]
  refine ⟨?_, ?_, ?_⟩ <;> grind
theorem sq_sum_zero {x y z : Rat} (h : x * x + y * y + z * z = 0) : x = 0 ∧ y = 0 ∧ z = 0 := by
  have h1 : 0 ≤ x * x := by rcases Rat.le_total (a := 0) (b := x) with h | h; exact Rat.mul_nonneg h h; (have := Rat.mul_nonneg (show 0 ≤ -x by grind) (show 0 ≤ -x by grind); grind)
  have h2 : 0 ≤ y * y := by rcases Rat.le_total (a := 0) (b := y) with h | h; exact Rat.mul_nonneg h h; (have := Rat.mul_nonneg (show 0 ≤ -y by grind) (show 0 ≤ -y by grind); grind)
  have h3 : 0 ≤ z * z := by rcases Rat.le_total (a := 0) (b := z) with h | h; exact Rat.mul_nonneg h h; (have := Rat.mul_nonneg (show 0 ≤ -z by grind) (show 0 ≤ -z by grind); grind)
  exact ⟨rat_sq_zero (by grind), rat_sq_zero (by grind), rat_sq_zero (by grind)⟩
/-- only the middle stays, of what is upright to the axis -/
theorem perp_fix {a : List Int} (ha : a.length = 3) (za : ∃ n ∈ a, n ≠ 0) {k l : Int} (hk : k ≠ 0) {v : Pt} (hv : dP (wayP a) v = 0) (h : rot (abt a k l) v = v) : v = (0, 0, 0) := by
  have hz : ∃ n ∈ abt a k l, n ≠ 0 := abt_nz za ⟨k, by simp, hk⟩
  obtain ⟨i, hi, e⟩ := rot_perp ha hz hv
  rw [e] at h
  have hL := dt_pos ha za
  have hL0 : ((dt a a : Int) : Rat) ≠ 0 := by exact_mod_cast (by omega : dt a a ≠ 0)
  have hk0 : (k : Rat) ≠ 0 := by exact_mod_cast hk
  obtain ⟨x, y, z⟩ := v
  generalize ((dt a a : Int) : Rat) = L at *
  generalize wayP a = A at *
  simp only [smP, ptAdd, xP, Prod.mk.injEq] at h
  obtain ⟨h1, h2, h3⟩ := h
  have q : k * k * L * (x * x + y * y + z * z) = 0 := by grind
  have q2 : x * x + y * y + z * z = 0 := by
    rcases Rat.mul_eq_zero.mp q with q | q
    · exact absurd q (mul_ne (mul_ne hk0 hk0) hL0)
    · exact q
  obtain ⟨rfl, rfl, rfl⟩ := sq_sum_zero q2
  rfl
/-- the foot is the only point of that kind -/
theorem ft_only {a : List Int} (ha : a.length = 3) (za : ∃ n ∈ a, n ≠ 0) {k l : Int} (hk : k ≠ 0) {r c : Pt} (hr : dP (wayP a) r = 0) (hc : dP (wayP a) c = 0) (h : ptAdd (rot (abt a k l) c) r = c) : c = ftP a k l r := by
  have e1 := ft_moves ha za hk (l := l) hr
  have e2 := ft_perp ha (k := k) (l := l) hr
  generalize ftP a k l r = g at *
  have e3 : rot (abt a k l) (sbP c g) = sbP c g := by
    rw [rot_sb (abt_len ha k l)]
    obtain ⟨r1, r2, r3⟩ := r
    obtain ⟨c1, c2, c3⟩ := c
    obtain ⟨g1, g2, g3⟩ := g
    generalize rot (abt a k l) (c1, c2, c3) = u at *
    generalize rot (abt a k l) (g1, g2, g3) = v at *
    simp only [ptAdd, Prod.mk.injEq] at h e1
    simp only [sbP, Prod.mk.injEq]
    refine ⟨?_, ?_, ?_⟩ <;> grind
  have e4 := perp_fix ha za hk (v := sbP c g) (by rw [dP_sb, hc, e2]; grind) e3
  obtain ⟨c1, c2, c3⟩ := c
  obtain ⟨g1, g2, g3⟩ := g
  simp only [sbP, Prod.mk.injEq] at e4 ⊢
  refine ⟨?_, ?_, ?_⟩ <;> grind
/-! ### the screw of a motion -/
def axI (f : List Int) : List Int := prow ((pln f).drop 1)
def ksI (f : List Int) : Int := ((pln f).drop 1)[fnz (axI f)]!
def lsI (f : List Int) : Int := (axI f)[fnz (axI f)]! * hd (pln f)
def kI (f : List Int) : Int := (pset (ksI f) (lsI f))[0]!
def lI (f : List Int) : Int := (pset (ksI f) (lsI f))[1]!
def slQ (m : Mo) : Rat := dq (axI m.1) m.2 * ((1 : Int) / (dt (axI m.1) (axI m.1) : Int) : Rat)
def rsP (m : Mo) : Pt := sbP m.2 (smP (slQ m) (wayP (axI m.1)))
def fooP (m : Mo) : Pt := ftP (axI m.1) (kI m.1) (lI m.1) (rsP m)
def scrD (m : Mo) : D := if (pln m.1).drop 1 = [0, 0, 0] then .tup [.str (PySem.Str.ofString "slide"), ptD m.2] else .tup [.str (PySem.Str.ofString "screw"), .tup ((axI m.1).map D.int), ptD (fooP m), frD (slQ m), .tup [.int (kI m.1), .int (lI m.1)]]
/-- what is known of the screw -/
structure Scr (f : List Int) : Prop where
  al : (axI f).length = 3
  az : ∃ n ∈ axI f, n ≠ 0
  k0 : kI f ≠ 0
  ab : pln (abt (axI f) (kI f) (lI f)) = pln f
  par : crs (axI f) ((pln f).drop 1) = [0, 0, 0]
theorem scr_of {f : List Int} (hf : f.length = 4) (zf : ∃ n ∈ f, n ≠ 0) (h : (pln f).drop 1 ≠ [0, 0, 0]) : Scr f := by
  have pl : (pln f).length = 4 := by rw [pln_len, hf]
  have pz := pln_nz zf
  have tl := tail_len pl
  have tz := nz_three tl h
  have al : (axI f).length = 3 := by unfold axI prow; rw [List.length_map, tl]
  have az : ∃ n ∈ axI f, n ≠ 0 := prow_nz tz
  have par : crs (axI f) ((pln f).drop 1) = [0, 0, 0] := by
    have e := prow_mul tz
    show crs (axI f) _ = _
    rw [e]
    show crs (axI f) ((axI f).map _) = _
    rw [crs_smul al al]
    obtain ⟨p, q, r, ea⟩ := three_of al
    rw [ea]
    simp only [crs, List.map_cons, List.map_nil, List.cons.injEq, and_true]
    refine ⟨?_, ?_, ?_⟩ <;> grind
  have hs := stab_nz al pl az pz par
  have he := abt_stab al pl az pz par
  have hp := pln_abt_pset az hs
  refine ⟨al, az, fun h0 => h ?_, ?_, par⟩
  · have e : pln (abt (axI f) (kI f) (lI f)) = pln f := by
      show pln (abt (axI f) ((pset (ksI f) (lsI f))[0]!) ((pset (ksI f) (lsI f))[1]!)) = _
      rw [show pset (ksI f) (lsI f) = pset (((pln f).drop 1)[fnz (axI f)]!) ((axI f)[fnz (axI f)]! * hd (pln f)) from rfl, hp, he, pln_pln zf]
    rw [← e, h0]
    obtain ⟨p, q, r, ea⟩ := three_of al
    rw [ea]
    simp only [abt, pln, List.map_cons, List.map_nil, List.drop_succ_cons, List.drop_zero, Int.zero_mul, Int.zero_ediv, Int.mul_zero]
  · show pln (abt (axI f) ((pset (ksI f) (lsI f))[0]!) ((pset (ksI f) (lsI f))[1]!)) = _
    rw [show pset (ksI f) (lsI f) = pset (((pln f).drop 1)[fnz (axI f)]!) ((axI f)[fnz (axI f)]! * hd (pln f)) from rfl, hp, he, pln_pln zf]
theorem Scr.nz {f : List Int} (h : Scr f) : ∃ n ∈ abt (axI f) (kI f) (lI f), n ≠ 0 := abt_nz h.az ⟨kI f, by simp, h.k0⟩
theorem Scr.rot {f : List Int} (h : Scr f) (hf : f.length = 4) (zf : ∃ n ∈ f, n ≠ 0) (p : Pt) : Z.rot (abt (axI f) (kI f) (lI f)) p = Z.rot f p := by
  rw [← rot_pln (abt_len h.al _ _) h.nz, h.ab, rot_pln hf zf]
theorem Scr.up {m : Mo} (h : Scr m.1) : dP (wayP (axI m.1)) (rsP m) = 0 := by
  have hL := dt_pos h.al h.az
  unfold rsP slQ
  rw [dP_sb, dP_sm, dq_dP]
  have hL0 : ((dt (axI m.1) (axI m.1) : Int) : Rat) ≠ 0 := by exact_mod_cast (by omega : dt (axI m.1) (axI m.1) ≠ 0)
  have hi := Rat.mul_inv_cancel _ hL0
  have e : dP (wayP (axI m.1)) (wayP (axI m.1)) = ((dt (axI m.1) (axI m.1) : Int) : Rat) := by
    obtain ⟨p, q, r, ea⟩ := three_of h.al
    rw [ea]
    simp only [dP, wayP, dt, List.getElem!_cons_zero, List.getElem!_cons_succ, Rat.intCast_add, Rat.intCast_mul]
  have c1 : ((1 : Int) : Rat) = 1 := rfl
  rw [e, Rat.div_def, c1]
  generalize ((dt (axI m.1) (axI m.1) : Int) : Rat)⁻¹ = i at *
  grind
end Z

set_option Elab.async false
set_option linter.all false
set_option maxRecDepth 100000
set_option exponentiation.threshold 20000
/-! R13: sizes over one bottom; the promises of screws. -/
namespace Z
open PySem PySem.Spec PyProof.Rows L2 RZ
structure Tp (n : Nat) (B : Int) (q : Rat) : Prop where
  ex : ∃ t : Int, q = (t : Rat) / (B : Rat) ∧ Bd n t
theorem Tp.mono {m n : Nat} {B : Int} {q : Rat} (h : Tp m B q) (k : m ≤ n) : Tp n B q := let ⟨t, e, b⟩ := h.ex; ⟨t, e, b.mono k⟩
theorem Tp.add {m n : Nat} {B : Int} {p q : Rat} (hp : Tp m B p) (hq : Tp n B q) : Tp (max m n + 1) B (p + q) := by
  obtain ⟨t, e1, b1⟩ := hp.ex
  obtain ⟨u, e2, b2⟩ := hq.ex
  refine ⟨t + u, ?_, b1.add b2⟩
  rw [e1, e2, Rat.intCast_add]; simp only [Rat.div_def]; grind
theorem Tp.sub {m n : Nat} {B : Int} {p q : Rat} (hp : Tp m B p) (hq : Tp n B q) : Tp (max m n + 1) B (p - q) := by
  obtain ⟨t, e1, b1⟩ := hp.ex
  obtain ⟨u, e2, b2⟩ := hq.ex
  refine ⟨t - u, ?_, b1.sub b2⟩
  rw [e1, e2, Rat.intCast_sub]; simp only [Rat.div_def]; grind
theorem Tp.muli {m n : Nat} {B : Int} {p : Rat} (hp : Tp m B p) {c : Int} (hc : Bd n c) : Tp (m + n) B (p * (c : Rat)) := by
  obtain ⟨t, e1, b1⟩ := hp.ex
  refine ⟨t * c, ?_, b1.mul hc⟩
  rw [e1, Rat.intCast_mul]; simp only [Rat.div_def]; grind
theorem Tp.frac {m n : Nat} {B c t : Int} {p : Rat} (hp : Tp m B p) (ht : Bd n t) : Tp (m + n) (B * c) (p * ((t : Rat) / (c : Rat))) := by
  obtain ⟨u, e1, b1⟩ := hp.ex
  refine ⟨u * t, ?_, b1.mul ht⟩
  rw [e1, Rat.intCast_mul, Rat.intCast_mul]; simp only [Rat.div_def, Rat.inv_mul_rev]; grind
theorem Tp.up {m n : Nat} {B c : Int} {p : Rat} (hp : Tp m B p) (hc : Bd n c) (h0 : c ≠ 0) : Tp (m + n) (B * c) p := by
  have h := hp.frac (t := c) (c := c) hc
  have e : (c : Rat) / (c : Rat) = 1 := by
    rw [Rat.div_def]; exact Rat.mul_inv_cancel _ (by exact_mod_cast h0)
  rw [e, Rat.mul_one] at h
  exact h
theorem Tp.bq {n : Nat} {B : Int} {q : Rat} (h : Tp n B q) (h0 : B ≠ 0) (hB : Bd n B) : BQ n q := by
  obtain ⟨t, e, b⟩ := h.ex
  rw [e]; exact BQ.made h0 b hB
theorem Tp.abs {n : Nat} {B : Int} {q : Rat} (h : Tp n B q) : Tp n (B.natAbs : Int) q := by
  obtain ⟨t, e, b⟩ := h.ex
  by_cases hB : 0 ≤ B
  · have : (B.natAbs : Int) = B := by omega
    rw [this]; exact ⟨t, e, b⟩
  · have : (B.natAbs : Int) = -B := by omega
    refine ⟨-t, ?_, b.neg⟩
    rw [this, e, ← Rat.divInt_eq_div, ← Rat.divInt_eq_div, Rat.neg_divInt_neg]
theorem PtB.of_tp {n : Nat} {B : Int} {p : Pt} (h0 : B ≠ 0) (hB : Bd n B) (h : ∀ q ∈ qsOf p, Tp n B q) : PtB n p := by
  refine ptb_iff.mpr ⟨B.natAbs, by omega, hB.abs, fun q hq => ?_⟩
  obtain ⟨t, e, b⟩ := (h q hq).abs.ex
  obtain ⟨k1, k2⟩ := den_dvd (by omega) e
  exact ⟨k1, by rw [k2]; exact b⟩
theorem PtB.tp {n : Nat} {p : Pt} (h : PtB n p) : ∃ B : Int, B ≠ 0 ∧ Bd n B ∧ ∀ q ∈ qsOf p, Tp n B q := by
  obtain ⟨L, h0, h1, h2⟩ := ptb_iff.mp h
  refine ⟨L, by omega, h1, fun q hq => ⟨topOf L q, ?_, (h2 q hq).2⟩⟩
  have e := topOf_eq h0 (h2 q hq).1
  have hL : (L : Rat) ≠ 0 := by exact_mod_cast (by omega : L ≠ 0)
  rw [e, Rat.div_def, show (((L : Nat) : Int) : Rat) = (L : Rat) from rfl, Rat.mul_assoc, Rat.mul_inv_cancel _ hL, Rat.mul_one]
theorem three_mem {α : Type} {P : α → Prop} {x y z : α} (h : ∀ q ∈ [x, y, z], P q) : P x ∧ P y ∧ P z := ⟨h x (by simp), h y (by simp), h z (by simp)⟩
theorem axI_bd {n : Nat} {f : List Int} (zf : ∃ x ∈ f, x ≠ 0) (bf : ∀ x ∈ f, Bd n x) : ∀ x ∈ axI f, Bd n x := prow_bd (drop_bd (pln_bds zf bf))
theorem at_bd {n : Nat} {a : List Int} (ba : ∀ x ∈ a, Bd n x) {i : Nat} (h : i < a.length) : Bd n a[i]! := by
  rw [getElem!_pos a i h]
  exact ba _ (List.getElem_mem _)
theorem Scr.ks {n : Nat} {f : List Int} (h : Scr f) (hf : f.length = 4) (zf : ∃ x ∈ f, x ≠ 0) (bf : ∀ x ∈ f, Bd n x) : (∃ x ∈ [ksI f, lsI f], x ≠ 0) ∧ Bd n (ksI f) ∧ Bd (n + n) (lsI f) ∧ Bd (n + n) (kI f) ∧ Bd (n + n) (lI f) := by
  have pl : (pln f).length = 4 := by rw [pln_len, hf]
  have pb := pln_bds zf bf
  have i3 := (fnz_lt h.az).1
  rw [h.al] at i3
  have b1 : Bd n (ksI f) := at_bd (drop_bd pb) (by rw [tail_len pl]; exact i3)
  have b2 : Bd n (axI f)[fnz (axI f)]! := at_bd (axI_bd zf bf) (by rw [h.al]; exact i3)
  have b3 : Bd n (hd (pln f)) := by
    obtain ⟨w, x, y, z, e⟩ := four_of pl
    rw [e] at pb ⊢
    exact pb w (by simp)
  have b4 : Bd (n + n) (lsI f) := b2.mul b3
  have hz : ∃ x ∈ [ksI f, lsI f], x ≠ 0 := stab_nz h.al pl h.az (pln_nz zf) h.par
  have b5 := pset_bd hz (b1.mono (by omega)) b4
  exact ⟨hz, b1, b4, b5 _ (by show (pset _ _)[0]! ∈ _; simp [pset_eq]), b5 _ (by show (pset _ _)[1]! ∈ _; simp [pset_eq])⟩
theorem Scr.slTp {n : Nat} {m : Mo} {B : Int} (h : Scr m.1) (zf : ∃ x ∈ m.1, x ≠ 0) (bf : ∀ x ∈ m.1, Bd 200 x) (hp : ∀ q ∈ qsOf m.2, Tp n B q) : Tp (n + 203) (B * dt (axI m.1) (axI m.1)) (slQ m) := by
  have ba := axI_bd zf bf
  have al := h.al
  obtain ⟨p, q, r, e⟩ := three_of al
  have one : Bd 1 1 := Bd.lit (by decide)
  obtain ⟨h1, h2, h3⟩ := three_mem hp
  rw [e] at ba
  simp only [List.mem_cons, List.not_mem_nil, or_false, forall_eq_or_imp, forall_eq] at ba
  unfold slQ
  refine Tp.mono (Tp.frac (m := n + 202) (n := 1) ?_ one) (by omega)
  rw [e]
  exact ((((h1.muli ba.1).add (h2.muli ba.2.1)).add (h3.muli ba.2.2))).mono (by omega)
theorem bdt_mul {m n : Nat} {B : Int} {a : List Int} (hB : Bd m B) (ba : ∀ x ∈ a, Bd n x) : Bd (m + (n + n + 2)) (B * dt a a) := hB.mul (dt_bd ba ba)
theorem Scr.rsTp {n : Nat} {m : Mo} {B : Int} (h : Scr m.1) (zf : ∃ x ∈ m.1, x ≠ 0) (bf : ∀ x ∈ m.1, Bd 200 x) (hp : ∀ q ∈ qsOf m.2, Tp n B q) : ∀ q ∈ qsOf (rsP m), Tp (n + 404) (B * dt (axI m.1) (axI m.1)) q := by
  have hs := h.slTp zf bf hp
  have ba := axI_bd zf bf
  have hL := dt_pos h.al h.az
  have bL := dt_bd ba ba
  obtain ⟨p, q, r, e⟩ := three_of h.al
  have ba' := ba
  rw [e] at ba'
  simp only [List.mem_cons, List.not_mem_nil, or_false, forall_eq_or_imp, forall_eq] at ba'
  obtain ⟨h1, h2, h3⟩ := three_mem hp
  have e0 : (axI m.1)[0]! = p := by rw [e]; rfl
  have e1 : (axI m.1)[1]! = q := by rw [e]; rfl
  have e2 : (axI m.1)[2]! = r := by rw [e]; rfl
  simp only [qsOf, rsP, sbP, smP, wayP, e0, e1, e2, List.mem_cons, List.not_mem_nil, or_false, forall_eq_or_imp, forall_eq]
  exact ⟨((h1.up bL (by omega)).sub (hs.muli ba'.1)).mono (by omega), ((h2.up bL (by omega)).sub (hs.muli ba'.2.1)).mono (by omega), ((h3.up bL (by omega)).sub (hs.muli ba'.2.2)).mono (by omega)⟩
theorem asTp {n : Nat} {B : Int} {a : List Int} (la : a.length = 3) (ba : ∀ x ∈ a, Bd 200 x) {r : Pt} (hr : ∀ q ∈ qsOf r, Tp n B q) : ∀ q ∈ qsOf (xP (wayP a) r), Tp (n + 201) B q := by
  obtain ⟨p, q, s, rfl⟩ := three_of la
  simp only [List.mem_cons, List.not_mem_nil, or_false, forall_eq_or_imp, forall_eq] at ba
  obtain ⟨h1, h2, h3⟩ := three_mem hr
  have c : ∀ x y : Rat, x * y = y * x := fun x y => Rat.mul_comm x y
  simp only [qsOf, xP, wayP, List.getElem!_cons_zero, List.getElem!_cons_succ, List.mem_cons, List.not_mem_nil, or_false, forall_eq_or_imp, forall_eq]
  rw [c q, c s, c s, c p, c p, c q]
  exact ⟨((h3.muli ba.2.1).sub (h2.muli ba.2.2)).mono (by omega), ((h1.muli ba.2.2).sub (h3.muli ba.1)).mono (by omega), ((h2.muli ba.1).sub (h1.muli ba.2.1)).mono (by omega)⟩
/-- the foot, over one bottom -/
theorem ftTp {n : Nat} {B k l : Int} {a : List Int} (la : a.length = 3) (za : ∃ x ∈ a, x ≠ 0) (ba : ∀ x ∈ a, Bd 200 x) (bk : Bd 400 k) (bl : Bd 400 l) (hk : k ≠ 0) {r : Pt} (hr : ∀ q ∈ qsOf r, Tp n B q) : ∀ q ∈ qsOf (ftP a k l r), Tp (n + 804) (B * (2 * k * dt a a)) q := by
  have hs := asTp la ba hr
  have hL := dt_pos la za
  have bL := dt_bd ba ba
  have b2 : Bd 2 2 := Bd.lit (by decide)
  have bkl : Bd (400 + 402) (k * dt a a) := bk.mul bL
  have hkL : k * dt a a ≠ 0 := Int.mul_ne_zero hk (by omega)
  have e : ∀ x : Rat, ((1 : Int) / (2 : Int) : Rat) * x = x * (((k * dt a a : Int) : Rat) / ((2 * k * dt a a : Int) : Rat)) := fun x => by
    have h1 : ((k * dt a a : Int) : Rat) ≠ 0 := by exact_mod_cast hkL
    have h2 : ((2 * k * dt a a : Int) : Rat) = 2 * ((k * dt a a : Int) : Rat) := by rw [Int.mul_assoc, Rat.intCast_mul]; rfl
    have ch : ((1 : Int) / (2 : Int) : Rat) * 2 = 1 := by decide +kernel
    have i1 := Rat.mul_inv_cancel _ (mul_ne (show (2 : Rat) ≠ 0 by decide) h1)
    rw [h2, Rat.div_def _ (2 * _)]
    generalize ((1 : Int) / (2 : Int) : Rat) = h at *
    generalize ((k * dt a a : Int) : Rat) = u at *
    generalize (2 * u)⁻¹ = i at *
    grind
  obtain ⟨r1, r2, r3⟩ := r
  obtain ⟨h1, h2, h3⟩ := three_mem hr
  obtain ⟨s1, s2, s3⟩ := three_mem hs
  simp only [qsOf, ftP, ptAdd, smP, List.mem_cons, List.not_mem_nil, or_false, forall_eq_or_imp, forall_eq]
  rw [e, e, e, Rat.mul_comm ((l : Rat) / _), Rat.mul_comm ((l : Rat) / _), Rat.mul_comm ((l : Rat) / _)]
  exact ⟨((h1.frac bkl).add (s1.frac bl)).mono (by omega), ((h2.frac bkl).add (s2.frac bl)).mono (by omega), ((h3.frac bkl).add (s3.frac bl)).mono (by omega)⟩
theorem fooB {n : Nat} {m : Mo} (hf : m.1.length = 4) (h : Scr m.1) (zf : ∃ x ∈ m.1, x ≠ 0) (bf : ∀ x ∈ m.1, Bd 200 x) (hp : PtB n m.2) : PtB (n + 1208) (fooP m) := by
  obtain ⟨B, hB, bB, ht⟩ := hp.tp
  have ba := axI_bd zf bf
  have hL := dt_pos h.al h.az
  obtain ⟨_, _, _, bk, bl⟩ := h.ks hf zf bf
  have r := h.rsTp zf bf ht
  have b2 : Bd 2 2 := Bd.lit (by decide)
  have bL := dt_bd ba ba
  refine PtB.of_tp (B := B * dt (axI m.1) (axI m.1) * (2 * kI m.1 * dt (axI m.1) (axI m.1))) ?_ ?_ fun q hq => (ftTp h.al h.az ba bk bl h.k0 r q hq).mono (by omega)
  · exact Int.mul_ne_zero (Int.mul_ne_zero hB (by omega)) (Int.mul_ne_zero (Int.mul_ne_zero (by decide) h.k0) (by omega))
  · exact ((bB.mul bL).mul ((b2.mul bk).mul bL)).mono (by omega)
theorem dot_made7 {x y z u v w : Rat} : ((((0 * (x.den : Int) * (u.den : Int) + x.num * u.num * 1) * (y.den : Int) * (v.den : Int) + y.num * v.num * (1 * (x.den : Int) * (u.den : Int))) * (z.den : Int) * (w.den : Int) + z.num * w.num * (1 * (x.den : Int) * (u.den : Int) * (y.den : Int) * (v.den : Int)) : Int) : Rat) / ((1 * (x.den : Int) * (u.den : Int) * (y.den : Int) * (v.den : Int) * (z.den : Int) * (w.den : Int) : Int) : Rat) = x * u + y * v + z * w := by
  obtain ⟨d1, z1, e1, f1⟩ := fr_parts x
  obtain ⟨d2, z2, e2, f2⟩ := fr_parts y
  obtain ⟨d3, z3, e3, f3⟩ := fr_parts z
  obtain ⟨g1, w1, i1, j1⟩ := fr_parts u
  obtain ⟨g2, w2, i2, j2⟩ := fr_parts v
  obtain ⟨g3, w3, i3, j3⟩ := fr_parts w
  simp only [Rat.intCast_add, Rat.intCast_mul, e1, e2, e3, f1, f2, f3, i1, i2, i3, j1, j2, j3]
  have c0 : ((0 : Int) : Rat) = 0 := rfl
  have c1 : ((1 : Int) : Rat) = 1 := rfl
  rw [c0, c1]
  have hD := mul_ne (mul_ne (mul_ne (mul_ne (mul_ne (mul_ne (show (1 : Rat) ≠ 0 by decide) z1) w1) z2) w2) z3) w3
  have e : ((0 * d1 * g1 + x * d1 * (u * g1) * 1) * d2 * g2 + y * d2 * (v * g2) * (1 * d1 * g1)) * d3 * g3 + z * d3 * (w * g3) * (1 * d1 * g1 * d2 * g2) = (x * u + y * v + z * w) * (1 * d1 * g1 * d2 * g2 * d3 * g3) := by
    clear hD e1 e2 e3 f1 f2 f3 i1 i2 i3 j1 j2 j3 z1 z2 z3 w1 w2 w3
    grind
  rw [e, Rat.div_def, Rat.mul_assoc, Rat.mul_inv_cancel _ hD, Rat.mul_one]
def spScr : SpZ := fun rs S W => match rs with
  | [.d x] => ∃ m : Mo, x = moD m ∧ m.1.length = 4 ∧ (∃ x ∈ m.1, x ≠ 0) ∧ (∀ x ∈ m.1, Bd 200 x) ∧ PtB 1000 m.2 ∧ W (.d (scrD m)) S
  | _ => False
def scwD (a : List Int) (p : Pt) (s : Rat) (k l : Int) : D := moD (pln (abt a k l), ptAdd (sbP p (rot (pln (abt a k l)) p)) (smP s (wayP a)))
def spScw : SpZ := fun rs S W => match rs with
  | [.d (.tup xs), .d pd, .d sd, .d (.tup ys)] => ∃ (a : List Int) (p : Pt) (s : Rat) (k l : Int), xs = a.map D.int ∧ pd = ptD p ∧ sd = frD s ∧ ys = [.int k, .int l] ∧ a.length = 3 ∧ (∃ x ∈ a, x ≠ 0) ∧ (∃ n ∈ [k, l], n ≠ 0) ∧ (∀ x ∈ a, Bd 200 x) ∧ Bd 400 k ∧ Bd 400 l ∧ PtB 3000 p ∧ BQ 1500 s ∧ W (.d (scwD a p s k l)) S
  | _ => False
/-- a way between points -/
def spBtw : SpZ := fun rs S W => match rs with
  | [.d x, .d y] => ∃ (p q : Pt) (m n : Nat), x = ptD p ∧ y = ptD q ∧ (∀ z ∈ qsOf p, BQ m z) ∧ (∀ z ∈ qsOf q, BQ n z) ∧ m + n ≤ 9000 ∧ W (.d (ptD (sbP q p))) S
  | _ => False
def spTimesW : SpZ := fun rs S W => match rs with
  | [.d x, .d (.tup ys)] => ∃ (s : Rat) (a : List Int) (m n : Nat), x = frD s ∧ ys = a.map D.int ∧ a.length = 3 ∧ BQ m s ∧ (∀ z ∈ a, Bd n z) ∧ m + n ≤ 8990 ∧ W (.d (ptD (smP s (wayP a)))) S
  | _ => False
end Z

set_option Elab.async false
set_option linter.all false
set_option maxRecDepth 100000
set_option exponentiation.threshold 20000
/-! R14: what screws do. -/
namespace Z
open PySem PySem.Spec PyProof.Rows L2 RZ
theorem pln_still {f : List Int} (hf : f.length = 4) (zf : ∃ n ∈ f, n ≠ 0) (h : (pln f).drop 1 = [0, 0, 0]) : pln f = [1, 0, 0, 0] := by
  have pl : (pln f).length = 4 := by rw [pln_len, hf]
  have pz := pln_nz zf
  have pp := pln_pln zf
  obtain ⟨w, x, y, z, e⟩ := four_of pl
  rw [e] at h pp pz ⊢
  simp only [List.drop_succ_cons, List.drop_zero, List.cons.injEq, and_true] at h
  obtain ⟨rfl, rfl, rfl⟩ := h
  have hw : w ≠ 0 := by
    rintro rfl
    obtain ⟨n, hn, h0⟩ := pz
    simp at hn; exact h0 hn
  rw [← pp, pln_one hw]
theorem sb_move {u d p v : Pt} (h : ptAdd u d = ptAdd p v) : ptAdd (sbP p u) v = d := by
  obtain ⟨d1, d2, d3⟩ := d
  obtain ⟨u1, u2, u3⟩ := u
  obtain ⟨p1, p2, p3⟩ := p
  obtain ⟨v1, v2, v3⟩ := v
  simp only [ptAdd, sbP, Prod.mk.injEq] at h ⊢
  refine ⟨?_, ?_, ?_⟩ <;> grind
section
variable {m : Mo} (hf : m.1.length = 4) (zf : ∃ n ∈ m.1, n ≠ 0) (sc : Scr m.1)
include hf zf sc
theorem scr_axis : rot m.1 (wayP (axI m.1)) = wayP (axI m.1) := by
  have pl : (pln m.1).length = 4 := by rw [pln_len, hf]
  have := rot_axis sc.al pl (pln_nz zf) sc.par
  rwa [rot_pln hf zf] at this
theorem scr_up : dP (wayP (axI m.1)) (fooP m) = 0 := ft_perp sc.al sc.up
theorem scr_ft : ptAdd (rot m.1 (fooP m)) (rsP m) = fooP m := by
  have := ft_moves sc.al sc.az sc.k0 (l := lI m.1) sc.up
  rwa [sc.rot hf zf] at this
theorem scr_mov : mov m (fooP m) = ptAdd (fooP m) (smP (slQ m) (wayP (axI m.1))) := by
  have e := scr_ft hf zf sc
  have e2 : ptAdd (rsP m) (smP (slQ m) (wayP (axI m.1))) = m.2 := sb_add _ _
  show ptAdd (rot m.1 (fooP m)) m.2 = _
  conv => lhs; rw [← e2, ← ptAdd_assoc, e]
theorem scr_mov2 : mov m (mov m (fooP m)) = ptAdd (mov m (fooP m)) (smP (slQ m) (wayP (axI m.1))) := by
  have e := scr_mov hf zf sc
  conv => lhs; rw [e]
  show ptAdd (rot m.1 _) m.2 = _
  rw [rot_add hf, rot_sm hf, scr_axis hf zf sc]
  show _ = ptAdd (ptAdd (rot m.1 (fooP m)) m.2) _
  generalize rot m.1 (fooP m) = u
  generalize smP (slQ m) (wayP (axI m.1)) = v
  simp only [ptAdd, Prod.mk.injEq]
  refine ⟨?_, ?_, ?_⟩ <;> grind
theorem scr_scw {p : Pt} (h : mov m p = ptAdd p (smP (slQ m) (wayP (axI m.1)))) : scwD (axI m.1) p (slQ m) (kI m.1) (lI m.1) = moD (pln m.1, m.2) := by
  unfold scwD
  rw [sc.ab, rot_pln hf zf]
  congr 2
  exact sb_move h
end
theorem prow_par {x y : List Int} {a b : Int} (ha : a ≠ 0) (hb : b ≠ 0) (hx : ∃ n ∈ x, n ≠ 0) (h : x.map (a * ·) = y.map (b * ·)) : ∃ e : Int, (e = 1 ∨ e = -1) ∧ prow x = (prow y).map (e * ·) := by
  have hp := pln_ratio ha hb hx h
  rw [pln_prow, pln_prow y] at hp
  refine ⟨fs x * fs y, ?_, ?_⟩
  · rcases fs_or x with h1 | h1 <;> rcases fs_or y with h2 | h2 <;> rw [h1, h2] <;> decide
  · have := congrArg (List.map (fs x * ·)) hp
    rw [List.map_map, List.map_map] at this
    have e1 : (fun z : Int => fs x * z) ∘ (fun z : Int => fs x * z) = fun z => z := by
      funext z
      show fs x * (fs x * z) = z
      rw [← Int.mul_assoc, fs_sq, Int.one_mul]
    rw [e1, List.map_id'] at this
    rw [this]
    exact List.map_congr_left fun z _ => by show fs x * (fs y * z) = _; rw [Int.mul_assoc]
theorem scr_back {m : Mo} (hf : m.1.length = 4) (zf : ∃ n ∈ m.1, n ≠ 0) (sc : Scr m.1) : Scr (moBack m).1 ∧ fooP (moBack m) = fooP m ∧ ptAdd (smP (slQ (moBack m)) (wayP (axI (moBack m).1))) (smP (slQ m) (wayP (axI m.1))) = (0, 0, 0) := by
  have kl := qbk_len hf
  have kz := qbk_nz hf zf
  have pl : (pln (qbk m.1)).length = 4 := by rw [pln_len, kl]
  have pz := pln_nz kz
  have pp := pln_pln kz
  have fl : (pln m.1).length = 4 := by rw [pln_len, hf]
  have t0 : (pln m.1).drop 1 ≠ [0, 0, 0] := by
    intro h0
    have := sc.az
    obtain ⟨n, hn, h1⟩ := this
    unfold axI prow at hn
    rw [h0] at hn
    simp at hn
    exact h1 hn
  have e1 := pln_mul kz
  have e2 := pln_mul zf
  have c1 := fsgl_ne kz
  have c2 := fsgl_ne zf
  generalize fs (qbk m.1) * (gl (qbk m.1) : Int) = a at *
  generalize fs m.1 * (gl m.1 : Int) = b at *
  -- the tails are in one ratio
  have par : ((pln (qbk m.1)).drop 1).map (a * ·) = ((pln m.1).drop 1).map (-b * ·) := by
    have h1 : (qbk m.1).drop 1 = (m.1.drop 1).map (-1 * ·) := by
      obtain ⟨w, x, y, z, e⟩ := four_of hf
      rw [e]
      simp only [qbk, List.drop_succ_cons, List.drop_zero, List.map_cons, List.map_nil, Int.neg_mul, Int.one_mul]
    have h2 : (qbk m.1).drop 1 = ((pln (qbk m.1)).drop 1).map (a * ·) := by rw [← drop_map, ← e1]
    have h3 : m.1.drop 1 = ((pln m.1).drop 1).map (b * ·) := by rw [← drop_map, ← e2]
    rw [← h2, h1, h3, List.map_map]
    refine List.map_congr_left fun x _ => ?_
    show -1 * (b * x) = -b * x
    grind
  have tz : ∃ n ∈ (pln (qbk m.1)).drop 1, n ≠ 0 := by
    refine nz_three (tail_len pl) fun h => t0 ?_
    rw [h] at par
    have : ((pln m.1).drop 1).map (-b * ·) = List.replicate 3 0 := by rw [← par]; simp
    exact sm_zero (by omega) this
  have sc' : Scr (moBack m).1 := scr_of pl pz (by show (pln (pln (qbk m.1))).drop 1 ≠ _; rw [pp]; exact ne_three tz)
  obtain ⟨e, he, ea⟩ := prow_par c1 (show -b ≠ 0 by omega) tz par
  have ax : axI (moBack m).1 = (axI m.1).map (e * ·) := by
    show prow ((pln (pln (qbk m.1))).drop 1) = _
    rw [pp]; exact ea
  have A : wayP (axI (moBack m).1) = smP (e : Rat) (wayP (axI m.1)) := by
    rw [ax]
    obtain ⟨p, q, r, e3⟩ := three_of sc.al
    rw [e3]
    simp only [wayP, smP, List.map_cons, List.map_nil, List.getElem!_cons_zero, List.getElem!_cons_succ, Rat.intCast_mul]
  have ee : (e : Rat) * e = 1 := by rcases he with rfl | rfl <;> decide +kernel
  have dd : dt (axI (moBack m).1) (axI (moBack m).1) = dt (axI m.1) (axI m.1) := by
    rw [ax, dt_smul_l sc.al (by rw [List.length_map, sc.al]), dt_smul sc.al sc.al]
    rcases he with rfl | rfl <;> omega
  -- the inverse turn leaves the axis
  have bk : ∀ p, rot (moBack m).1 (rot m.1 p) = p := fun p => by
    show rot (pln (qbk m.1)) _ = p
    rw [rot_pln kl kz, rot_back hf zf]
  have sx := scr_axis hf zf sc
  have bx : rot (moBack m).1 (wayP (axI m.1)) = wayP (axI m.1) := by
    have := bk (wayP (axI m.1))
    rwa [sx] at this
  have hd : ∀ p, dP (wayP (axI m.1)) (rot (moBack m).1 p) = dP (wayP (axI m.1)) p := by
    intro p
    have pp' : crs (axI m.1) ((pln (qbk m.1)).drop 1) = [0, 0, 0] := by
      have h1 : crs (axI m.1) (((pln (qbk m.1)).drop 1).map (a * ·)) = (List.replicate 3 0 : List Int) := by
        rw [par, crs_smul sc.al (tail_len fl), sc.par]; simp
      rw [crs_smul sc.al (tail_len pl)] at h1
      exact sm_zero c1 h1
    exact dP_rot sc.al pl pz pp' p
  have sl : slQ (moBack m) = - ((e : Rat) * slQ m) := by
    unfold slQ
    rw [dd, dq_dP, dq_dP, A]
    have h1 : dP (smP (e : Rat) (wayP (axI m.1))) (moBack m).2 = (e : Rat) * dP (wayP (axI m.1)) (moBack m).2 := by
      simp only [dP, smP]; grind
    have h2 : dP (wayP (axI m.1)) (moBack m).2 = - dP (wayP (axI m.1)) m.2 := by
      show dP _ (ptNeg (rot (moBack m).1 m.2)) = _
      rw [dP_neg, hd]
    rw [h1, h2]
    grind
  have s1 : smP (slQ (moBack m)) (wayP (axI (moBack m).1)) = ptNeg (smP (slQ m) (wayP (axI m.1))) := by
    rw [sl, A]
    generalize wayP (axI m.1) = w
    simp only [smP, ptNeg, Prod.mk.injEq]
    refine ⟨?_, ?_, ?_⟩ <;> grind
  refine ⟨sc', ?_, by rw [s1]; exact ptNeg_add _⟩
  have u := scr_ft hf zf sc
  have v := scr_up hf zf sc
  have l' : (moBack m).1.length = 4 := pl
  refine (ft_only sc'.al sc'.az sc'.k0 sc'.up (c := fooP m) (l := lI (moBack m).1) ?_ ?_).symm
  · rw [A]
    have h1 : dP (smP (e : Rat) (wayP (axI m.1))) (fooP m) = (e : Rat) * dP (wayP (axI m.1)) (fooP m) := by
      simp only [dP, smP]; grind
    rw [h1, v]; grind
  · rw [sc'.rot l' pz]
    have h1 : rsP (moBack m) = ptAdd (ptNeg (rot (moBack m).1 m.2)) (smP (slQ m) (wayP (axI m.1))) := by
      unfold rsP
      rw [s1]
      show sbP (ptNeg (rot (moBack m).1 m.2)) _ = _
      generalize rot (moBack m).1 m.2 = x
      generalize smP (slQ m) (wayP (axI m.1)) = y
      simp only [sbP, ptAdd, ptNeg, Prod.mk.injEq]
      refine ⟨?_, ?_, ?_⟩ <;> grind
    have h2 : rot (moBack m).1 (ptAdd (rot m.1 (fooP m)) (rsP m)) = rot (moBack m).1 (fooP m) := by rw [u]
    rw [rot_add l', bk] at h2
    have h3 : rot (moBack m).1 (rsP m) = sbP (rot (moBack m).1 m.2) (smP (slQ m) (wayP (axI m.1))) := by
      unfold rsP
      rw [rot_sb l', rot_sm l', bx]
    rw [h3] at h2
    rw [h1, ← h2]
    generalize rot (moBack m).1 m.2 = x
    generalize smP (slQ m) (wayP (axI m.1)) = y
    generalize fooP m = c
    obtain ⟨c1, c2, c3⟩ := c
    simp only [sbP, ptAdd, ptNeg, Prod.mk.injEq]
    refine ⟨?_, ?_, ?_⟩ <;> grind
theorem half_D : frD ((1 : Int) / (2 : Int) : Rat) = .tup [.int 1, .int 2] := by
  have h1 : ((1 : Int) / (2 : Int) : Rat).num = 1 := by decide +kernel
  have h2 : ((1 : Int) / (2 : Int) : Rat).den = 2 := by decide +kernel
  unfold frD
  rw [h1, h2]; rfl
theorem sb_eq (p q : Pt) : sbP p q = ptAdd p (ptNeg q) := by
  simp only [sbP, ptAdd, ptNeg, Rat.sub_eq_add_neg]
theorem wayP_map (c : Int) {a : List Int} (ha : a.length = 3) : wayP (a.map (c * ·)) = smP (c : Rat) (wayP a) := by
  obtain ⟨p, q, r, rfl⟩ := three_of ha
  simp only [wayP, smP, List.map_cons, List.map_nil, List.getElem!_cons_zero, List.getElem!_cons_succ, Rat.intCast_mul]
/-- the screw that a turn about a way through a foot makes, with a slide -/
theorem scr_due {v f : List Int} {k l : Int} {p : Pt} {s : Rat} (lv : v.length = 3) (zv : ∃ n ∈ v, n ≠ 0) (hz : ∃ n ∈ [k, l], n ≠ 0) (ef : f = pln (abt v k l)) (h0 : f.drop 1 ≠ [0, 0, 0]) :
    let m : Mo := (f.map (-3 * ·), ptAdd (ptAdd p (ptNeg (rot f p))) (smP s (wayP v)))
    Scr m.1 ∧ pln m.1 = f ∧ axI m.1 = prow (f.drop 1) ∧ (axI m.1)[fnz v]! ≠ 0 ∧ slQ m = s * ((v[fnz v]! : Rat) / ((axI m.1)[fnz v]! : Rat)) ∧ fooP m = ptAdd p (smP (-(dP p (wayP (axI m.1))) / dP (wayP (axI m.1)) (wayP (axI m.1))) (wayP (axI m.1))) := by
  intro m
  have al := abt_len lv k l
  have az := abt_nz zv hz
  have lf : f.length = 4 := by rw [ef, pln_len, al]
  have zf : ∃ n ∈ f, n ≠ 0 := by rw [ef]; exact pln_nz az
  have pf : pln f = f := by rw [ef, pln_pln az]
  have pm : pln m.1 = f := by show pln (f.map (-3 * ·)) = f; rw [pln_smul (by decide) zf, pf]
  have lm : m.1.length = 4 := by show (f.map (-3 * ·)).length = 4; rw [List.length_map, lf]
  have zm : ∃ n ∈ m.1, n ≠ 0 := nz_map (by decide) zf
  have sc : Scr m.1 := scr_of lm zm (by rw [pm]; exact h0)
  have ax : axI m.1 = prow (f.drop 1) := by unfold axI; rw [pm]
  have hk : k ≠ 0 := by
    rintro rfl
    refine h0 ?_
    rw [ef]
    obtain ⟨p, q, r, rfl⟩ := three_of lv
    simp only [abt, pln, List.map_cons, List.map_nil, List.drop_succ_cons, List.drop_zero, Int.zero_mul, Int.zero_ediv, Int.mul_zero]
  -- the way is a multiple of the axis
  have cv : crs (axI m.1) v = [0, 0, 0] := by
    have h1 := sc.par
    rw [pm] at h1
    have e := pln_mul az
    rw [← ef] at e
    have h2 : (abt v k l).drop 1 = (f.drop 1).map (fs (abt v k l) * (gl (abt v k l) : Int) * ·) := by
      conv => lhs; rw [e]
      exact drop_map
    have h3 : (abt v k l).drop 1 = v.map (k * ·) := rfl
    have h4 : crs (axI m.1) (v.map (k * ·)) = (List.replicate 3 0 : List Int) := by
      rw [← h3, h2, crs_smul sc.al (tail_len lf), h1]; simp
    rw [crs_smul sc.al lv] at h4
    exact sm_zero hk h4
  have hv := fnz_lt zv
  have par := par_of sc.al lv cv (i := fnz v) (by omega)
  have a0 : (axI m.1)[fnz v]! ≠ 0 := by
    intro h
    rw [h] at par
    have : (axI m.1).map (v[fnz v]! * ·) = List.replicate 3 0 := by
      rw [par]
      obtain ⟨p, q, r, e⟩ := three_of lv
      rw [e]; simp
    exact ne_three sc.az (sm_zero hv.2 this)
  have eW : wayP v = smP ((v[fnz v]! : Rat) / ((axI m.1)[fnz v]! : Rat)) (wayP (axI m.1)) := by
    have h1 := congrArg wayP par
    rw [wayP_map _ sc.al, wayP_map _ lv] at h1
    have c0 : ((axI m.1)[fnz v]! : Rat) ≠ 0 := by exact_mod_cast a0
    have ci := Rat.mul_inv_cancel _ c0
    rw [Rat.div_def]
    generalize ((axI m.1)[fnz v]! : Rat) = c at *
    generalize (v[fnz v]! : Rat) = d at *
    generalize wayP v = w at *
    generalize wayP (axI m.1) = u at *
    obtain ⟨w1, w2, w3⟩ := w
    obtain ⟨u1, u2, u3⟩ := u
    simp only [smP, Prod.mk.injEq] at h1 ⊢
    refine ⟨?_, ?_, ?_⟩ <;> grind
  have rf : ∀ q, rot m.1 q = rot f q := fun q => by show rot (f.map (-3 * ·)) q = _; rw [rot_smul (by decide) lf]
  have sx := scr_axis lm zm sc
  rw [rf] at sx
  have hL := dt_pos sc.al sc.az
  have eL : dP (wayP (axI m.1)) (wayP (axI m.1)) = ((dt (axI m.1) (axI m.1) : Int) : Rat) := by
    obtain ⟨p, q, r, e⟩ := three_of sc.al
    rw [e]
    simp only [dP, wayP, dt, List.getElem!_cons_zero, List.getElem!_cons_succ, Rat.intCast_add, Rat.intCast_mul]
  have L0 : ((dt (axI m.1) (axI m.1) : Int) : Rat) ≠ 0 := by exact_mod_cast (by omega : dt (axI m.1) (axI m.1) ≠ 0)
  have Li := Rat.mul_inv_cancel _ L0
  have dr : dP (wayP (axI m.1)) (rot f p) = dP (wayP (axI m.1)) p := dP_rot sc.al lf zf (by have := sc.par; rwa [pm] at this) p
  have sl : slQ m = s * ((v[fnz v]! : Rat) / ((axI m.1)[fnz v]! : Rat)) := by
    show dq (axI m.1) m.2 * _ = _
    rw [dq_dP, show m.2 = ptAdd (ptAdd p (ptNeg (rot f p))) (smP s (wayP v)) from rfl, dP_add, dP_add, dP_neg, dr, dP_sm, eW, dP_sm, eL]
    have c1 : ((1 : Int) : Rat) = 1 := rfl
    rw [Rat.div_def ((1 : Int) : Rat), c1]
    generalize ((dt (axI m.1) (axI m.1) : Int) : Rat) = L at *
    generalize (v[fnz v]! : Rat) / ((axI m.1)[fnz v]! : Rat) = mu at *
    generalize dP (wayP (axI m.1)) p = d at *
    generalize L⁻¹ = i at *
    grind
  refine ⟨sc, pm, ax, a0, sl, ?_⟩
  refine (ft_only sc.al sc.az sc.k0 sc.up (l := lI m.1) ?_ ?_).symm
  · rw [dP_add, dP_sm, eL, Rat.div_def]
    have : dP p (wayP (axI m.1)) = dP (wayP (axI m.1)) p := by simp only [dP]; grind
    rw [this]
    generalize ((dt (axI m.1) (axI m.1) : Int) : Rat) = L at *
    generalize L⁻¹ = i at *
    grind
  · rw [sc.rot lm zm, rf, rot_add lf, rot_sm lf, sx]
    have er : rsP m = sbP p (rot f p) := by
      unfold rsP
      rw [sl, show m.2 = ptAdd (ptAdd p (ptNeg (rot f p))) (smP s (wayP v)) from rfl, eW]
      generalize (v[fnz v]! : Rat) / ((axI m.1)[fnz v]! : Rat) = mu
      generalize rot f p = q
      generalize wayP (axI m.1) = u
      simp only [sbP, ptAdd, ptNeg, smP, Prod.mk.injEq]
      refine ⟨?_, ?_, ?_⟩ <;> grind
    rw [er]
    generalize smP (-dP p (wayP (axI m.1)) / dP (wayP (axI m.1)) (wayP (axI m.1))) (wayP (axI m.1)) = u
    generalize rot f p = q
    obtain ⟨p1, p2, p3⟩ := p
    simp only [sbP, ptAdd, Prod.mk.injEq]
    refine ⟨?_, ?_, ?_⟩ <;> grind
end Z

set_option Elab.async false
set_option linter.all false
set_option maxRecDepth 100000
set_option exponentiation.threshold 20000
/-! R15: purses of three numbers; ways spun. -/
namespace Z
open PySem PySem.Spec PyProof.Rows L2 RZ
/-- a draw from a purse of three: the third number grows by four at most -/
def spDr3 : SpZ := fun rs S W => match rs, S with
  | [.loc 0, .d (.int n)], [.lst [.int _, .int c, .int k]] => (0 < n ∧ n ≤ 10000000000000000000000000000000000000000) ∧ Bd SB c ∧ (0 ≤ k ∧ k ≤ 1000000000) ∧ ∀ v p k' : Int, 0 ≤ v → v < n → 0 ≤ k' → k' ≤ k + 4 → W (.d (.int v)) [.lst [.int p, .int c, .int k']]
  | _, _ => False
def spSm3 : SpZ := fun rs S W => match rs, S with
  | [.loc 0, .d (.int n)], [.lst [.int _, .int c, .int k]] => (0 ≤ n ∧ n ≤ 1000000000000000000000000000000) ∧ Bd SB c ∧ (0 ≤ k ∧ k ≤ 1000000000) ∧ ∀ v p k' : Int, -n ≤ v → v ≤ n → 0 ≤ k' → k' ≤ k + 4 → W (.d (.int v)) [.lst [.int p, .int c, .int k']]
  | _, _ => False
def spWy3 : SpZ := fun rs S W => match rs, S with
  | [.loc 0, .d (.int n)], [.lst [.int _, .int c, .int k]] => (1 ≤ n ∧ n ≤ 1000000000000000000000000000000) ∧ Bd SB c ∧ (0 ≤ k ∧ k ≤ 900000000) ∧ ∀ (ns : List Int) (p k' : Int), ns.length = 3 → (∀ x ∈ ns, -n ≤ x ∧ x ≤ n) → (∃ x ∈ ns, x ≠ 0) → 0 ≤ k' → k' ≤ k + 12 → W (.d (.tup (ns.map D.int))) [.lst [.int p, .int c, .int k']]
  | _, _ => False
def spFr3 : SpZ := fun rs S W => match rs, S with
  | [.loc 0, .d (.int n)], [.lst [.int _, .int c, .int k]] => (1 ≤ n ∧ n ≤ 1000000000000000000000000000000) ∧ Bd SB c ∧ (0 ≤ k ∧ k ≤ 900000000) ∧ ∀ (ns : List Int) (p k' : Int), ns.length = 4 → (∀ x ∈ ns, -n ≤ x ∧ x ≤ n) → (∃ x ∈ ns, x ≠ 0) → 0 ≤ k' → k' ≤ k + 16 → W (.d (.tup (ns.map D.int))) [.lst [.int p, .int c, .int k']]
  | _, _ => False
/-- the turned way, times the four's size -/
def spn (f a : List Int) : List Int := (rowsI f).map fun r => dt r a
def spSpn : SpZ := fun rs S W => match rs with
  | [.d (.tup xs), .d (.tup ys)] => ∃ f a : List Int, xs = f.map D.int ∧ ys = a.map D.int ∧ f.length = 4 ∧ a.length = 3 ∧ (∀ x ∈ f, Bd 4000 x) ∧ (∀ x ∈ a, Bd 20000 x) ∧ W (.d (.tup ((spn f a).map D.int))) S
  | _ => False
theorem spn_len {f a : List Int} (hf : f.length = 4) : (spn f a).length = 3 := by
  obtain ⟨w, x, y, z, rfl⟩ := four_of hf
  rfl
theorem spn_bd {m n : Nat} {f a : List Int} (hf : ∀ x ∈ f, Bd m x) (ha : ∀ x ∈ a, Bd n x) : ∀ x ∈ spn f a, Bd (m + m + n + 4) x := by
  intro x hx
  obtain ⟨r, hr, rfl⟩ := List.mem_map.mp hx
  exact (dt_bd (rowsI_bd hf r hr) ha).mono (by omega)
theorem spn_sq {f a : List Int} (hf : f.length = 4) (ha : a.length = 3) : dt (spn f a) (spn f a) = nrmI f * nrmI f * dt a a := by
  obtain ⟨w, x, y, z, rfl⟩ := four_of hf
  obtain ⟨p, q, r, rfl⟩ := three_of ha
  simp only [spn, rowsI, dt, nrmI, List.map_cons, List.map_nil]
  grind
theorem spn_nz {f a : List Int} (hf : f.length = 4) (ha : a.length = 3) (zf : ∃ n ∈ f, n ≠ 0) (za : ∃ n ∈ a, n ≠ 0) : ∃ n ∈ spn f a, n ≠ 0 := by
  refine nz_three (spn_len hf) fun h => ?_
  have e := spn_sq hf ha
  rw [h] at e
  have h1 := dt_pos ha za
  have h2 := sq_pos (nrmI_ne hf zf)
  have := Int.mul_pos h2 h1
  have e : (0 : Int) = nrmI f * nrmI f * dt a a := e
  omega
/-- do two ways point alike? -/
def alike (a b : List Int) : Bool := decide (crs a b = [0, 0, 0]) && decide (0 < dt a b)
def spAlike : SpZ := fun rs S W => match rs with
  | [.d (.tup xs), .d (.tup ys)] => ∃ a b : List Int, xs = a.map D.int ∧ ys = b.map D.int ∧ a.length = 3 ∧ b.length = 3 ∧ (∀ x ∈ a, Bd 60000 x) ∧ (∀ x ∈ b, Bd 60000 x) ∧ W (.d (.bl (alike a b))) S
  | _ => False
def ledsTo (f a b : List Int) : Bool := alike (spn f a) b
/-- leads(one, other, four) -/
def spLeads : SpZ := fun rs S W => match rs with
  | [.d (.tup xs), .d (.tup ys), .d (.tup us)] => ∃ a b f : List Int, xs = a.map D.int ∧ ys = b.map D.int ∧ us = f.map D.int ∧ a.length = 3 ∧ b.length = 3 ∧ f.length = 4 ∧ (∀ x ∈ a, Bd 20000 x) ∧ (∀ x ∈ b, Bd 60000 x) ∧ (∀ x ∈ f, Bd 4000 x) ∧ W (.d (.bl (ledsTo f a b))) S
  | _ => False
theorem spn_smul {k : Int} {f a : List Int} (hf : f.length = 4) (ha : a.length = 3) : spn (f.map (k * ·)) a = (spn f a).map ((k * k) * ·) := by
  obtain ⟨w, x, y, z, rfl⟩ := four_of hf
  obtain ⟨p, q, r, rfl⟩ := three_of ha
  simp only [spn, rowsI, dt, List.map_cons, List.map_nil, List.cons.injEq, and_true]
  refine ⟨?_, ?_, ?_⟩ <;> grind
theorem alike_smul {k : Int} (hk : 0 < k) {a b : List Int} (ha : a.length = 3) (hb : b.length = 3) : alike (a.map (k * ·)) b = alike a b := by
  unfold alike
  rw [crs_smul_l ha hb, dt_smul_l ha hb]
  congr 1
  · have : ((crs a b).map (k * ·) = [0, 0, 0]) = (crs a b = [0, 0, 0]) := by
      refine propext ⟨fun h => sm_zero (n := 3) (by omega) h, fun h => by rw [h]; simp⟩
    rw [show decide ((crs a b).map (k * ·) = [0, 0, 0]) = decide (crs a b = [0, 0, 0]) from by simp only [this]]
  · have : (0 < k * dt a b) = (0 < dt a b) := propext ⟨fun h => by
      by_cases h0 : 0 < dt a b
      · exact h0
      · have := Int.mul_nonpos_of_nonneg_of_nonpos (show 0 ≤ k by omega) (show dt a b ≤ 0 by omega); omega, fun h => Int.mul_pos hk h⟩
    rw [show decide (0 < k * dt a b) = decide (0 < dt a b) from by simp only [this]]
theorem ledsTo_smul {k : Int} (hk : k ≠ 0) {f a b : List Int} (hf : f.length = 4) (ha : a.length = 3) (hb : b.length = 3) : ledsTo (f.map (k * ·)) a b = ledsTo f a b := by
  unfold ledsTo
  rw [spn_smul hf ha, alike_smul (sq_pos hk) (spn_len hf) hb]
theorem Bd.of_abs {n : Nat} {i b : Int} (h : -b ≤ i ∧ i ≤ b) (hb : b < 2 ^ n) : Bd n i := Bd.of_le h.1 h.2 hb
end Z

set_option Elab.async false
set_option linter.all false
set_option maxRecDepth 100000
set_option exponentiation.threshold 20000
/-! R16: roots; ways led to ways. -/
namespace Z
open PySem PySem.Spec PyProof.Rows L2 RZ
theorem newton {n x : Nat} (hx : n < x * x) : (x + n / x) / 2 < x ∧ n < ((x + n / x) / 2 + 1) * ((x + n / x) / 2 + 1) := by
  have x0 : 0 < x := by
    rcases Nat.eq_zero_or_pos x with h | h
    · subst h; simp at hx
    · exact h
  have hq : n / x < x := (Nat.div_lt_iff_lt_mul x0).mpr hx
  have hm := Nat.lt_div_mul_add (a := n) x0
  generalize n / x = q at *
  refine ⟨by omega, ?_⟩
  have hy : x + q ≤ 2 * ((x + q) / 2) + 1 := by omega
  generalize (x + q) / 2 = y at *
  have s := sq_nn ((y : Int) + 1 - x)
  have e : ((y : Int) + 1 - x) * ((y : Int) + 1 - x) = ((y : Int) + 1) * (y + 1) - (2 * (y + 1)) * x + x * x := by grind
  have l : ((q : Int) + 1) * x ≤ (2 * (y + 1) - x) * x := Int.mul_le_mul_of_nonneg_right (by omega) (by omega)
  have e2 : (2 * ((y : Int) + 1) - x) * x = (2 * (y + 1)) * x - x * x := by grind
  have e3 : ((q : Int) + 1) * x = q * x + x := by grind
  have hm' : (n : Int) < q * x + x := by exact_mod_cast hm
  have : (n : Int) < ((y : Int) + 1) * (y + 1) := by omega
  exact_mod_cast this
theorem bits_ge {n : Nat} : n < 2 ^ Builtin.Int.intBits (n : Int) := by
  unfold Builtin.Int.intBits
  by_cases h : n = 0
  · subst h; decide
  · rw [if_neg (by simpa using h)]
    simpa using Nat.lt_log2_self (n := n)
theorem bits_le {n m : Nat} (h : n < 2 ^ m) : Builtin.Int.intBits (n : Int) ≤ m := by
  unfold Builtin.Int.intBits
  by_cases h0 : n = 0
  · subst h0; simp
  · rw [if_neg (by simpa using h0)]
    have := (Nat.log2_lt h0).mpr h
    rw [Int.natAbs_natCast]; omega
/-- the greatest whole number whose square is no more -/
def spRoot : SpZ := fun rs S W => match rs with
  | [.d (.int n)] => 0 ≤ n ∧ Bd 16000 n ∧ ∀ s : Nat, (s : Int) * s ≤ n → n < ((s : Int) + 1) * (s + 1) → W (.d (.int s)) S
  | _ => False
def spSide : SpZ := fun rs S W => match rs with
  | [.d (.int n)] => 0 ≤ n ∧ Bd 16000 n ∧ (∀ s : Nat, (s : Int) * s = n → W (.d (.int s)) S) ∧ ((∀ s : Nat, (s : Int) * s ≠ n) → W (.d .non) S)
  | _ => False
theorem root_only {n : Int} {s t : Nat} (h1 : (s : Int) * s ≤ n) (h2 : n < ((s : Int) + 1) * (s + 1)) (h : (t : Int) * t = n) : s = t := by
  have a : (s : Int) < t + 1 := by
    by_cases h : (s : Int) < t + 1
    · exact h
    · have : ((t : Int) + 1) * (t + 1) ≤ s * s := Int.mul_le_mul (by omega) (by omega) (by omega) (by omega)
      have e : ((t : Int) + 1) * (t + 1) = t * t + 2 * t + 1 := by grind
      omega
  have b : (t : Int) < s + 1 := by
    by_cases h : (t : Int) < s + 1
    · exact h
    · have : ((s : Int) + 1) * (s + 1) ≤ t * t := Int.mul_le_mul (by omega) (by omega) (by omega) (by omega)
      omega
  omega
/-! ### a turn that leads a way to a way -/
def upr (a : List Int) : List Int := if a[0]! = 0 ∧ a[1]! = 0 then [1, 0, 0] else [-a[1]!, a[0]!, 0]
theorem upr_len (a : List Int) : (upr a).length = 3 := by unfold upr; split <;> rfl
theorem upr_nz (a : List Int) : ∃ n ∈ upr a, n ≠ 0 := by
  unfold upr
  split
  · exact ⟨1, by simp, by decide⟩
  · rename_i h
    by_cases h0 : a[0]! = 0
    · exact ⟨-a[1]!, by simp, fun h1 => h ⟨h0, by omega⟩⟩
    · exact ⟨a[0]!, by simp, h0⟩
theorem upr_dt {a : List Int} (ha : a.length = 3) : dt (upr a) a = 0 := by
  obtain ⟨x, y, z, rfl⟩ := three_of ha
  unfold upr
  simp only [List.getElem!_cons_zero, List.getElem!_cons_succ]
  split
  · rename_i h
    simp only [dt]; omega
  · simp only [dt]; grind
theorem upr_bd {n : Nat} {a : List Int} (ha : a.length = 3) (h : ∀ x ∈ a, Bd n x) : ∀ x ∈ upr a, Bd (n + 1) x := by
  have b0 := at_bd h (i := 0) (by omega)
  have b1 := at_bd h (i := 1) (by omega)
  have one : Bd (n + 1) 1 := Bd.lit (by simpa using Nat.one_lt_two_pow (by omega))
  unfold upr
  split <;> simp only [List.mem_cons, List.not_mem_nil, or_false, forall_eq_or_imp, forall_eq]
  · exact ⟨one, Bd.zero, Bd.zero⟩
  · exact ⟨b1.neg.mono (by omega), b0.mono (by omega), Bd.zero⟩
def ledR (a b : List Int) (s : Int) : List Int := if s + dt a b = 0 then 0 :: upr a else (s + dt a b) :: crs a b
def ledF (a b : List Int) (s : Int) : List Int := pln (ledR a b s)
theorem ledR_len {a b : List Int} (ha : a.length = 3) (hb : b.length = 3) (s : Int) : (ledR a b s).length = 4 := by
  unfold ledR
  split
  · simp [upr_len]
  · simp [crs_len ha hb]
theorem ledR_nz (a b : List Int) (s : Int) : ∃ n ∈ ledR a b s, n ≠ 0 := by
  unfold ledR
  split
  · obtain ⟨n, hn, h0⟩ := upr_nz a
    exact ⟨n, List.mem_cons_of_mem _ hn, h0⟩
  · rename_i h
    exact ⟨_, List.mem_cons_self, h⟩
theorem ledF_len {a b : List Int} (ha : a.length = 3) (hb : b.length = 3) (s : Int) : (ledF a b s).length = 4 := by unfold ledF; rw [pln_len, ledR_len ha hb]
theorem ledF_nz (a b : List Int) (s : Int) : ∃ n ∈ ledF a b s, n ≠ 0 := pln_nz (ledR_nz a b s)
theorem ledF_pln (a b : List Int) (s : Int) : pln (ledF a b s) = ledF a b s := pln_pln (ledR_nz a b s)
theorem ledR_bd {m n : Nat} {a b : List Int} {s : Int} (ha : a.length = 3) (ba : ∀ x ∈ a, Bd m x) (bb : ∀ x ∈ b, Bd n x) (hs : Bd (m + n + 2) s) : ∀ x ∈ ledR a b s, Bd (m + n + 3) x := by
  unfold ledR
  intro x hx
  split at hx
  · rcases List.mem_cons.mp hx with rfl | hx
    · exact Bd.zero
    · exact (upr_bd ha ba x hx).mono (by omega)
  · rcases List.mem_cons.mp hx with rfl | hx
    · exact (hs.add (dt_bd ba bb)).mono (by omega)
    · exact (crs_bd ba bb x hx).mono (by omega)
theorem lag {a b : List Int} (ha : a.length = 3) (hb : b.length = 3) : dt (crs a b) (crs a b) = dt a a * dt b b - dt a b * dt a b := by
  obtain ⟨x, y, z, rfl⟩ := three_of ha
  obtain ⟨p, q, r, rfl⟩ := three_of hb
  simp only [dt, crs]; grind
theorem dt_nn {a : List Int} (ha : a.length = 3) : 0 ≤ dt a a := by
  obtain ⟨x, y, z, rfl⟩ := three_of ha
  have := sq_nn x; have := sq_nn y; have := sq_nn z
  show 0 ≤ x * x + y * y + z * z
  omega
theorem dt_zero {a : List Int} (ha : a.length = 3) (h : dt a a = 0) : a = [0, 0, 0] := by
  obtain ⟨x, y, z, rfl⟩ := three_of ha
  have := sq_nn x; have := sq_nn y; have := sq_nn z
  have h : x * x + y * y + z * z = 0 := h
  have e1 := int_sq_zero (x := x) (by omega)
  have e2 := int_sq_zero (x := y) (by omega)
  have e3 := int_sq_zero (x := z) (by omega)
  rw [e1, e2, e3]
theorem abs_le_of_sq {s d : Int} (hs : 0 ≤ s) (h : d * d ≤ s * s) : -s ≤ d := by
  by_cases h0 : -s ≤ d
  · exact h0
  · have : (s + 1) * (s + 1) ≤ (-d) * (-d) := Int.mul_le_mul (by omega) (by omega) (by omega) (by omega)
    have e : (s + 1) * (s + 1) = s * s + 2 * s + 1 := by grind
    have e2 : (-d) * (-d) = d * d := by grind
    omega
section
variable {a b : List Int} (ha : a.length = 3) (hb : b.length = 3) (za : ∃ n ∈ a, n ≠ 0) (zb : ∃ n ∈ b, n ≠ 0) {s : Int} (hs : 0 ≤ s) (h : s * s = dt a a * dt b b)
include ha hb za zb hs h
theorem led_s : 0 < s ∧ 0 ≤ s + dt a b := by
  have h1 := dt_pos ha za
  have h2 := dt_pos hb zb
  have h3 := Int.mul_pos h1 h2
  have l := lag ha hb
  have n := dt_nn (crs_len ha hb)
  refine ⟨?_, ?_⟩
  · by_cases h0 : s = 0
    · subst h0; omega
    · omega
  · have := abs_le_of_sq hs (d := dt a b) (by omega)
    omega
theorem ledR_up : dt ((ledR a b s).drop 1) a = 0 := by
  unfold ledR
  split
  · exact upr_dt ha
  · show dt (crs a b) a = 0
    obtain ⟨x, y, z, rfl⟩ := three_of ha
    obtain ⟨p, q, r, rfl⟩ := three_of hb
    simp only [dt, crs]; grind
theorem ledR_spn : ∃ k : Int, spn (ledR a b s) a = (if s + dt a b = 0 then a else b).map (k * ·) ∧ if s + dt a b = 0 then k < 0 else 0 < k := by
  have hp := led_s ha hb za zb hs h
  have hA := dt_pos ha za
  unfold ledR
  split
  · rename_i h0
    have e := upr_dt ha
    have lu := upr_len a
    have zu := dt_pos lu (upr_nz a)
    generalize upr a = v at *
    refine ⟨-(dt v v), ?_, by omega⟩
    obtain ⟨x, y, z, rfl⟩ := three_of ha
    obtain ⟨p, q, r, rfl⟩ := three_of lu
    simp only [dt] at e
    simp only [spn, rowsI, dt, List.map_cons, List.map_nil, List.cons.injEq, and_true]
    refine ⟨?_, ?_, ?_⟩ <;> grind
  · rename_i h0
    have h1 : 0 < s + dt a b := by omega
    refine ⟨2 * (s + dt a b) * dt a a, ?_, Int.mul_pos (by omega) hA⟩
    obtain ⟨x, y, z, rfl⟩ := three_of ha
    obtain ⟨p, q, r, rfl⟩ := three_of hb
    simp only [dt] at h
    simp only [spn, rowsI, dt, crs, List.map_cons, List.map_nil, List.cons.injEq, and_true]
    refine ⟨?_, ?_, ?_⟩ <;> grind
theorem ledR_leads : ledsTo (ledR a b s) a b = true := by
  have hp := led_s ha hb za zb hs h
  obtain ⟨k, e, hk⟩ := ledR_spn ha hb za zb hs h
  unfold ledsTo alike
  rw [e]
  split at hk
  · rename_i h0
    rw [if_pos h0, crs_smul_l ha hb, dt_smul_l ha hb]
    have l := lag ha hb
    have hd : dt a b = -s := by omega
    have e2 : -s * -s = s * s := by grind
    have c0 : crs a b = [0, 0, 0] := dt_zero (crs_len ha hb) (by rw [l, hd]; omega)
    rw [c0, hd]
    have : 0 < k * -s := Int.mul_pos_of_neg_of_neg hk (by omega)
    simp [this]
  · rename_i h0
    rw [if_neg h0, crs_smul_l hb hb, dt_smul_l hb hb]
    have hB := dt_pos hb zb
    have c0 : crs b b = [0, 0, 0] := by
      obtain ⟨p, q, r, rfl⟩ := three_of hb
      simp only [crs, List.cons.injEq, and_true]
      refine ⟨?_, ?_, ?_⟩ <;> grind
    rw [c0]
    have := Int.mul_pos hk hB
    simp [this]
theorem ledF_leads : ledsTo (ledF a b s) a b = true := by
  have l := ledR_len ha hb s
  have z := ledR_nz a b s
  have e := ledR_leads ha hb za zb hs h
  rw [pln_mul z, ledsTo_smul (fsgl_ne z) (by rw [pln_len, l]) ha hb] at e
  exact e
theorem ledF_up : dt ((ledF a b s).drop 1) a = 0 := dt_pln ha (ledR_len ha hb s) (ledR_nz a b s) (ledR_up ha hb za zb hs h)
end
def spLed : SpZ := fun rs S W => match rs with
  | [.d (.tup xs), .d (.tup ys)] => ∃ a b : List Int, xs = a.map D.int ∧ ys = b.map D.int ∧ a.length = 3 ∧ b.length = 3 ∧ (∃ x ∈ a, x ≠ 0) ∧ (∃ x ∈ b, x ≠ 0) ∧ (∀ x ∈ a, Bd 3500 x) ∧ (∀ x ∈ b, Bd 3500 x) ∧ (∀ s : Nat, (s : Int) * s = dt a a * dt b b → W (.d (.tup [.str (PySem.Str.ofString "led"), .tup ((ledF a b s).map D.int)])) S) ∧ ((∀ s : Nat, (s : Int) * s ≠ dt a a * dt b b) → W (.d (.tup [.str (PySem.Str.ofString "none"), .int (dt a a * dt b b)])) S)
  | _ => False
theorem root_bd {m n : Nat} {a b : List Int} {s : Nat} (ba : ∀ x ∈ a, Bd m x) (bb : ∀ x ∈ b, Bd n x) (h : (s : Int) * s = dt a a * dt b b) : Bd (m + n + 2) (s : Int) := by
  have h1 := (dt_bd ba ba).mul (dt_bd bb bb)
  rw [← h] at h1
  have h2 : s * s < 2 ^ ((m + n + 2) + (m + n + 2)) := by
    have := h1.lt
    rw [Int.natAbs_mul, Int.natAbs_natCast] at this
    rwa [show m + m + 2 + (n + n + 2) = (m + n + 2) + (m + n + 2) by omega] at this
  refine Bd.lit ?_
  rw [Int.natAbs_natCast]
  by_cases hl : s < 2 ^ (m + n + 2)
  · exact hl
  · have := Nat.mul_le_mul (show 2 ^ (m + n + 2) ≤ s by omega) (show 2 ^ (m + n + 2) ≤ s by omega)
    rw [← Nat.pow_add] at this
    omega
end Z

set_option Elab.async false
set_option linter.all false
set_option maxRecDepth 100000
set_option exponentiation.threshold 20000
/-! R17: the laws that draw by cells. -/
namespace Z
open PySem PySem.Spec PyProof.Rows L2 RZ
/-- data that a law compares part by part -/
def okD : Nat → D → Prop
  | 0, _ => False
  | _ + 1, .non => True
  | _ + 1, .bl _ => False
  | _ + 1, .int _ => True
  | _ + 1, .str _ => True
  | j + 1, .tup xs => xs.length ≤ 1000 ∧ ∀ x ∈ xs, okD j x
  | j + 1, .lst xs => xs.length ≤ 1000 ∧ ∀ x ∈ xs, okD j x
theorem okD_ints {j : Nat} {ns : List Int} (h : ns.length ≤ 1000) : okD (j + 2) (.tup (ns.map D.int)) := ⟨by simpa using h, fun x hx => by
  obtain ⟨n, _, rfl⟩ := List.mem_map.mp hx
  trivial⟩
theorem okD_fr {j : Nat} (q : Rat) : okD (j + 2) (frD q) := okD_ints (ns := frL q) (by simp [frL])
theorem dvd_fmod {a b d : Int} (hb : d ∣ b) : d ∣ a.fmod b ↔ d ∣ a := by
  have e : a = b * a.fdiv b + a.fmod b := (Int.mul_fdiv_add_fmod a b).symm
  constructor
  · intro h
    rw [e]
    exact Int.dvd_add (Int.dvd_mul_of_dvd_left hb) h
  · intro h
    have e2 : a.fmod b = a - b * a.fdiv b := by omega
    rw [e2]
    exact Int.dvd_sub h (Int.dvd_mul_of_dvd_left hb)
theorem gcd_fmod (a b : Int) : Int.gcd b (a.fmod b) = Int.gcd a b := by
  refine Nat.dvd_antisymm ?_ ?_
  · refine Int.dvd_gcd ?_ (Int.gcd_dvd_left _ _) |> fun h => by exact_mod_cast h
    exact (dvd_fmod (Int.gcd_dvd_left b (a.fmod b))).mp (Int.gcd_dvd_right b (a.fmod b))
  · refine Int.dvd_gcd (Int.gcd_dvd_right _ _) ?_ |> fun h => by exact_mod_cast h
    exact (dvd_fmod (Int.gcd_dvd_right a b)).mpr (Int.gcd_dvd_left a b)
theorem fmod_abs_lt {a b : Int} (hb : b ≠ 0) : (a.fmod b).natAbs < b.natAbs := by
  rcases Int.lt_or_gt_of_ne hb with h | h
  · have e := Int.neg_fmod_neg a b
    have h1 := Int.fmod_nonneg_of_pos (-a) (show 0 < -b by omega)
    have h2 := Int.fmod_lt_of_pos (-a) (show 0 < -b by omega)
    omega
  · have h1 := Int.fmod_nonneg_of_pos a h
    have h2 := Int.fmod_lt_of_pos a h
    omega
/-- the cells that a law walks -/
theorem cells_of {ns : List Int} (h : Script ns) (xs : List Int) (k : Nat) (hx : ∀ x ∈ xs, -100 ≤ x ∧ x ≤ 100) : ∀ c ∈ xs ++ ns.take k, Bd SB c := fun c hc => by
  rcases List.mem_append.mp hc with q | q
  · exact (Bd.of_le (n := 10) (b := 100) (hx c q).1 (hx c q).2 (by decide)).mono (by unfold SB; decide)
  · exact Bd.lit (h.2 c (List.mem_of_mem_take q))
theorem neg_map (xs : List Int) : xs.map (fun n => -n) = xs.map (-1 * ·) := List.map_congr_left fun x _ => by omega
theorem qbk_pln {f : List Int} (hf : f.length = 4) (zf : ∃ n ∈ f, n ≠ 0) (h : hd f ≠ 0) : pln (qbk f) = qbk (pln f) := by
  obtain ⟨w, x, y, z, rfl⟩ := four_of hf
  have h : w ≠ 0 := h
  have eg : gl [w, -x, -y, -z] = gl [w, x, y, z] := by simp only [gl, Int.natAbs_neg]
  have ef : fs [w, -x, -y, -z] = fs [w, x, y, z] := by simp only [fs, if_neg h]
  have nd : ∀ n ∈ [w, x, y, z], (-n) / (gl [w, x, y, z] : Int) = -(n / (gl [w, x, y, z] : Int)) := fun n hn => Int.neg_ediv_of_dvd (gl_dvd hn)
  show pln [w, -x, -y, -z] = qbk (pln [w, x, y, z])
  unfold pln
  rw [eg, ef]
  simp only [List.map_cons, List.map_nil, qbk, nd x (by simp), nd y (by simp), nd z (by simp), Int.mul_neg]
theorem prow_neg (u : List Int) : prow (u.map (-1 * ·)) = (prow u).map (-1 * ·) := by
  unfold prow
  rw [gl_map_mul, List.map_map, List.map_map]
  refine List.map_congr_left fun x hx => ?_
  show (-1 * x) / (((-1 : Int).natAbs * gl u : Nat) : Int) = -1 * (x / (gl u : Int))
  have e : ((-1 : Int).natAbs * gl u : Nat) = gl u := by simp
  rw [e, Int.neg_mul, Int.one_mul, Int.neg_mul, Int.one_mul, Int.neg_ediv_of_dvd (gl_dvd hx)]
theorem axD_neg {f : List Int} (zf : ∃ n ∈ f, n ≠ 0) : axD (f.map (-1 * ·)) = axD f := by
  unfold axD
  rw [pln_smul (by decide) zf]
theorem axD_bk {f : List Int} (hf : f.length = 4) (zf : ∃ n ∈ f, n ≠ 0) : axD (qbk f) = if hd f = 0 ∨ (pln f).drop 1 = [0, 0, 0] then axD f else rowD ((prow ((pln f).drop 1)).map (-1 * ·)) := by
  by_cases h : hd f = 0
  · rw [if_pos (.inl h)]
    have e : qbk f = f.map (-1 * ·) := by
      obtain ⟨w, x, y, z, rfl⟩ := four_of hf
      have h : w = 0 := h
      subst h
      simp [qbk]
    rw [e, axD_neg zf]
  · have e := qbk_pln hf zf h
    have ed : (qbk (pln f)).drop 1 = ((pln f).drop 1).map (-1 * ·) := by
      obtain ⟨w, x, y, z, e⟩ := four_of (a := pln f) (by rw [pln_len, hf])
      rw [e]
      simp only [qbk, List.drop_succ_cons, List.drop_zero, List.map_cons, List.map_nil, Int.neg_mul, Int.one_mul]
    unfold axD
    rw [e, ed]
    by_cases h0 : (pln f).drop 1 = [0, 0, 0]
    · have k : ((pln f).drop 1).map (-1 * ·) = [0, 0, 0] := by rw [h0]; rfl
      rw [if_pos k, if_pos (show hd f = 0 ∨ (pln f).drop 1 = [0, 0, 0] from .inr h0), if_pos h0]
    · have k : ¬((pln f).drop 1).map (-1 * ·) = [0, 0, 0] := fun a => h0 (sm_zero (k := -1) (n := 3) (by decide) a)
      rw [if_neg k, if_neg (show ¬(hd f = 0 ∨ (pln f).drop 1 = [0, 0, 0]) from fun a => a.elim h h0), prow_neg]
theorem nrmI_smul {k : Int} {f : List Int} (hf : f.length = 4) : nrmI (f.map (k * ·)) = k * k * nrmI f := by
  obtain ⟨w, x, y, z, rfl⟩ := four_of hf
  simp only [nrmI, List.map_cons, List.map_nil]; grind
theorem div_scale {a b c : Rat} (hc : c ≠ 0) : (c * a) / (c * b) = a / b := by
  by_cases hb : b = 0
  · subst hb; simp [Rat.div_def]
  · have i1 := Rat.mul_inv_cancel _ (mul_ne hc hb)
    have i2 := Rat.mul_inv_cancel _ hb
    rw [Rat.div_def, Rat.div_def]
    generalize (c * b)⁻¹ = i at *
    generalize b⁻¹ = j at *
    grind
theorem rstQ_smul {k : Int} (hk : k ≠ 0) {f : List Int} (hf : f.length = 4) : rstQ (f.map (k * ·)) = rstQ f := by
  unfold rstQ
  rw [hd_map hf, nrmI_smul hf]
  have e : k * hd f * (k * hd f) = k * k * (hd f * hd f) := by grind
  have hk2 : ((k * k : Int) : Rat) ≠ 0 := by exact_mod_cast Int.mul_ne_zero hk hk
  rw [e, Rat.intCast_mul (k * k), Rat.intCast_mul (k * k)]
  exact div_scale hk2
theorem rstQ_pln {f : List Int} (hf : f.length = 4) (zf : ∃ n ∈ f, n ≠ 0) : rstQ (pln f) = rstQ f := by
  conv => rhs; rw [pln_mul zf]
  exact (rstQ_smul (fsgl_ne zf) (by rw [pln_len, hf])).symm
theorem rstQ_bk {f : List Int} (hf : f.length = 4) : rstQ (qbk f) = rstQ f := by
  obtain ⟨w, x, y, z, rfl⟩ := four_of hf
  have e : nrmI (qbk [w, x, y, z]) = nrmI [w, x, y, z] := by simp only [qbk, nrmI]; grind
  unfold rstQ
  rw [e]; rfl
theorem rstQ_conj {f g : List Int} (hf : f.length = 4) (hg : g.length = 4) (zg : ∃ n ∈ g, n ≠ 0) : rstQ (qmul g (qmul f (qbk g))) = rstQ f := by
  have e1 : hd (qmul g (qmul f (qbk g))) = nrmI g * hd f := by
    obtain ⟨w, x, y, z, rfl⟩ := four_of hf
    obtain ⟨p, q, r, s, rfl⟩ := four_of hg
    simp only [qbk, qmul, hd, nrmI, List.headD_cons]; grind
  have kb : nrmI (qbk g) = nrmI g := by
    obtain ⟨p, q, r, s, rfl⟩ := four_of hg
    simp only [qbk, nrmI]; grind
  have e2 : nrmI (qmul g (qmul f (qbk g))) = nrmI g * nrmI g * nrmI f := by
    rw [nrmI_qmul hg (qmul_len hf (qbk_len hg)), nrmI_qmul hf (qbk_len hg), kb]; grind
  have hn := nrmI_ne hg zg
  unfold rstQ
  rw [e1, e2]
  have e : nrmI g * hd f * (nrmI g * hd f) = nrmI g * nrmI g * (hd f * hd f) := by grind
  have hk2 : ((nrmI g * nrmI g : Int) : Rat) ≠ 0 := by exact_mod_cast Int.mul_ne_zero hn hn
  rw [e, Rat.intCast_mul (nrmI g * nrmI g), Rat.intCast_mul (nrmI g * nrmI g)]
  exact div_scale hk2
theorem rstQ_one {f : List Int} (hf : f.length = 4) (zf : ∃ n ∈ f, n ≠ 0) : decide (rstQ f = 1) = decide (f.drop 1 = [0, 0, 0]) := by
  have hn := nrmI_ne hf zf
  have hr : (nrmI f : Rat) ≠ 0 := by exact_mod_cast hn
  have hi := Rat.mul_inv_cancel _ hr
  have e : rstQ f = 1 ↔ hd f * hd f = nrmI f := by
    unfold rstQ
    rw [Rat.div_def]
    constructor
    · intro h
      have : ((hd f * hd f : Int) : Rat) = (nrmI f : Rat) := by
        generalize (nrmI f : Rat)⁻¹ = i at *
        grind
      exact_mod_cast this
    · intro h
      rw [h]; exact hi
  obtain ⟨w, x, y, z, rfl⟩ := four_of hf
  have h1 : (hd [w, x, y, z] * hd [w, x, y, z] = nrmI [w, x, y, z]) ↔ ([w, x, y, z].drop 1 = [0, 0, 0]) := by
    have s1 := sq_nn x; have s2 := sq_nn y; have s3 := sq_nn z
    simp only [hd, nrmI, List.headD_cons, List.drop_succ_cons, List.drop_zero, List.cons.injEq, and_true]
    constructor
    · intro h
      exact ⟨int_sq_zero (by omega), int_sq_zero (by omega), int_sq_zero (by omega)⟩
    · rintro ⟨rfl, rfl, rfl⟩; omega
  simp only [e, h1]
theorem rstQ_zero {f : List Int} (hf : f.length = 4) (zf : ∃ n ∈ f, n ≠ 0) : decide (rstQ f = 0) = (hd f == 0) := by
  have hn := nrmI_ne hf zf
  have hr : (nrmI f : Rat) ≠ 0 := by exact_mod_cast hn
  have hi := Rat.mul_inv_cancel _ hr
  have e : rstQ f = 0 ↔ hd f = 0 := by
    unfold rstQ
    rw [Rat.div_def]
    constructor
    · intro h
      have : ((hd f * hd f : Int) : Rat) = 0 := by
        generalize (nrmI f : Rat)⁻¹ = i at *
        grind
      have : hd f * hd f = 0 := by exact_mod_cast this
      rcases Int.mul_eq_zero.mp this with h | h <;> exact h
    · intro h
      rw [h, Int.mul_zero]; exact Rat.zero_mul _
  simp only [e]
  by_cases h : hd f = 0
  · simp [h]
  · simp [h]
end Z

set_option Elab.async false
set_option linter.all false
set_option maxRecDepth 100000
set_option exponentiation.threshold 20000
/-! R18: halves. -/
namespace Z
open PySem PySem.Spec PyProof.Rows L2 RZ
theorem root_lt {a b n : Int} (ha : 0 ≤ a) (hb : 0 ≤ b) (h1 : a * a ≤ n) (h2 : n < b * b) : a < b := by
  by_cases h : a < b
  · exact h
  · have : b * b ≤ a * a := Int.mul_le_mul (by omega) (by omega) (by omega) (by omega)
    omega
theorem root_eq {s t n : Int} (s0 : 0 ≤ s) (t0 : 0 ≤ t) (hs : s * s = n) (ht : t * t = n) : s = t := by
  have e : (s - t) * (s + t) = 0 := by grind
  rcases Int.mul_eq_zero.mp e with h | h <;> omega
theorem le_sq {s n : Int} (s0 : 0 ≤ s) (h : s * s ≤ n) : s ≤ n := by
  rcases Int.le_iff_lt_or_eq.mp s0 with h1 | h1
  · have : s * 1 ≤ s * s := Int.mul_le_mul (by omega) (by omega) (by omega) (by omega)
    omega
  · subst h1; omega
theorem bd_root {n : Nat} {s x : Int} (s0 : 0 ≤ s) (h : s * s ≤ x) (hx : Bd n x) : Bd n s := by
  have := le_sq s0 h
  refine Bd.lit ?_
  have := hx.lt
  omega
/-- a number as the square of one, told -/
def spIsSq : SpZ := fun rs S W => match rs with
  | [.d (.int n)] => 0 ≤ n ∧ Bd 16000 n ∧ (∀ s : Nat, (s : Int) * s = n → W (.d (.bl true)) S) ∧ ((∀ s : Nat, (s : Int) * s ≠ n) → W (.d (.bl false)) S)
  | _ => False
theorem pw2 {n : Nat} {i : Int} (h : Bd n i) (hn : n ≤ 60000 := by decide) : CPw i 2 := ⟨by decide, by decide, .inr ⟨by decide, (h.mono hn).lt⟩⟩
def hlf (f : List Int) (s : Int) : List Int := match f with
  | [w, x, y, z] => [w + s, x, y, z]
  | _ => f
theorem hlf_len {f : List Int} (s : Int) (h : f.length = 4) : (hlf f s).length = 4 := by
  obtain ⟨w, x, y, z, rfl⟩ := four_of h; rfl
/-- the first number of a plain four -/
theorem pln_hd {f : List Int} (zf : ∃ n ∈ f, n ≠ 0) (lf : f.length = 4) : 0 ≤ (pln f)[0]! := by
  have h := fs_pln zf
  have pl : (pln f).length = 4 := by rw [pln_len, lf]
  generalize pln f = g at *
  obtain ⟨w, x, y, z, rfl⟩ := four_of pl
  show 0 ≤ w
  unfold fs at h
  by_cases h0 : w = 0
  · omega
  · rw [if_neg h0] at h
    split at h <;> omega
theorem nrm_root {w x y z s : Int} (hz : ∃ n ∈ [w, x, y, z], n ≠ 0) (s0 : 0 ≤ s) (h : s * s = nrmI [w, x, y, z]) : 0 < s := by
  have := nrmI_pos hz
  rcases Int.le_iff_lt_or_eq.mp s0 with h1 | h1
  · exact h1
  · subst h1; omega
def spHalf : SpZ := fun rs S W => match rs with
  | [.d (.tup xs)] => ∃ f : List Int, xs = f.map D.int ∧ f.length = 4 ∧ (∃ n ∈ f, n ≠ 0) ∧ (∀ n ∈ f, Bd 7000 n) ∧
      (∀ s : Nat, (s : Int) * s = nrmI (pln f) → W (.d (.tup ((pln (hlf (pln f) s)).map D.int))) S) ∧ ((∀ s : Nat, (s : Int) * s ≠ nrmI (pln f)) → W (.d .non) S)
  | _ => False
theorem hlf_nz {f : List Int} {s : Int} (zf : ∃ n ∈ f, n ≠ 0) (lf : f.length = 4) (s0 : 0 ≤ s) (h : s * s = nrmI (pln f)) : ∃ n ∈ hlf (pln f) s, n ≠ 0 := by
  have p := pln_hd zf lf
  have pz := pln_nz zf
  have pl : (pln f).length = 4 := by rw [pln_len, lf]
  generalize pln f = g at *
  obtain ⟨w, x, y, z, rfl⟩ := four_of pl
  have := nrm_root pz s0 h
  have p : 0 ≤ w := p
  exact ⟨w + s, List.mem_cons_self, by omega⟩
theorem hlf_bd {n : Nat} {f : List Int} {s : Int} (lf : f.length = 4) (hf : ∀ x ∈ f, Bd n x) (hs : Bd n s) : ∀ x ∈ hlf f s, Bd (n + 1) x := by
  obtain ⟨w, x, y, z, rfl⟩ := four_of lf
  simp only [hlf, List.mem_cons, List.not_mem_nil, or_false, forall_eq_or_imp, forall_eq] at *
  exact ⟨(hf.1.add hs).mono (by omega), hf.2.1.mono (by omega), hf.2.2.1.mono (by omega), hf.2.2.2.mono (by omega)⟩
theorem nrm_bd {n : Nat} {f : List Int} (lf : f.length = 4) (hf : ∀ x ∈ f, Bd n x) : Bd (2 * n + 3) (nrmI f) := by
  obtain ⟨w, x, y, z, rfl⟩ := four_of lf
  simp only [List.mem_cons, List.not_mem_nil, or_false, forall_eq_or_imp, forall_eq] at hf
  obtain ⟨h1, h2, h3, h4⟩ := hf
  show Bd _ (w * w + x * x + y * y + z * z)
  exact ((((h1.mul h1).add (h2.mul h2)).add (h3.mul h3)).add (h4.mul h4)).mono (by omega)
theorem half_bd {n : Nat} {s : Nat} {v : Int} (hs : (s : Int) * s = v) (nb : Bd (2 * n + 3) v) : Bd (n + 2) (s : Int) := by
  refine Bd.lit ?_
  rw [Int.natAbs_natCast]
  by_cases hlt : s < 2 ^ (n + 2)
  · exact hlt
  · have a1 : 2 ^ (n + 2) * 2 ^ (n + 2) ≤ s * s := Nat.mul_le_mul (by omega) (by omega)
    rw [← Nat.pow_add] at a1
    have a2 := nb.lt
    have a3 : (s * s : Nat) = v.natAbs := by rw [← hs]; simp [Int.natAbs_mul]
    rw [← a3] at a2
    have a4 : 2 ^ (2 * n + 3) ≤ 2 ^ (n + 2 + (n + 2)) := Nat.pow_le_pow_right (by decide) (by omega)
    generalize 2 ^ (2 * n + 3) = u at *
    generalize 2 ^ (n + 2 + (n + 2)) = v at *
    clear hlt
    omega
theorem nrm_nn {f : List Int} (lf : f.length = 4) : 0 ≤ nrmI f := by
  obtain ⟨w, x, y, z, rfl⟩ := four_of lf
  have := sq_nn w; have := sq_nn x; have := sq_nn y; have := sq_nn z
  show 0 ≤ w * w + x * x + y * y + z * z
  omega
theorem root_or (n : Int) : (∃ s : Nat, (s : Int) * s = n) ∨ ∀ s : Nat, (s : Int) * s ≠ n := by
  by_cases h : ∃ s : Nat, (s : Int) * s = n
  · exact .inl h
  · exact .inr fun s hs => h ⟨s, hs⟩
/-! ### what a half makes -/
/-- g = f + |f| : g laid on itself is 2 (w + s) times f -/
theorem hlf_sq {f : List Int} {s : Int} (lf : f.length = 4) (h : s * s = nrmI f) : qmul (hlf f s) (hlf f s) = f.map ((2 * (f[0]! + s)) * ·) := by
  obtain ⟨w, x, y, z, rfl⟩ := four_of lf
  have h : s * s = w * w + x * x + y * y + z * z := h
  simp only [hlf, qmul, List.map_cons, List.map_nil, List.getElem!_cons_zero, List.cons.injEq, and_true]
  refine ⟨?_, ?_, ?_, ?_⟩ <;> grind
end Z

set_option Elab.async false
set_option linter.all false
set_option maxRecDepth 100000
set_option exponentiation.threshold 20000
/-! R19: what a half is good for. -/
namespace Z
open PySem PySem.Spec PyProof.Rows L2 RZ
def hfF (f : List Int) (s : Int) : List Int := pln (hlf (pln f) s)
theorem hfF_len {f : List Int} (s : Int) (lf : f.length = 4) : (hfF f s).length = 4 := by
  unfold hfF; rw [pln_len, hlf_len _ (by rw [pln_len, lf])]
theorem hlf_hd {f : List Int} {s : Int} (zf : ∃ n ∈ f, n ≠ 0) (lf : f.length = 4) (s0 : 0 ≤ s) (h : s * s = nrmI (pln f)) : 0 < (hlf (pln f) s)[0]! := by
  have p := pln_hd zf lf
  have pz := pln_nz zf
  have pl : (pln f).length = 4 := by rw [pln_len, lf]
  generalize pln f = g at *
  obtain ⟨w, x, y, z, rfl⟩ := four_of pl
  have := nrm_root pz s0 h
  have p : 0 ≤ w := p
  show 0 < w + s
  omega
theorem fs_hd {f : List Int} (lf : f.length = 4) (h : 0 < f[0]!) : fs f = 1 := by
  obtain ⟨w, x, y, z, rfl⟩ := four_of lf
  have h : 0 < w := h
  unfold fs
  rw [if_neg (by omega), if_neg (by omega)]
theorem hlf_scale {f : List Int} {s : Int} (zf : ∃ n ∈ f, n ≠ 0) (lf : f.length = 4) (s0 : 0 ≤ s) (h : s * s = nrmI (pln f)) : ∃ c : Int, 0 < c ∧ hlf (pln f) s = (hfF f s).map (c * ·) := by
  have hz := hlf_nz zf lf s0 h
  have hl := hlf_len s (show (pln f).length = 4 by rw [pln_len, lf])
  have e := pln_mul hz
  rw [fs_hd hl (hlf_hd zf lf s0 h), Int.one_mul] at e
  exact ⟨_, by have := gl_pos hz; omega, e⟩
theorem half_sq {f : List Int} {s : Int} (zf : ∃ n ∈ f, n ≠ 0) (lf : f.length = 4) (s0 : 0 ≤ s) (h : s * s = nrmI (pln f)) : pln (qmul (hfF f s) (hfF f s)) = pln f := by
  have hz := hlf_nz zf lf s0 h
  have pl : (pln f).length = 4 := by rw [pln_len, lf]
  have hl := hlf_len s pl
  have hd := hlf_hd zf lf s0 h
  have e := hlf_sq (f := pln f) pl h
  unfold hfF
  rw [pln_qmul_l hl (by rw [pln_len, hl]) hz (pln_nz hz), pln_qmul_r hl hl hz hz, e, pln_smul ?_ (pln_nz zf), pln_pln zf]
  have : (hlf (pln f) s)[0]! = (pln f)[0]! + s := by
    generalize pln f = g at *
    obtain ⟨w, x, y, z, rfl⟩ := four_of pl
    rfl
  omega
theorem half_other {w x y z : Int} (hz : ∃ n ∈ [w, x, y, z], n ≠ 0) (hl : 0 < x * x + y * y + z * z) :
    (∃ n ∈ [0 - (x * x + y * y + z * z), w * x, w * y, w * z], n ≠ 0) ∧ pln (qmul [0 - (x * x + y * y + z * z), w * x, w * y, w * z] [0 - (x * x + y * y + z * z), w * x, w * y, w * z]) = pln (qmul [w, x, y, z] [w, x, y, z]) := by
  refine ⟨⟨_, List.mem_cons_self, by omega⟩, ?_⟩
  have e : qmul [0 - (x * x + y * y + z * z), w * x, w * y, w * z] [0 - (x * x + y * y + z * z), w * x, w * y, w * z] = (qmul [w, x, y, z] [w, x, y, z]).map ((0 - (x * x + y * y + z * z)) * ·) := by
    simp only [qmul, List.map_cons, List.map_nil, List.cons.injEq, and_true]
    refine ⟨?_, ?_, ?_, ?_⟩ <;> grind
  rw [e, pln_smul (by omega) (qmul_nz rfl rfl hz hz)]
theorem half_amid {f : List Int} {s w x y z : Int} (zf : ∃ n ∈ f, n ≠ 0) (lf : f.length = 4) (s0 : 0 ≤ s) (h : s * s = nrmI (pln f)) (e : hfF f s = [w, x, y, z]) :
    x * x + y * y + z * z ≤ w * w ∧ (w * w = x * x + y * y + z * z ↔ (pln f)[0]! = 0) := by
  obtain ⟨c, c0, hc⟩ := hlf_scale zf lf s0 h
  have p := pln_hd zf lf
  have q := hlf_hd zf lf s0 h
  rw [e] at hc
  have pl : (pln f).length = 4 := by rw [pln_len, lf]
  generalize pln f = g at *
  obtain ⟨a, b, d, k, rfl⟩ := four_of pl
  simp only [hlf, List.map_cons, List.map_nil, List.cons.injEq, and_true] at hc
  obtain ⟨h1, h2, h3, h4⟩ := hc
  have p : 0 ≤ a := p
  have q : 0 < a + s := q
  have h : s * s = a * a + b * b + d * d + k * k := h
  have key : (c * c) * (w * w - (x * x + y * y + z * z)) = 2 * a * (a + s) := by
    have : (c * c) * (w * w - (x * x + y * y + z * z)) = (c * w) * (c * w) - ((c * x) * (c * x) + (c * y) * (c * y) + (c * z) * (c * z)) := by grind
    rw [this, ← h1, ← h2, ← h3, ← h4]; grind
  have cc : 0 < c * c := Int.mul_pos c0 c0
  have r0 : 0 ≤ 2 * a * (a + s) := Int.mul_nonneg (by omega) (by omega)
  refine ⟨?_, ?_, fun h0 => ?_⟩
  · by_cases hh : x * x + y * y + z * z ≤ w * w
    · exact hh
    · have : (c * c) * (w * w - (x * x + y * y + z * z)) < 0 := Int.mul_neg_of_pos_of_neg cc (by omega)
      omega
  · intro hh
    rw [hh, Int.sub_self, Int.mul_zero] at key
    show a = 0
    rcases Int.mul_eq_zero.mp key.symm with h | h
    · omega
    · omega
  · have h0 : a = 0 := h0
    rw [h0, Int.mul_zero, Int.zero_mul] at key
    rcases Int.mul_eq_zero.mp key with h | h <;> omega
theorem root_int {k N v : Int} (hk : k ≠ 0) (h : k * k * v = N * N) (N0 : 0 ≤ N) : ∃ s : Nat, (s : Int) * s = v ∧ (k.natAbs : Int) * s = N := by
  have d : k.natAbs ^ 2 ∣ N.natAbs ^ 2 := by
    refine ⟨v.natAbs, ?_⟩
    have := congrArg Int.natAbs h
    rw [Int.natAbs_mul, Int.natAbs_mul, Int.natAbs_mul] at this
    rw [Nat.pow_two, Nat.pow_two, this]
  have d := (Nat.pow_dvd_pow_iff (by decide)).mp d
  obtain ⟨s, hs⟩ := d
  have e : (k.natAbs : Int) * s = N := by
    have : ((k.natAbs * s : Nat) : Int) = ((N.natAbs : Nat) : Int) := by rw [hs]
    rw [Int.natCast_mul] at this
    omega
  refine ⟨s, ?_, e⟩
  have kk : (k.natAbs : Int) * k.natAbs = k * k := Int.natAbs_mul_self
  rw [← e] at h
  have h2 : (k * k) * v = (k * k) * ((s : Int) * s) := by rw [h, ← kk]; grind
  exact (Int.eq_of_mul_eq_mul_left (Int.mul_ne_zero hk hk) h2).symm
/-- a four laid on itself: its plain form has a root -/
theorem twice_root {q : List Int} (lq : q.length = 4) (zq : ∃ n ∈ q, n ≠ 0) :
    ∃ (k : Int) (s : Nat), k ≠ 0 ∧ qmul q q = (pln (qmul q q)).map (k * ·) ∧ (s : Int) * s = nrmI (pln (qmul q q)) ∧ (k.natAbs : Int) * s = nrmI q := by
  have ql := qmul_len lq lq
  have qz := qmul_nz lq lq zq zq
  have e := pln_mul qz
  have k0 : fs (qmul q q) * (gl (qmul q q) : Int) ≠ 0 := fsgl_ne qz
  have n := nrmI_qmul lq lq
  have pl : (pln (qmul q q)).length = 4 := by rw [pln_len, ql]
  generalize fs (qmul q q) * (gl (qmul q q) : Int) = k at *
  have e2 := congrArg nrmI e
  rw [n, nrmI_smul pl] at e2
  obtain ⟨s, h1, h2⟩ := root_int k0 e2.symm (nrm_nn lq)
  exact ⟨k, s, k0, e, h1, h2⟩
theorem half_rest {q : List Int} {s : Nat} (lq : q.length = 4) (zq : ∃ n ∈ q, n ≠ 0) (h : (s : Int) * s = nrmI (pln (qmul q q))) :
    (hd q * hd q) * nrmI (hfF (qmul q q) s) ≤ (hd (hfF (qmul q q) s) * hd (hfF (qmul q q) s)) * nrmI q := by
  have ql := qmul_len lq lq
  have qz := qmul_nz lq lq zq zq
  obtain ⟨k, t, k0, e, t1, t2⟩ := twice_root lq zq
  have : (t : Int) = s := root_eq (Int.natCast_nonneg _) (Int.natCast_nonneg _) t1 h
  rw [this] at t2; clear this t1 t
  obtain ⟨c, c0, hc⟩ := hlf_scale qz ql (Int.natCast_nonneg _) h
  have hl := hfF_len (f := qmul q q) s ql
  have p := pln_hd qz ql
  have pl : (pln (qmul q q)).length = 4 := by rw [pln_len, ql]
  generalize hfF (qmul q q) s = u at *
  generalize pln (qmul q q) = g at *
  obtain ⟨a, b, d, m, rfl⟩ := four_of lq
  obtain ⟨g0, g1, g2, g3, rfl⟩ := four_of pl
  obtain ⟨w, x, y, z, rfl⟩ := four_of hl
  have p : 0 ≤ g0 := p
  simp only [hlf, qmul, nrmI, List.map_cons, List.map_nil, List.cons.injEq, and_true] at hc e t2 ⊢
  show a * a * (w * w + x * x + y * y + z * z) ≤ w * w * (a * a + b * b + d * d + m * m)
  obtain ⟨c1, c2, c3, c4⟩ := hc
  obtain ⟨e1, e2, e3, e4⟩ := e
  generalize (s : Int) = s at *
  have cc : 0 < (c * c) * (k * k) := Int.mul_pos (Int.mul_pos c0 c0) (by have := sq_pos k0; exact this)
  have key : 0 ≤ ((c * c) * (k * k)) * (w * w * (a * a + b * b + d * d + m * m) - a * a * (w * w + x * x + y * y + z * z)) := by
    have r : ((c * c) * (k * k)) * (w * w * (a * a + b * b + d * d + m * m) - a * a * (w * w + x * x + y * y + z * z)) =
        (k * (c * w)) * (k * (c * w)) * (a * a + b * b + d * d + m * m) - a * a * ((k * (c * w)) * (k * (c * w)) + (k * (c * x)) * (k * (c * x)) + (k * (c * y)) * (k * (c * y)) + (k * (c * z)) * (k * (c * z))) := by grind
    rw [r, ← c1, ← c2, ← c3, ← c4]
    by_cases kp : 0 < k
    · have ks : k * s = a * a + b * b + d * d + m * m := by rw [← t2]; congr 1; omega
      have x1 : k * (g0 + s) = 2 * (a * a) := by rw [Int.mul_add, ks, ← e1]; grind
      rw [x1, ← e2, ← e3, ← e4]
      have : (2 * (a * a)) * (2 * (a * a)) * (a * a + b * b + d * d + m * m) - a * a * ((2 * (a * a)) * (2 * (a * a)) + (a * b + b * a + d * m - m * d) * (a * b + b * a + d * m - m * d) + (a * d - b * m + d * a + m * b) * (a * d - b * m + d * a + m * b) + (a * m + b * d - d * b + m * a) * (a * m + b * d - d * b + m * a)) = 0 := by grind
      omega
    · have ks : k * s = -(a * a + b * b + d * d + m * m) := by
        have : (k.natAbs : Int) = -k := by omega
        rw [this] at t2
        have : -k * s = -(k * s) := Int.neg_mul _ _
        omega
      have x1 : k * (g0 + s) = -(2 * (b * b + d * d + m * m)) := by rw [Int.mul_add, ks, ← e1]; grind
      rw [x1, ← e2, ← e3, ← e4]
      have V0 : 0 ≤ b * b + d * d + m * m := by have := sq_nn b; have := sq_nn d; have := sq_nn m; omega
      have N0 : 0 ≤ a * a + b * b + d * d + m * m := by have := sq_nn a; omega
      have D0 : 0 ≤ b * b + d * d + m * m - a * a := by
        have : k * g0 ≤ 0 := Int.mul_nonpos_of_nonpos_of_nonneg (by omega) p
        omega
      have := Int.mul_nonneg (Int.mul_nonneg (Int.mul_nonneg (show (0 : Int) ≤ 4 by decide) V0) N0) D0
      have e9 : -(2 * (b * b + d * d + m * m)) * -(2 * (b * b + d * d + m * m)) * (a * a + b * b + d * d + m * m) - a * a * (-(2 * (b * b + d * d + m * m)) * -(2 * (b * b + d * d + m * m)) + (a * b + b * a + d * m - m * d) * (a * b + b * a + d * m - m * d) + (a * d - b * m + d * a + m * b) * (a * d - b * m + d * a + m * b) + (a * m + b * d - d * b + m * a) * (a * m + b * d - d * b + m * a)) = 4 * (b * b + d * d + m * m) * (a * a + b * b + d * d + m * m) * (b * b + d * d + m * m - a * a) := by grind
      rw [e9]; exact this
  by_cases hh : a * a * (w * w + x * x + y * y + z * z) ≤ w * w * (a * a + b * b + d * d + m * m)
  · exact hh
  · have : ((c * c) * (k * k)) * (w * w * (a * a + b * b + d * d + m * m) - a * a * (w * w + x * x + y * y + z * z)) < 0 := Int.mul_neg_of_pos_of_neg cc (by omega)
    omega
end Z

set_option Elab.async false
set_option linter.all false
set_option maxRecDepth 100000
set_option exponentiation.threshold 20000
/-! R22: tables of turns. -/
namespace Z
open PySem PySem.Spec PyProof.Rows L2 RZ
def rowP (f r : List Int) : Pt := (((r[0]! : Int) : Rat) / (nrmI f : Rat), ((r[1]! : Int) : Rat) / (nrmI f : Rat), ((r[2]! : Int) : Rat) / (nrmI f : Rat))
abbrev Tb := Pt × Pt × Pt
def tabT (f : List Int) : Tb := (rowP f ((rowsI f)[0]!), rowP f ((rowsI f)[1]!), rowP f ((rowsI f)[2]!))
def tbD (t : Tb) : D := .tup [ptD t.1, ptD t.2.1, ptD t.2.2]
def tps (t : Tb) : Tb := ((t.1.1, t.2.1.1, t.2.2.1), (t.1.2.1, t.2.1.2.1, t.2.2.2.1), (t.1.2.2, t.2.1.2.2, t.2.2.2.2))
def dotP (p q : Pt) : Rat := p.1 * q.1 + p.2.1 * q.2.1 + p.2.2 * q.2.2
def crsP (p q : Pt) : Pt := (p.2.1 * q.2.2 - p.2.2 * q.2.1, p.2.2 * q.1 - p.1 * q.2.2, p.1 * q.2.1 - p.2.1 * q.1)
def laidT (t u : Tb) : Tb := ((dotP t.1 (tps u).1, dotP t.1 (tps u).2.1, dotP t.1 (tps u).2.2), (dotP t.2.1 (tps u).1, dotP t.2.1 (tps u).2.1, dotP t.2.1 (tps u).2.2), (dotP t.2.2 (tps u).1, dotP t.2.2 (tps u).2.1, dotP t.2.2 (tps u).2.2))
theorem tbD_inj {t u : Tb} : tbD t = tbD u ↔ t = u := by
  constructor
  · intro h
    simp only [tbD, D.tup.injEq, List.cons.injEq, and_true, ptD_inj] at h
    exact Prod.ext h.1 (Prod.ext h.2.1 h.2.2)
  · intro h; rw [h]
theorem eqv_tb (t u : Tb) : (py (tbD t)).eqv (py (tbD u)) = decide (t = u) := by
  have e : (py (tbD t)).eqv (py (tbD u)) = ((py (ptD t.1)).eqv (py (ptD u.1)) && ((py (ptD t.2.1)).eqv (py (ptD u.2.1)) && (py (ptD t.2.2)).eqv (py (ptD u.2.2)))) := by
    simp only [tbD, py, pys, eqv_tt, eqa_cc, eqa_nil, Bool.and_true]
  rw [e, eqv_pt, eqv_pt, eqv_pt]
  obtain ⟨a, b, c⟩ := t
  obtain ⟨d, e, f⟩ := u
  simp only [Prod.mk.injEq, Bool.decide_and]
theorem dp_tb (t : Tb) : (py (tbD t)).depth ≤ 4 := by
  have h1 := dp_pt t.1
  have h2 := dp_pt t.2.1
  have h3 := dp_pt t.2.2
  show PyData.depth (.tuple [_, _, _]) ≤ 4
  simp only [PyData.depth, PyData.depthAll]
  omega
theorem dotJ {a b c p q r m n : Int} (hm : m ≠ 0) (hn : n ≠ 0) : dotP ((a : Rat) / (m : Rat), (b : Rat) / (m : Rat), (c : Rat) / (m : Rat)) ((p : Rat) / (n : Rat), (q : Rat) / (n : Rat), (r : Rat) / (n : Rat)) = ((a * p + b * q + c * r : Int) : Rat) / ((m * n : Int) : Rat) := by
  have hm' : (m : Rat) ≠ 0 := by exact_mod_cast hm
  have hn' : (n : Rat) ≠ 0 := by exact_mod_cast hn
  have i1 := Rat.mul_inv_cancel _ hm'
  have i2 := Rat.mul_inv_cancel _ hn'
  have i3 := Rat.mul_inv_cancel _ (mul_ne hm' hn')
  simp only [dotP, Rat.intCast_add, Rat.intCast_mul, Rat.div_def]
  generalize ((m : Rat) * (n : Rat))⁻¹ = k at *
  generalize (m : Rat)⁻¹ = i at *
  generalize (n : Rat)⁻¹ = j at *
  have e : k = i * j := by grind
  rw [e]; grind
theorem sqJ {n : Int} (hn : n ≠ 0) : ((n * n : Int) : Rat) / ((n * n : Int) : Rat) = 1 := by
  have : ((n * n : Int) : Rat) ≠ 0 := by exact_mod_cast Int.mul_ne_zero hn hn
  rw [Rat.div_def, Rat.mul_inv_cancel _ this]
theorem sqJ' {n : Int} (hn : n ≠ 0) : (n : Rat) / (n : Rat) = 1 := by
  have : (n : Rat) ≠ 0 := by exact_mod_cast hn
  rw [Rat.div_def, Rat.mul_inv_cancel _ this]
theorem zJ {n : Int} : ((0 : Int) : Rat) / (n : Rat) = 0 := by
  rw [Rat.div_def, show ((0 : Int) : Rat) = 0 from rfl, Rat.zero_mul]
/-- a row of integers over a number, and another one -/
def rsI (f : List Int) : List (List Int) := rowsI f
theorem tab_orth {f : List Int} (lf : f.length = 4) (zf : ∃ n ∈ f, n ≠ 0) : dotP (tabT f).1 (tabT f).1 = 1 ∧ dotP (tabT f).1 (tabT f).2.1 = 0 ∧ dotP (tabT f).1 (tabT f).2.2 = 0 ∧
    dotP (tabT f).2.1 (tabT f).1 = 0 ∧ dotP (tabT f).2.1 (tabT f).2.1 = 1 ∧ dotP (tabT f).2.1 (tabT f).2.2 = 0 ∧
    dotP (tabT f).2.2 (tabT f).1 = 0 ∧ dotP (tabT f).2.2 (tabT f).2.1 = 0 ∧ dotP (tabT f).2.2 (tabT f).2.2 = 1 := by
  have n0 := nrmI_ne lf zf
  obtain ⟨w, x, y, z, rfl⟩ := four_of lf
  simp only [tabT, rowP, rowsI, List.getElem!_cons_zero, List.getElem!_cons_succ]
  generalize hn : nrmI [w, x, y, z] = n at *
  have hn : w * w + x * x + y * y + z * z = n := hn
  have one : ∀ {a b c : Int}, a * a + b * b + c * c = n * n → dotP ((a : Rat) / (n : Rat), (b : Rat) / (n : Rat), (c : Rat) / (n : Rat)) ((a : Rat) / (n : Rat), (b : Rat) / (n : Rat), (c : Rat) / (n : Rat)) = 1 := fun h => by rw [dotJ n0 n0, h, sqJ n0]
  have zer : ∀ {a b c p q r : Int}, a * p + b * q + c * r = 0 → dotP ((a : Rat) / (n : Rat), (b : Rat) / (n : Rat), (c : Rat) / (n : Rat)) ((p : Rat) / (n : Rat), (q : Rat) / (n : Rat), (r : Rat) / (n : Rat)) = 0 := fun h => by rw [dotJ n0 n0, h, zJ]
  refine ⟨one ?_, zer ?_, zer ?_, zer ?_, one ?_, zer ?_, zer ?_, zer ?_, one ?_⟩
  all_goals first | (rw [← hn]; grind) | grind
theorem tab_crs {f : List Int} (lf : f.length = 4) (zf : ∃ n ∈ f, n ≠ 0) : crsP (tabT f).1 (tabT f).2.1 = (tabT f).2.2 := by
  have n0 := nrmI_ne lf zf
  obtain ⟨w, x, y, z, rfl⟩ := four_of lf
  simp only [tabT, rowP, rowsI, List.getElem!_cons_zero, List.getElem!_cons_succ]
  generalize hn : nrmI [w, x, y, z] = n at *
  have hn : w * w + x * x + y * y + z * z = n := hn
  have n0' : (n : Rat) ≠ 0 := by exact_mod_cast n0
  have i1 := Rat.mul_inv_cancel _ n0'
  have key : ∀ {a b c d e : Int}, a * b - c * d = n * e → (a : Rat) / (n : Rat) * ((b : Rat) / (n : Rat)) - (c : Rat) / (n : Rat) * ((d : Rat) / (n : Rat)) = (e : Rat) / (n : Rat) := by
    intro a b c d e h
    have h := congrArg (fun t : Int => (t : Rat)) h
    simp only [Rat.intCast_sub, Rat.intCast_mul] at h
    simp only [Rat.div_def]
    generalize (n : Rat)⁻¹ = i at *
    grind
  simp only [crsP, Prod.mk.injEq]
  refine ⟨key ?_, key ?_, key ?_⟩
  all_goals (rw [← hn]; grind)
theorem tab_smul {k : Int} (hk : k ≠ 0) {f : List Int} (lf : f.length = 4) : tabT (f.map (k * ·)) = tabT f := by
  have hk' : ((k * k : Int) : Rat) ≠ 0 := by exact_mod_cast Int.mul_ne_zero hk hk
  have key : ∀ x : Int, ∀ n : Int, ((k * k * x : Int) : Rat) / ((k * k * n : Int) : Rat) = (x : Rat) / (n : Rat) := fun x n => by
    rw [Rat.intCast_mul, Rat.intCast_mul (k * k) n]; exact div_scale hk'
  have en := nrmI_smul (k := k) lf
  obtain ⟨w, x, y, z, rfl⟩ := four_of lf
  simp only [tabT, rowP]
  rw [en]
  simp only [List.map_cons, List.map_nil, rowsI, List.getElem!_cons_zero, List.getElem!_cons_succ, Prod.mk.injEq]
  generalize nrmI [w, x, y, z] = n
  have r : ∀ {u v : Int}, u = k * k * v → (u : Rat) / ((k * k * n : Int) : Rat) = (v : Rat) / (n : Rat) := fun h => by rw [h, key]
  refine ⟨⟨r ?_, r ?_, r ?_⟩, ⟨r ?_, r ?_, r ?_⟩, r ?_, r ?_, r ?_⟩ <;> grind
theorem tab_pln {f : List Int} (lf : f.length = 4) (zf : ∃ n ∈ f, n ≠ 0) : tabT (pln f) = tabT f := by
  conv => rhs; rw [pln_mul zf]
  exact (tab_smul (fsgl_ne zf) (by rw [pln_len, lf])).symm
theorem tab_bk {f : List Int} (lf : f.length = 4) : tabT (qbk f) = tps (tabT f) := by
  have en : nrmI (qbk f) = nrmI f := by
    obtain ⟨w, x, y, z, rfl⟩ := four_of lf
    simp only [nrmI, qbk]; grind
  obtain ⟨w, x, y, z, rfl⟩ := four_of lf
  simp only [tabT, rowP]
  rw [en]
  simp only [qbk, tps, rowsI, List.getElem!_cons_zero, List.getElem!_cons_succ, Prod.mk.injEq]
  generalize nrmI [w, x, y, z] = n
  have r : ∀ {u v : Int}, u = v → (u : Rat) / (n : Rat) = (v : Rat) / (n : Rat) := fun h => by rw [h]
  refine ⟨⟨r ?_, r ?_, r ?_⟩, ⟨r ?_, r ?_, r ?_⟩, r ?_, r ?_, r ?_⟩ <;> grind
theorem tab_mul {f g : List Int} (lf : f.length = 4) (lg : g.length = 4) (zf : ∃ n ∈ f, n ≠ 0) (zg : ∃ n ∈ g, n ≠ 0) : tabT (qmul f g) = laidT (tabT f) (tabT g) := by
  have n0 := nrmI_ne lf zf
  have m0 := nrmI_ne lg zg
  have en := nrmI_qmul lf lg
  obtain ⟨w, x, y, z, rfl⟩ := four_of lf
  obtain ⟨p, q, r, s, rfl⟩ := four_of lg
  simp only [tabT, rowP]
  rw [en]
  simp only [qmul, laidT, tps, rowsI, List.getElem!_cons_zero, List.getElem!_cons_succ]
  generalize nrmI [w, x, y, z] = n at *
  generalize nrmI [p, q, r, s] = m at *
  simp only [dotJ n0 m0, Prod.mk.injEq]
  have r : ∀ {u v : Int}, u = v → (u : Rat) / ((n * m : Int) : Rat) = (v : Rat) / ((n * m : Int) : Rat) := fun h => by rw [h]
  refine ⟨⟨r ?_, r ?_, r ?_⟩, ⟨r ?_, r ?_, r ?_⟩, r ?_, r ?_, r ?_⟩ <;> grind
theorem tab_rot {f : List Int} (lf : f.length = 4) (zf : ∃ n ∈ f, n ≠ 0) (p : Pt) : rot f p = (dotP (tabT f).1 p, dotP (tabT f).2.1 p, dotP (tabT f).2.2 p) := by
  have h := rot_dot lf p
  obtain ⟨w, x, y, z, rfl⟩ := four_of lf
  simp only [rowsI, List.map_cons, List.map_nil, dotQ] at h
  simp only [ptD, D.tup.injEq, List.cons.injEq, and_true, frD_inj] at h
  refine Prod.ext ?_ (Prod.ext ?_ ?_)
  · rw [h.1]
    simp only [tabT, rowP, rowsI, List.getElem!_cons_zero, List.getElem!_cons_succ, dotP, Rat.div_def]; grind
  · rw [h.2.1]
    simp only [tabT, rowP, rowsI, List.getElem!_cons_zero, List.getElem!_cons_succ, dotP, Rat.div_def]; grind
  · rw [h.2.2]
    simp only [tabT, rowP, rowsI, List.getElem!_cons_zero, List.getElem!_cons_succ, dotP, Rat.div_def]; grind
/-- one step of a product of rows -/
theorem dot_step {t b : Int} (hb : b ≠ 0) (p q : Rat) : ((t * (p.den : Int) * (q.den : Int) + p.num * q.num * b : Int) : Rat) / ((b * (p.den : Int) * (q.den : Int) : Int) : Rat) = (t : Rat) / (b : Rat) + p * q ∧ b * (p.den : Int) * (q.den : Int) ≠ 0 := by
  refine ⟨?_, Int.mul_ne_zero (Int.mul_ne_zero hb (fr_den p)) (fr_den q)⟩
  obtain ⟨d1, z1, e1, f1⟩ := fr_parts p
  obtain ⟨d2, z2, e2, f2⟩ := fr_parts q
  have hb' : (b : Rat) ≠ 0 := by exact_mod_cast hb
  simp only [Rat.intCast_add, Rat.intCast_mul, e1, e2, f1, f2]
  have i1 := Rat.mul_inv_cancel _ hb'
  have i2 := Rat.mul_inv_cancel _ (mul_ne (mul_ne hb' z1) z2)
  simp only [Rat.div_def]
  generalize ((b : Rat) * d1 * d2)⁻¹ = j at *
  generalize (b : Rat)⁻¹ = i at *
  have e : i = d1 * d2 * j := by grind
  rw [e]; grind
theorem row_bq {n : Nat} {f : List Int} (lf : f.length = 4) (zf : ∃ n ∈ f, n ≠ 0) (bf : ∀ x ∈ f, Bd n x) : (∀ q ∈ qsOf (tabT f).1, BQ (2 * n + 3) q) ∧ (∀ q ∈ qsOf (tabT f).2.1, BQ (2 * n + 3) q) ∧ (∀ q ∈ qsOf (tabT f).2.2, BQ (2 * n + 3) q) := by
  have n0 := nrmI_ne lf zf
  have nb : Bd (2 * n + 3) (nrmI f) := (nrmI_bd bf).mono (by omega)
  have rb := rowsI_bd bf
  have key : ∀ r ∈ rowsI f, ∀ q ∈ qsOf (rowP f r), BQ (2 * n + 3) q := by
    intro r hr q hq
    have b := rb r hr
    obtain ⟨x, y, z, rfl⟩ := rowsI_three hr
    simp only [List.mem_cons, List.not_mem_nil, or_false, forall_eq_or_imp, forall_eq] at b
    simp only [rowP, qsOf, List.mem_cons, List.not_mem_nil, or_false, List.getElem!_cons_zero, List.getElem!_cons_succ] at hq
    rcases hq with rfl | rfl | rfl
    · exact BQ.made n0 (b.1.mono (by omega)) nb
    · exact BQ.made n0 (b.2.1.mono (by omega)) nb
    · exact BQ.made n0 (b.2.2.mono (by omega)) nb
  obtain ⟨w, x, y, z, rfl⟩ := four_of lf
  exact ⟨key _ (by simp [rowsI]), key _ (by simp [rowsI]), key _ (by simp [rowsI])⟩
end Z

set_option Elab.async false
set_option linter.all false
set_option maxRecDepth 100000
set_option exponentiation.threshold 20000
/-! R23: turns about one way. -/
namespace Z
open PySem PySem.Spec PyProof.Rows L2 RZ
theorem abt_crs {a : List Int} (la : a.length = 3) (k l : Int) : crs a ((abt a k l).drop 1) = [0, 0, 0] := by
  obtain ⟨x, y, z, rfl⟩ := three_of la
  simp only [abt, List.drop_succ_cons, List.drop_zero, List.map_cons, List.map_nil, crs, List.cons.injEq, and_true]
  refine ⟨?_, ?_, ?_⟩ <;> grind
theorem crs_pln {a f : List Int} (la : a.length = 3) (lf : f.length = 4) (zf : ∃ n ∈ f, n ≠ 0) (h : crs a (f.drop 1) = [0, 0, 0]) : crs a ((pln f).drop 1) = [0, 0, 0] := by
  have e := pln_mul zf
  have k0 := fsgl_ne zf
  have pl : (pln f).length = 4 := by rw [pln_len, lf]
  generalize fs f * (gl f : Int) = c at *
  rw [e] at h
  have e2 : ((pln f).map (c * ·)).drop 1 = ((pln f).drop 1).map (c * ·) := by rw [List.map_drop]
  rw [e2, crs_smul la (tail_len pl)] at h
  exact sm_zero (n := 3) k0 h
theorem stab_abt {a : List Int} (la : a.length = 3) (za : ∃ n ∈ a, n ≠ 0) {k l : Int} (h : ∃ n ∈ [k, l], n ≠ 0) : stab a (pln (abt a k l)) = .tup ((pset k l).map D.int) := by
  have al := abt_len la k l
  have az := abt_nz za h
  have hc := crs_pln la al az (abt_crs la k l)
  have e := pln_mul az
  have c0 := fsgl_ne az
  have hz := fnz_lt za
  unfold stab
  rw [if_pos hc]
  have pl : (pln (abt a k l)).length = 4 := by rw [pln_len, al]
  generalize fs (abt a k l) * (gl (abt a k l) : Int) = c at *
  generalize pln (abt a k l) = f at *
  have hl : hd f * c = l := by
    obtain ⟨w, x, y, z, rfl⟩ := four_of pl
    simp only [abt, List.map_cons, List.map_nil, List.cons.injEq] at e
    rw [e.1]
    show w * c = c * w
    exact Int.mul_comm _ _
  have hk : (f.drop 1)[fnz a]! * c = k * a[fnz a]! := by
    obtain ⟨w, x, y, z, rfl⟩ := four_of pl
    obtain ⟨p, q, r, rfl⟩ := three_of la
    simp only [abt, List.map_cons, List.map_nil, List.cons.injEq, and_true] at e
    obtain ⟨_, e1, e2, e3⟩ := e
    have hz1 := hz.1
    generalize fnz [p, q, r] = i at *
    have hi : i = 0 ∨ i = 1 ∨ i = 2 := by simp at hz1; omega
    rcases hi with rfl | rfl | rfl
    · show x * c = k * p
      rw [e1, Int.mul_comm]
    · show y * c = k * q
      rw [e2, Int.mul_comm]
    · show z * c = k * r
      rw [e3, Int.mul_comm]
  have h2 : ∃ n ∈ [(f.drop 1)[fnz a]!, a[fnz a]! * hd f], n ≠ 0 := by
    obtain ⟨n, hn, h0⟩ := h
    simp only [List.mem_cons, List.not_mem_nil, or_false] at hn
    rcases hn with rfl | rfl
    · refine ⟨_, List.mem_cons_self, fun q => ?_⟩
      rw [q, Int.zero_mul] at hk
      rcases Int.mul_eq_zero.mp hk.symm with q | q
      · exact h0 q
      · exact hz.2 q
    · refine ⟨_, List.mem_cons_of_mem _ List.mem_cons_self, fun q => ?_⟩
      rcases Int.mul_eq_zero.mp q with q | q
      · exact hz.2 q
      · rw [q, Int.zero_mul] at hl; exact h0 hl.symm
  rw [← pset_smul c0 h2, Int.mul_comm c, hk]
  have e9 : c * (a[fnz a]! * hd f) = a[fnz a]! * l := by rw [← hl]; grind
  rw [e9, Int.mul_comm k, pset_smul hz.2 h]
theorem abt_mul {a : List Int} (la : a.length = 3) (k l m n : Int) : qmul (abt a k l) (abt a m n) = abt a (l * m + k * n) (l * n - k * m * dt a a) := by
  obtain ⟨x, y, z, rfl⟩ := three_of la
  simp only [abt, qmul, dt, List.map_cons, List.map_nil, List.cons.injEq, and_true]
  refine ⟨?_, ?_, ?_, ?_⟩ <;> grind
theorem pln_qmul_both {a b : List Int} (ha : a.length = 4) (hb : b.length = 4) (za : ∃ n ∈ a, n ≠ 0) (zb : ∃ n ∈ b, n ≠ 0) : pln (qmul (pln a) (pln b)) = pln (qmul a b) := by
  rw [pln_qmul_l ha (by rw [pln_len, hb]) za (pln_nz zb), pln_qmul_r ha hb za zb]
theorem abt_comm {a : List Int} (la : a.length = 3) (k l m n : Int) : qmul (abt a k l) (abt a m n) = qmul (abt a m n) (abt a k l) := by
  rw [abt_mul la, abt_mul la]
  congr 1 <;> grind
theorem stab_both {a : List Int} (la : a.length = 3) (za : ∃ n ∈ a, n ≠ 0) {k l m n : Int} (h1 : ∃ x ∈ [k, l], x ≠ 0) (h2 : ∃ x ∈ [m, n], x ≠ 0) : ∃ xs, stab a (pln (qmul (pln (abt a k l)) (pln (abt a m n)))) = .tup xs := by
  have l1 := abt_len la k l
  have l2 := abt_len la m n
  have z1 := abt_nz za h1
  have z2 := abt_nz za h2
  rw [pln_qmul_both l1 l2 z1 z2]
  have q := qmul_nz l1 l2 z1 z2
  have ql := qmul_len l1 l2
  rw [abt_mul la] at q ql ⊢
  have hc := crs_pln la ql q (abt_crs la _ _)
  unfold stab
  rw [if_pos hc]
  exact ⟨_, rfl⟩
theorem stab_len (a f : List Int) : okD 4 (stab a f) := by
  unfold stab
  split
  · exact okD_ints (by rw [pset_len]; decide)
  · trivial
end Z

set_option Elab.async false
set_option linter.all false
set_option maxRecDepth 100000
set_option exponentiation.threshold 20000
/-! R24: which tables are of turns. -/
namespace Z
open PySem PySem.Spec PyProof.Rows L2 RZ
def qsT (t : Tb) : List Rat := qsOf t.1 ++ qsOf t.2.1 ++ qsOf t.2.2
def UT (t : Tb) : Prop := dotP t.1 t.1 = 1 ∧ dotP t.2.1 t.2.1 = 1 ∧ dotP t.2.2 t.2.2 = 1 ∧ dotP t.1 t.2.1 = 0 ∧ crsP t.1 t.2.1 = t.2.2
instance (t : Tb) : Decidable (UT t) := by unfold UT; infer_instance
def okT (t : Tb) : Bool := decide (UT t)
theorem dotP_comm (p q : Pt) : dotP p q = dotP q p := by simp only [dotP]; grind
theorem UT_all {t : Tb} (h : UT t) : dotP t.1 t.1 = 1 ∧ dotP t.1 t.2.1 = 0 ∧ dotP t.1 t.2.2 = 0 ∧ dotP t.2.1 t.1 = 0 ∧ dotP t.2.1 t.2.1 = 1 ∧ dotP t.2.1 t.2.2 = 0 ∧ dotP t.2.2 t.1 = 0 ∧ dotP t.2.2 t.2.1 = 0 ∧ dotP t.2.2 t.2.2 = 1 := by
  obtain ⟨h1, h2, h3, h4, h5⟩ := h
  have a : dotP t.1 t.2.2 = 0 := by rw [← h5]; simp only [dotP, crsP]; grind
  have b : dotP t.2.1 t.2.2 = 0 := by rw [← h5]; simp only [dotP, crsP]; grind
  exact ⟨h1, h4, a, by rw [dotP_comm]; exact h4, h2, b, by rw [dotP_comm]; exact a, by rw [dotP_comm]; exact b, h3⟩
def rowB (B : Nat) (p : Pt) : List Int := (qsOf p).map (topOf B)
theorem rowB_len (B : Nat) (p : Pt) : (rowB B p).length = 3 := rfl
theorem rowB_dt {B : Nat} {p q : Pt} (hB : 0 < B) (hp : ∀ z ∈ qsOf p, z.den ∣ B) (hq : ∀ z ∈ qsOf q, z.den ∣ B) : ((dt (rowB B p) (rowB B q) : Int) : Rat) = dotP p q * ((B : Rat) * (B : Rat)) := by
  simp only [qsOf, List.mem_cons, List.not_mem_nil, or_false, forall_eq_or_imp, forall_eq] at hp hq
  obtain ⟨a1, a2, a3⟩ := hp
  obtain ⟨b1, b2, b3⟩ := hq
  simp only [rowB, qsOf, List.map_cons, List.map_nil, dt, Rat.intCast_add, Rat.intCast_mul, topOf_eq hB a1, topOf_eq hB a2, topOf_eq hB a3, topOf_eq hB b1, topOf_eq hB b2, topOf_eq hB b3, dotP]
  grind
section
variable {B : Nat} (hB : 0 < B)
include hB
theorem B_ne : (B : Rat) ≠ 0 := by exact_mod_cast (by omega : B ≠ 0)
theorem rowB_one {p q : Pt} (hp : ∀ z ∈ qsOf p, z.den ∣ B) (hq : ∀ z ∈ qsOf q, z.den ∣ B) : (dt (rowB B p) (rowB B q) = (B : Int) * B) ↔ dotP p q = 1 := by
  have e := rowB_dt hB hp hq
  have n := B_ne hB
  have n2 := mul_ne n n
  constructor
  · intro h
    rw [h, Rat.intCast_mul] at e
    have e : (B : Rat) * (B : Rat) = dotP p q * ((B : Rat) * (B : Rat)) := e
    have i := Rat.mul_inv_cancel _ n2
    generalize ((B : Rat) * (B : Rat)) = m at *
    generalize m⁻¹ = j at *
    generalize dotP p q = x at *
    grind
  · intro h
    rw [h, Rat.one_mul] at e
    have : ((dt (rowB B p) (rowB B q) : Int) : Rat) = (((B : Int) * (B : Int) : Int) : Rat) := by rw [e, Rat.intCast_mul]; rfl
    exact_mod_cast this
theorem rowB_nul {p q : Pt} (hp : ∀ z ∈ qsOf p, z.den ∣ B) (hq : ∀ z ∈ qsOf q, z.den ∣ B) : (dt (rowB B p) (rowB B q) = 0) ↔ dotP p q = 0 := by
  have e := rowB_dt hB hp hq
  have n := B_ne hB
  constructor
  · intro h
    rw [h] at e
    have e : (0 : Rat) = dotP p q * ((B : Rat) * (B : Rat)) := e
    rcases Rat.mul_eq_zero.mp e.symm with h | h
    · exact h
    · exact absurd h (mul_ne n n)
  · intro h
    rw [h, Rat.zero_mul] at e
    exact_mod_cast e
theorem rowB_crs {p q r : Pt} (hp : ∀ z ∈ qsOf p, z.den ∣ B) (hq : ∀ z ∈ qsOf q, z.den ∣ B) (hr : ∀ z ∈ qsOf r, z.den ∣ B) : (crs (rowB B p) (rowB B q) = (rowB B r).map ((B : Int) * ·)) ↔ crsP p q = r := by
  have n := B_ne hB
  have n2 := mul_ne n n
  simp only [qsOf, List.mem_cons, List.not_mem_nil, or_false, forall_eq_or_imp, forall_eq] at hp hq hr
  obtain ⟨a1, a2, a3⟩ := hp
  obtain ⟨b1, b2, b3⟩ := hq
  obtain ⟨c1, c2, c3⟩ := hr
  have key : ∀ {u v w x z : Rat}, u.den ∣ B → v.den ∣ B → w.den ∣ B → x.den ∣ B → z.den ∣ B → ((topOf B u * topOf B v - topOf B w * topOf B x = (B : Int) * topOf B z) ↔ u * v - w * x = z) := by
    intro u v w x z hu hv hw hx hz
    have e1 := topOf_eq hB hu
    have e2 := topOf_eq hB hv
    have e3 := topOf_eq hB hw
    have e4 := topOf_eq hB hx
    have e5 := topOf_eq hB hz
    have hb : (((B : Nat) : Int) : Rat) = (B : Rat) := rfl
    constructor
    · intro h
      have h := congrArg (fun i : Int => (i : Rat)) h
      simp only [Rat.intCast_sub, Rat.intCast_mul, e1, e2, e3, e4, e5, hb] at h
      have i := Rat.mul_inv_cancel _ n
      generalize (B : Rat) = m at *
      generalize m⁻¹ = j at *
      have : (u * v - w * x) * (m * m) = z * (m * m) := by grind
      have e : (u * v - w * x) = (u * v - w * x) * (m * m) * (j * j) := by grind
      rw [e, this]; grind
    · intro h
      have : ((topOf B u * topOf B v - topOf B w * topOf B x : Int) : Rat) = (((B : Int) * topOf B z : Int) : Rat) := by
        simp only [Rat.intCast_sub, Rat.intCast_mul, e1, e2, e3, e4, e5, hb]
        rw [← h]; grind
      exact_mod_cast this
  obtain ⟨p1, p2, p3⟩ := p
  obtain ⟨q1, q2, q3⟩ := q
  obtain ⟨r1, r2, r3⟩ := r
  simp only [rowB, qsOf, List.map_cons, List.map_nil, crs, List.cons.injEq, and_true, crsP, Prod.mk.injEq]
  rw [key a2 b3 a3 b2 c1, key a3 b1 a1 b3 c2, key a1 b2 a2 b1 c3]
end
theorem rowB_bd {m n : Nat} {B : Nat} {p : Pt} (hB : 0 < B) (bB : Bd m (B : Int)) (hp : ∀ z ∈ qsOf p, z.den ∣ B) (bp : ∀ z ∈ qsOf p, BQ n z) : ∀ x ∈ rowB B p, Bd (n + m) x := by
  intro x hx
  obtain ⟨z, hz, rfl⟩ := List.mem_map.mp hx
  have b := (bp z hz).1
  have d := hp z hz
  have : Bd m ((B / z.den : Nat) : Int) := by
    refine Bd.lit ?_
    have := bB.lt
    rw [Int.natAbs_natCast] at this ⊢
    exact Nat.lt_of_le_of_lt (Nat.div_le_self _ _) this
  exact b.mul this
theorem fr_made {t b : Int} (hb : 0 < b) (hg : Int.gcd t b = 1) : frD ((t : Rat) / (b : Rat)) = .tup [.int t, .int b] := by
  rw [frD_pos hb, hg]
  simp
theorem fr_plus (q : Rat) : D.tup [.int (q.num + (q.den : Int)), .int (q.den : Int)] = frD (((q.num + (q.den : Int) : Int) : Rat) / ((q.den : Int) : Rat)) := by
  refine (fr_made (by have := q.den_pos; omega) ?_).symm
  have h := q.reduced
  have : Int.gcd (q.num + (q.den : Int)) (q.den : Int) = Int.gcd q.num (q.den : Int) := by simp
  rw [this]
  exact h
theorem fr_neg (q : Rat) : D.tup [.int (-q.num), .int (q.den : Int)] = frD (-q) := by unfold frD; rw [Rat.neg_num, Rat.neg_den]
/-- all parts of a size -/
def BT (n : Nat) (t : Tb) : Prop := ∀ z ∈ qsT t, BQ n z
def BP (n : Nat) (p : Pt) : Prop := ∀ z ∈ qsOf p, BQ n z
theorem BP.mono {m n : Nat} {p : Pt} (h : BP m p) (k : m ≤ n) : BP n p := fun z hz => (h z hz).mono k
theorem BT.rows {n : Nat} {t : Tb} (h : BT n t) : BP n t.1 ∧ BP n t.2.1 ∧ BP n t.2.2 := by
  unfold BT qsT at h
  exact ⟨fun z hz => h z (by simp [hz]), fun z hz => h z (by simp [hz]), fun z hz => h z (by simp [hz])⟩
theorem BT.of {n : Nat} {p q r : Pt} (h1 : BP n p) (h2 : BP n q) (h3 : BP n r) : BT n (p, q, r) := by
  intro z hz
  simp only [qsT, List.mem_append] at hz
  rcases hz with (hz | hz) | hz
  · exact h1 z hz
  · exact h2 z hz
  · exact h3 z hz
theorem BP.of {n : Nat} {a b c : Rat} (h1 : BQ n a) (h2 : BQ n b) (h3 : BQ n c) : BP n (a, b, c) := by
  intro z hz
  simp only [qsOf, List.mem_cons, List.not_mem_nil, or_false] at hz
  rcases hz with rfl | rfl | rfl <;> assumption
theorem BP.parts {n : Nat} {p : Pt} (h : BP n p) : BQ n p.1 ∧ BQ n p.2.1 ∧ BQ n p.2.2 := ⟨h _ (by simp [qsOf]), h _ (by simp [qsOf]), h _ (by simp [qsOf])⟩
theorem crsP_bq {m n : Nat} {p q : Pt} (hp : BP m p) (hq : BP n q) : BP (2 * m + 2 * n + 1) (crsP p q) := by
  obtain ⟨a1, a2, a3⟩ := hp.parts
  obtain ⟨b1, b2, b3⟩ := hq.parts
  exact BP.of (((a2.mul b3).sub (a3.mul b2)).mono (by omega)) (((a3.mul b1).sub (a1.mul b3)).mono (by omega)) (((a1.mul b2).sub (a2.mul b1)).mono (by omega))
def sumP (p q : Pt) (a b : Rat) : Pt := (p.1 * a + q.1 * b, p.2.1 * a + q.2.1 * b, p.2.2 * a + q.2.2 * b)
theorem sumP_bq {n : Nat} {p q : Pt} {a b : Rat} (hp : BP n p) (hq : BP n q) (ha : BQ 3 a) (hb : BQ 3 b) : BP (2 * n + 7) (sumP p q a b) := by
  obtain ⟨a1, a2, a3⟩ := hp.parts
  obtain ⟨b1, b2, b3⟩ := hq.parts
  exact BP.of (((a1.mul ha).add (b1.mul hb)).mono (by omega)) (((a2.mul ha).add (b2.mul hb)).mono (by omega)) (((a3.mul ha).add (b3.mul hb)).mono (by omega))
theorem c3_a {a b c : D} : cutD [a, b, c] none (some 0) = [] := rfl
theorem c3_b {a b c : D} : cutD [a, b, c] none (some 1) = [a] := rfl
theorem c3_c {a b c : D} : cutD [a, b, c] none (some 2) = [a, b] := rfl
theorem c3_d {a b c : D} : cutD [a, b, c] (some 1) none = [b, c] := rfl
theorem c3_e {a b c : D} : cutD [a, b, c] (some 2) none = [c] := rfl
theorem c3_f {a b c : D} : cutD [a, b, c] (some 3) none = [] := rfl
def fourN (n : Int) : Nat := if n ≤ 4 then 7 else 100
def numN (k : Int) : Nat := if k ≤ 3 then 7 else 100
theorem fourN_ge (n : Int) : 7 ≤ fourN n := by unfold fourN; split <;> decide
theorem numN_le {k n : Int} (h : k < n) : numN k ≤ fourN n := by unfold fourN numN; split <;> split <;> omega
theorem one_bd (n : Int) : Bd (fourN n) 1 := Bd.mono (Bd.lit (n := 1) (by decide)) (by have := fourN_ge n; omega)
end Z

set_option Elab.async false
set_option linter.all false
set_option maxRecDepth 100000
set_option exponentiation.threshold 20000
/-! R54: fours of tables. -/
namespace Z
open PySem PySem.Spec PyProof.Rows L2 RZ
/-- the four fours of a table's rows over one bottom -/
def cndI (k : Nat) (n : Int) (p q r : List Int) : List Int := match p, q, r with
  | [a, b, c], [d, e, f], [g, h, i] => match k with
    | 0 => [n + a + e + i, h - f, c - g, d - b]
    | 1 => [h - f, n + a - e - i, b + d, c + g]
    | 2 => [c - g, b + d, n - a + e - i, f + h]
    | _ => [d - b, c + g, f + h, n - a - e + i]
  | _, _, _ => []
def cndQ (k : Nat) (a b c d e f g h i : Rat) : Rat × Rat × Rat × Rat := match k with
  | 0 => (1 + a + e + i, h - f, c - g, d - b)
  | 1 => (h - f, 1 + a - e - i, b + d, c + g)
  | 2 => (c - g, b + d, 1 - a + e - i, f + h)
  | _ => (d - b, c + g, f + h, 1 - a - e + i)
set_option maxHeartbeats 4000000 in
theorem cndQ_tab (a b c d e f g h i : Rat) (h1 : a * a + b * b + c * c = 1) (h2 : d * d + e * e + f * f = 1) (h4 : a * d + b * e + c * f = 0) (hg : g = b * f - c * e) (hh : h = c * d - a * f) (hi : i = a * e - b * d) (k : Nat) (hk : k < 4) :
    let (w, x, y, z) := cndQ k a b c d e f g h i
    let N := w * w + x * x + y * y + z * z
    (w * w + x * x - y * y - z * z = a * N ∧ 2 * (x * y - w * z) = b * N ∧ 2 * (x * z + w * y) = c * N) ∧ (2 * (x * y + w * z) = d * N ∧ w * w - x * x + y * y - z * z = e * N ∧ 2 * (y * z - w * x) = f * N) ∧ (2 * (x * z - w * y) = g * N ∧ 2 * (y * z + w * x) = h * N ∧ w * w - x * x - y * y + z * z = i * N) := by
  have : k = 0 ∨ k = 1 ∨ k = 2 ∨ k = 3 := by omega
  rcases this with rfl | rfl | rfl | rfl <;> simp only [cndQ] <;> refine ⟨⟨?_, ?_, ?_⟩, ⟨?_, ?_, ?_⟩, ?_, ?_, ?_⟩ <;> grind
theorem tab_of {w x y z : Int} (zf : ∃ n ∈ [w, x, y, z], n ≠ 0) {a b c d e f g h i u W X Y Z N : Rat} (eN : N = W * W + X * X + Y * Y + Z * Z) (hw : (w : Rat) = u * W) (hx : (x : Rat) = u * X) (hy : (y : Rat) = u * Y) (hz : (z : Rat) = u * Z)
    (k : (W * W + X * X - Y * Y - Z * Z = a * N ∧ 2 * (X * Y - W * Z) = b * N ∧ 2 * (X * Z + W * Y) = c * N) ∧ (2 * (X * Y + W * Z) = d * N ∧ W * W - X * X + Y * Y - Z * Z = e * N ∧ 2 * (Y * Z - W * X) = f * N) ∧ (2 * (X * Z - W * Y) = g * N ∧ 2 * (Y * Z + W * X) = h * N ∧ W * W - X * X - Y * Y + Z * Z = i * N)) :
    tabT [w, x, y, z] = ((a, b, c), (d, e, f), (g, h, i)) := by
  have n0 := nrmI_ne (a := [w, x, y, z]) rfl zf
  have en : ((nrmI [w, x, y, z] : Int) : Rat) = u * u * N := by
    simp only [nrmI, Rat.intCast_add, Rat.intCast_mul, hw, hx, hy, hz, eN]
    grind
  have n1 : ((nrmI [w, x, y, z] : Int) : Rat) ≠ 0 := by exact_mod_cast n0
  have fin : ∀ {p q r : Rat}, q = r * ((nrmI [w, x, y, z] : Int) : Rat) → q / ((nrmI [w, x, y, z] : Int) : Rat) = r := fun {p q r} h => by
    rw [h, Rat.mul_div_cancel n1]
  obtain ⟨⟨k1, k2, k3⟩, ⟨k4, k5, k6⟩, k7, k8, k9⟩ := k
  simp only [tabT, rowP, rowsI, Prod.mk.injEq]
  refine ⟨⟨?_, ?_, ?_⟩, ⟨?_, ?_, ?_⟩, ?_, ?_, ?_⟩ <;> refine fin (p := 0) ?_ <;> rw [en] <;> simp only [List.getElem!_cons_zero, List.getElem!_cons_succ, Rat.intCast_add, Rat.intCast_sub, Rat.intCast_mul, Rat.intCast_ofNat, hw, hx, hy, hz] <;> clear zf fin n0 n1 en hw hx hy hz eN <;> grind
theorem cnd_len (k : Nat) (n : Int) (B : Nat) (p q r : Pt) : (cndI k n (rowB B p) (rowB B q) (rowB B r)).length = 4 := by
  show (cndI k n [_, _, _] [_, _, _] [_, _, _]).length = 4
  unfold cndI
  match k with
  | 0 => rfl
  | 1 => rfl
  | 2 => rfl
  | k + 3 => rfl
theorem cnd_tab {t : Tb} (u : UT t) {B : Nat} (hB : 0 < B) (dv : ∀ z ∈ qsT t, z.den ∣ B) {k : Nat} (hk : k < 4) (zf : ∃ n ∈ cndI k B (rowB B t.1) (rowB B t.2.1) (rowB B t.2.2), n ≠ 0) : tabT (cndI k B (rowB B t.1) (rowB B t.2.1) (rowB B t.2.2)) = t := by
  obtain ⟨⟨a, b, c⟩, ⟨d, e, f⟩, g, h, i⟩ := t
  simp only [qsT, qsOf, List.cons_append, List.nil_append, List.mem_cons, List.not_mem_nil, or_false, forall_eq_or_imp, forall_eq] at dv
  obtain ⟨v1, v2, v3, v4, v5, v6, v7, v8, v9⟩ := dv
  have e1 := topOf_eq hB v1
  have e2 := topOf_eq hB v2
  have e3 := topOf_eq hB v3
  have e4 := topOf_eq hB v4
  have e5 := topOf_eq hB v5
  have e6 := topOf_eq hB v6
  have e7 := topOf_eq hB v7
  have e8 := topOf_eq hB v8
  have e9 := topOf_eq hB v9
  obtain ⟨u1, u2, u3, u4, u5⟩ := u
  simp only [dotP, crsP, Prod.mk.injEq] at u1 u2 u3 u4 u5
  have Q := cndQ_tab a b c d e f g h i u1 u2 u4 u5.1.symm u5.2.1.symm u5.2.2.symm k hk
  simp only [rowB, qsOf, List.map_cons, List.map_nil] at zf ⊢
  generalize topOf B a = ta at *
  generalize topOf B b = tb at *
  generalize topOf B c = tc at *
  generalize topOf B d = td at *
  generalize topOf B e = te at *
  generalize topOf B f = tf at *
  generalize topOf B g = tg at *
  generalize topOf B h = th at *
  generalize topOf B i = ti at *
  have eB : (((B : Nat) : Int) : Rat) = (B : Rat) := rfl
  have : k = 0 ∨ k = 1 ∨ k = 2 ∨ k = 3 := by omega
  rcases this with rfl | rfl | rfl | rfl <;> simp only [cndI, cndQ] at zf Q ⊢ <;> refine tab_of zf (u := (B : Rat)) rfl ?_ ?_ ?_ ?_ Q <;> simp only [Rat.intCast_add, Rat.intCast_sub, e1, e2, e3, e4, e5, e6, e7, e8, e9, eB] <;> grind
/-- equal tables, one turn -/
theorem tab_inj {f g : List Int} (lf : f.length = 4) (lg : g.length = 4) (zf : ∃ n ∈ f, n ≠ 0) (zg : ∃ n ∈ g, n ≠ 0) (h : tabT f = tabT g) : pln f = pln g := by
  refine pln_of_rot lf lg zf zg ?_ ?_
  · rw [tab_rot lf zf, tab_rot lg zg, h]
  · rw [tab_rot lf zf, tab_rot lg zg, h]
/-- the four of a turn's table -/
structure FoT (t : Tb) (r : List Int) : Prop where
  len : r.length = 4
  nz : ∃ n ∈ r, n ≠ 0
  pl : pln r = r
  tab : tabT r = t
theorem FoT.uniq {t : Tb} {r s : List Int} (h : FoT t r) (k : FoT t s) : r = s := by
  have := tab_inj h.len k.len h.nz k.nz (h.tab.trans k.tab.symm)
  rw [h.pl, k.pl] at this
  exact this
theorem FoT.of {t : Tb} {f : List Int} (lf : f.length = 4) (zf : ∃ n ∈ f, n ≠ 0) (h : tabT f = t) : FoT t (pln f) := ⟨by rw [pln_len, lf], pln_nz zf, pln_pln zf, by rw [tab_pln lf zf]; exact h⟩
/-- a half turn: the table is its own turned one -/
theorem cnd_zero {t : Tb} (u : UT t) {B : Nat} (hB : 0 < B) (dv : ∀ z ∈ qsT t, z.den ∣ B) {a b c d e f g h i : Int} (e1 : rowB B t.1 = [a, b, c]) (e2 : rowB B t.2.1 = [d, e, f]) (e3 : rowB B t.2.2 = [g, h, i]) (hw : (B : Int) + a + e + i = 0) : h = f ∧ c = g ∧ d = b := by
  obtain ⟨⟨pa, pb, pc⟩, ⟨pd, pe, pf⟩, pg, ph, pi⟩ := t
  simp only [qsT, qsOf, List.cons_append, List.nil_append, List.mem_cons, List.not_mem_nil, or_false, forall_eq_or_imp, forall_eq] at dv
  obtain ⟨v1, v2, v3, v4, v5, v6, v7, v8, v9⟩ := dv
  have k1 := topOf_eq hB v1
  have k2 := topOf_eq hB v2
  have k3 := topOf_eq hB v3
  have k4 := topOf_eq hB v4
  have k5 := topOf_eq hB v5
  have k6 := topOf_eq hB v6
  have k7 := topOf_eq hB v7
  have k8 := topOf_eq hB v8
  have k9 := topOf_eq hB v9
  obtain ⟨u1, u2, u3, u4, u5⟩ := u
  simp only [dotP, crsP, Prod.mk.injEq] at u1 u2 u3 u4 u5
  simp only [rowB, qsOf, List.map_cons, List.map_nil, List.cons.injEq, and_true] at e1 e2 e3
  obtain ⟨rfl, rfl, rfl⟩ := e1
  obtain ⟨rfl, rfl, rfl⟩ := e2
  obtain ⟨rfl, rfl, rfl⟩ := e3
  generalize topOf B pa = ta at *
  generalize topOf B pb = tb at *
  generalize topOf B pc = tc at *
  generalize topOf B pd = td at *
  generalize topOf B pe = te at *
  generalize topOf B pf = tf at *
  generalize topOf B pg = tg at *
  generalize topOf B ph = th at *
  generalize topOf B pi = ti at *
  have hBr : (B : Rat) ≠ 0 := by exact_mod_cast (by omega : B ≠ 0)
  have w0 : 1 + pa + pe + pi = 0 := by
    have : (((B : Int) + ta + te + ti : Int) : Rat) = 0 := by rw [hw]; rfl
    simp only [Rat.intCast_add, k1, k5, k9] at this
    have eB : (((B : Nat) : Int) : Rat) = (B : Rat) := rfl
    rw [eB] at this
    have h2 : (1 + pa + pe + pi) * (B : Rat) = 0 := by grind
    rcases Rat.mul_eq_zero.mp h2 with h | h
    · exact h
    · exact absurd h hBr
  have sq : (ph - pf) * (ph - pf) + (pc - pg) * (pc - pg) + (pd - pb) * (pd - pb) = 0 := by
    obtain ⟨g1, g2, g3⟩ := u5
    clear k1 k2 k3 k4 k5 k6 k7 k8 k9
    grind
  have nn : ∀ x : Rat, 0 ≤ x * x := fun x => by
    rcases Rat.le_total (a := 0) (b := x) with h | h
    · exact Rat.mul_nonneg h h
    · have := Rat.mul_nonneg (show 0 ≤ -x by grind) (show 0 ≤ -x by grind)
      grind
  have n1 := nn (ph - pf)
  have n2 := nn (pc - pg)
  have n3 := nn (pd - pb)
  have zero : ∀ {x : Rat}, x * x = 0 → x = 0 := fun h => by
    rcases Rat.mul_eq_zero.mp h with h | h <;> exact h
  have z1 := zero (x := ph - pf) (by grind)
  have z2 := zero (x := pc - pg) (by grind)
  have z3 := zero (x := pd - pb) (by grind)
  have f1 : ph = pf := by grind
  have f2 : pc = pg := by grind
  have f3 : pd = pb := by grind
  refine ⟨?_, ?_, ?_⟩
  · have : (th : Rat) = (tf : Rat) := by rw [k8, k6, f1]
    exact_mod_cast this
  · have : (tc : Rat) = (tg : Rat) := by rw [k3, k7, f2]
    exact_mod_cast this
  · have : (td : Rat) = (tb : Rat) := by rw [k4, k2, f3]
    exact_mod_cast this
def wayK (k : Nat) (n a b c d e f g h i : Int) : List Int := match k with
  | 0 => [a + n, d, g]
  | 1 => [b, e + n, h]
  | _ => [c, f, i + n]
def diaK (k : Nat) (a e i : Int) : Int := match k with
  | 0 => a
  | 1 => e
  | _ => i
theorem way_tab {t : Tb} (u : UT t) {B : Nat} (hB : 0 < B) (dv : ∀ z ∈ qsT t, z.den ∣ B) {a b c d e f g h i : Int} (e1 : rowB B t.1 = [a, b, c]) (e2 : rowB B t.2.1 = [d, e, f]) (e3 : rowB B t.2.2 = [g, h, i]) (hw : (B : Int) + a + e + i = 0) {k : Nat} (hk : k < 3)
    (hd : diaK k a e i + B ≠ 0) : (∃ n ∈ 0 :: wayK k B a b c d e f g h i, n ≠ 0) ∧ FoT t (pln (0 :: wayK k B a b c d e f g h i)) := by
  obtain ⟨z1, z2, z3⟩ := cnd_zero u hB dv e1 e2 e3 hw
  have T := cnd_tab u hB dv (k := k + 1) (by omega)
  rw [e1, e2, e3] at T
  have e4 : cndI (k + 1) B [a, b, c] [d, e, f] [g, h, i] = (0 :: wayK k B a b c d e f g h i).map ((2 : Int) * ·) := by
    have : k = 0 ∨ k = 1 ∨ k = 2 := by omega
    rcases this with rfl | rfl | rfl <;> simp only [cndI, wayK, List.map_cons, List.map_nil, List.cons.injEq, and_true] <;> refine ⟨?_, ?_, ?_, ?_⟩ <;> omega
  have nz : ∃ n ∈ 0 :: wayK k B a b c d e f g h i, n ≠ 0 := by
    refine ⟨_, ?_, hd⟩
    have : k = 0 ∨ k = 1 ∨ k = 2 := by omega
    rcases this with rfl | rfl | rfl <;> simp [wayK, diaK]
  have l4 : (0 :: wayK k B a b c d e f g h i).length = 4 := by
    have : k = 0 ∨ k = 1 ∨ k = 2 := by omega
    rcases this with rfl | rfl | rfl <;> rfl
  rw [e4] at T
  refine ⟨nz, FoT.of l4 nz ?_⟩
  rw [← tab_smul (k := 2) (by decide) l4]
  exact T (nz_map (by decide) nz)
/-! ### sizes -/
theorem sq_le {x n : Int} (h : x * x ≤ n * n) : x.natAbs ≤ n.natAbs := by
  have h1 : ((x.natAbs * x.natAbs : Nat) : Int) = x * x := Int.natAbs_mul_self
  have h2 : ((n.natAbs * n.natAbs : Nat) : Int) = n * n := Int.natAbs_mul_self
  have : x.natAbs * x.natAbs ≤ n.natAbs * n.natAbs := by omega
  exact Nat.mul_self_le_mul_self_iff.mp this
theorem row_le {B : Nat} (hB : 0 < B) {p : Pt} (dv : ∀ z ∈ qsOf p, z.den ∣ B) (h : dotP p p = 1) : ∀ x ∈ rowB B p, x.natAbs ≤ B := by
  have e := (rowB_one hB dv dv).mpr h
  simp only [rowB, qsOf, List.map_cons, List.map_nil, dt, List.mem_cons, List.not_mem_nil, or_false, forall_eq_or_imp, forall_eq] at e ⊢
  generalize topOf B p.1 = a at *
  generalize topOf B p.2.1 = b at *
  generalize topOf B p.2.2 = c at *
  have a0 := sq_nn a
  have b0 := sq_nn b
  have c0 := sq_nn c
  have fin : ∀ {x : Int}, x * x ≤ (B : Int) * B → x.natAbs ≤ B := fun h => by simpa using sq_le h
  exact ⟨fin (by omega), fin (by omega), fin (by omega)⟩
/-- a plain four's size divides four times each bottom of its table -/
theorem plain_size {r : List Int} (lf : r.length = 4) (zf : ∃ n ∈ r, n ≠ 0) (hp : pln r = r) {B : Nat} (hB : 0 < B) (dv : ∀ z ∈ qsT (tabT r), z.den ∣ B) : nrmI r ∣ 4 * (B : Int) := by
  have g1 : gl r = 1 := by rw [← hp]; exact gl_pln zf
  have n0 := nrmI_ne lf zf
  obtain ⟨w, x, y, z, rfl⟩ := four_of lf
  have hBr : (B : Rat) ≠ 0 := by exact_mod_cast (by omega : B ≠ 0)
  have n1 : ((nrmI [w, x, y, z] : Int) : Rat) ≠ 0 := by exact_mod_cast n0
  have one : ∀ {t : Int}, ((t : Rat) / ((nrmI [w, x, y, z] : Int) : Rat)).den ∣ B → nrmI [w, x, y, z] ∣ B * t := fun {t} h => by
    have e := topOf_eq hB h
    have e2 : ((topOf B ((t : Rat) / ((nrmI [w, x, y, z] : Int) : Rat)) * nrmI [w, x, y, z] : Int) : Rat) = (((B : Int) * t : Int) : Rat) := by
      rw [Rat.intCast_mul, e, Rat.intCast_mul]
      show (t : Rat) / _ * (B : Rat) * _ = (B : Rat) * (t : Rat)
      have := Rat.div_mul_cancel (a := (t : Rat)) n1
      generalize (t : Rat) / ((nrmI [w, x, y, z] : Int) : Rat) = q at *
      grind
    have e3 : topOf B ((t : Rat) / ((nrmI [w, x, y, z] : Int) : Rat)) * nrmI [w, x, y, z] = (B : Int) * t := by exact_mod_cast e2
    exact ⟨_, by rw [← e3, Int.mul_comm]⟩
  simp only [tabT, rowP, rowsI, qsT, qsOf, List.getElem!_cons_zero, List.getElem!_cons_succ, List.cons_append, List.nil_append, List.mem_cons, List.not_mem_nil, or_false, forall_eq_or_imp, forall_eq] at dv
  obtain ⟨v1, v2, v3, v4, v5, v6, v7, v8, v9⟩ := dv
  have d1 := one v1
  have d2 := one v2
  have d3 := one v3
  have d4 := one v4
  have d5 := one v5
  have d6 := one v6
  have d7 := one v7
  have d8 := one v8
  have d9 := one v9
  have dN : nrmI [w, x, y, z] ∣ B * nrmI [w, x, y, z] := Int.dvd_mul_left _ _
  clear v1 v2 v3 v4 v5 v6 v7 v8 v9 one hBr n1 n0 zf hp
  have key : ∀ u ∈ [w, x, y, z], ∀ v ∈ [w, x, y, z], nrmI [w, x, y, z] ∣ 4 * B * u * v := by
    have eN : nrmI [w, x, y, z] = w * w + x * x + y * y + z * z := rfl
    generalize nrmI [w, x, y, z] = N at *
    have ad : ∀ {p q s : Int}, N ∣ p → N ∣ q → s = p + q → N ∣ s := fun h k e => e ▸ Int.dvd_add h k
    have sb : ∀ {p q s : Int}, N ∣ p → N ∣ q → s = p - q → N ∣ s := fun h k e => e ▸ Int.dvd_sub h k
    have ww : N ∣ 4 * B * w * w := ad (ad dN d1 rfl) (ad d5 d9 rfl) (by subst eN; grind)
    have xx : N ∣ 4 * B * x * x := sb (ad dN d1 rfl) (ad d5 d9 rfl) (by subst eN; grind)
    have yy : N ∣ 4 * B * y * y := sb (ad dN d5 rfl) (ad d1 d9 rfl) (by subst eN; grind)
    have zz : N ∣ 4 * B * z * z := sb (ad dN d9 rfl) (ad d1 d5 rfl) (by subst eN; grind)
    have wx : N ∣ 4 * B * w * x := sb d8 d6 (by grind)
    have wy : N ∣ 4 * B * w * y := sb d3 d7 (by grind)
    have wz : N ∣ 4 * B * w * z := sb d4 d2 (by grind)
    have xy : N ∣ 4 * B * x * y := ad d2 d4 (by grind)
    have xz : N ∣ 4 * B * x * z := ad d3 d7 (by grind)
    have yz : N ∣ 4 * B * y * z := ad d6 d8 (by grind)
    have sw : ∀ {u v : Int}, N ∣ 4 * B * u * v → N ∣ 4 * B * v * u := fun {u v} h => by
      rw [show 4 * (B : Int) * v * u = 4 * B * u * v by grind]; exact h
    simp only [List.mem_cons, List.not_mem_nil, or_false, forall_eq_or_imp, forall_eq]
    exact ⟨⟨ww, wx, wy, wz⟩, ⟨sw wx, xx, xy, xz⟩, ⟨sw wy, sw xy, yy, yz⟩, sw wz, sw xz, sw yz, zz⟩
  generalize nrmI [w, x, y, z] = N at *
  generalize [w, x, y, z] = r at *
  have up : ∀ {c : Int}, (∀ v ∈ r, N ∣ c * v) → N ∣ c := fun {c} h => by
    have h1 : N.natAbs ∣ gl (r.map (c * ·)) := dvd_gl fun v hv => by
      obtain ⟨v0, hv0, rfl⟩ := List.mem_map.mp hv
      exact Int.natAbs_dvd.mpr (h v0 hv0)
    rw [gl_map_mul, g1, Nat.mul_one] at h1
    exact Int.natAbs_dvd_natAbs.mp h1
  exact up fun u hu => up (key u hu)
theorem FoT.bd {t : Tb} {r : List Int} (h : FoT t r) {B n : Nat} (hB : 0 < B) (dv : ∀ z ∈ qsT t, z.den ∣ B) (bB : Bd (2 * n) (B : Int)) : ∀ x ∈ r, Bd (n + 1) x := by
  have d := plain_size h.len h.nz h.pl hB (by rw [h.tab]; exact dv)
  have p : 0 < nrmI r := by
    have hz := h.nz
    obtain ⟨w, x, y, z, e⟩ := four_of h.len
    rw [e] at hz ⊢
    exact nrmI_pos hz
  have le : nrmI r ≤ 4 * (B : Int) := Int.le_of_dvd (by omega) d
  have sq : ∀ x ∈ r, x * x ≤ nrmI r := by
    obtain ⟨w, x, y, z, rfl⟩ := four_of h.len
    have a := sq_nn w
    have b := sq_nn x
    have c := sq_nn y
    have d := sq_nn z
    simp only [nrmI, List.mem_cons, List.not_mem_nil, or_false, forall_eq_or_imp, forall_eq]
    omega
  intro x hx
  have h1 := sq x hx
  simp only [bd_iff, Int.natAbs_natCast] at bB ⊢
  have h2 : ((x.natAbs * x.natAbs : Nat) : Int) = x * x := Int.natAbs_mul_self
  have h3 : x.natAbs * x.natAbs ≤ 4 * B := by omega
  apply Classical.byContradiction
  intro hn
  have h4 : 2 ^ (n + 1) ≤ x.natAbs := by omega
  have h5 := Nat.mul_le_mul h4 h4
  rw [← Nat.pow_add, show n + 1 + (n + 1) = 2 + 2 * n by omega, Nat.pow_add] at h5
  omega
end Z

set_option Elab.async false
set_option linter.all false
set_option maxRecDepth 100000
set_option exponentiation.threshold 20000
/-! R25: rows of turns. -/
namespace Z
open PySem PySem.Spec PyProof.Rows L2 RZ
/-- a comprehension whose turns write into the store: J holds of it, G of what is made -/
theorem lcL_inv {k : Nat} {chk : Sto → Prop} {f : R → Rho → Option Rho} {t : PT1} {w : PE1} {r : Rho} {items : List R} (J : Sto → Prop) (G : D → Prop) (hk : ∀ S, J S → S.take k = S) (hc : ∀ S, J S → chk S)
    (h : ∀ x ∈ items, ∀ S, J S → ∃ r1, f x r = some r1 ∧ (∀ W1 : Bool → Sto → Prop, W1 true S → t r1 S W1) ∧ ∀ W1 : PK1, (∀ d S', G d → J S' → W1 (.r (.d d)) S') → w r1 S W1)
    {S : Sto} {W : List D → Sto → Prop} (h0 : J S) (q : ∀ ds S', ds.length = items.length → (∀ d ∈ ds, G d) → J S' → W ds S') : lcL k chk f t w r items S W := by
  induction items generalizing S W with
  | nil => exact ⟨hc S h0, q [] S rfl (by simp) h0⟩
  | cons x xs ih =>
    obtain ⟨r1, h1, h2, h3⟩ := h x (by simp) S h0
    unfold lcL
    refine ⟨hc S h0, ?_⟩
    rw [h1]
    refine h2 _ ?_
    rw [if_pos rfl]
    refine h3 _ fun d S' hd hj => ?_
    show lcL k chk f t w r xs (S'.take k) _
    rw [hk S' hj]
    exact ih (fun y hy => h y (List.mem_cons_of_mem _ hy)) hj fun ds S'' hl hg hj' => q (d :: ds) S'' (by simp [hl]) (by
      intro e he
      rcases List.mem_cons.mp he with rfl | he
      · exact hd
      · exact hg e he) hj'
/-- the same, by what holds ahead of each turn -/
theorem lcL_invN {k : Nat} {chk : Sto → Prop} {f : R → Rho → Option Rho} {t : PT1} {w : PE1} {r : Rho} {items : List R} (J : Nat → Sto → Prop) (G : D → Prop) (hk : ∀ i S, J i S → S.take k = S) (hc : ∀ i S, J i S → chk S)
    {n : Nat} (h : ∀ i, i < n + items.length → ∀ x ∈ items, ∀ S, J i S → ∃ r1, f x r = some r1 ∧ (∀ W1 : Bool → Sto → Prop, W1 true S → t r1 S W1) ∧ ∀ W1 : PK1, (∀ d S', G d → J (i + 1) S' → W1 (.r (.d d)) S') → w r1 S W1)
    {S : Sto} {W : List D → Sto → Prop} (h0 : J n S) (q : ∀ ds S', ds.length = items.length → (∀ d ∈ ds, G d) → J (n + items.length) S' → W ds S') : lcL k chk f t w r items S W := by
  induction items generalizing S W n with
  | nil => exact ⟨hc n S h0, q [] S rfl (by simp) h0⟩
  | cons x xs ih =>
    obtain ⟨r1, h1, h2, h3⟩ := h n (by simp) x (by simp) S h0
    unfold lcL
    refine ⟨hc n S h0, ?_⟩
    rw [h1]
    refine h2 _ ?_
    rw [if_pos rfl]
    refine h3 _ fun d S' hd hj => ?_
    show lcL k chk f t w r xs (S'.take k) _
    rw [hk (n + 1) S' hj]
    exact ih (fun i hi y hy => h i (by rw [List.length_cons]; omega) y (List.mem_cons_of_mem _ hy)) hj fun ds S'' hl hg hj' => q (d :: ds) S'' (by simp [hl]) (by
      intro e he
      rcases List.mem_cons.mp he with rfl | he
      · exact hd
      · exact hg e he) (by
      rw [List.length_cons, show n + (xs.length + 1) = n + 1 + xs.length by omega]; exact hj')
def prodF (fs : List (List Int)) : List Int := fs.foldl (fun g f => qmul f g) [1, 0, 0, 0]
structure OkF (f : List Int) : Prop where
  len : f.length = 4
  nz : ∃ n ∈ f, n ≠ 0
  bd : ∀ x ∈ f, Bd 100 x
theorem one_l {g : List Int} (lg : g.length = 4) : qmul [1, 0, 0, 0] g = g := by
  rw [qmul_one_l lg]; simp
theorem one_r {g : List Int} (lg : g.length = 4) : qmul g [1, 0, 0, 0] = g := by
  rw [qmul_one_r lg]; simp
theorem prodF_snoc (fs : List (List Int)) (f : List Int) : prodF (fs ++ [f]) = qmul f (prodF fs) := by unfold prodF; simp
theorem prodF_from {fs : List (List Int)} (h : ∀ f ∈ fs, OkF f) : ∀ g : List Int, g.length = 4 → fs.foldl (fun g f => qmul f g) g = qmul (prodF fs) g ∧ (prodF fs).length = 4 ∧ (∃ n ∈ prodF fs, n ≠ 0) ∧ ∀ x ∈ prodF fs, Bd (103 * fs.length + 1) x := by
  induction fs with
  | nil =>
    intro g lg
    refine ⟨(one_l lg).symm, rfl, ⟨1, by simp [prodF], by decide⟩, fun x hx => ?_⟩
    simp only [prodF, List.foldl_nil, List.mem_cons, List.not_mem_nil, or_false] at hx
    rcases hx with rfl | rfl | rfl | rfl
    · exact Bd.lit (by decide)
    all_goals exact Bd.zero
  | cons f fs ih =>
    intro g lg
    have o := h f (by simp)
    have ih := ih fun g hg => h g (by simp [hg])
    obtain ⟨e1, l1, z1, b1⟩ := ih (qmul f g) (qmul_len o.len lg)
    obtain ⟨e2, _, _, _⟩ := ih (qmul f [1, 0, 0, 0]) (qmul_len o.len rfl)
    have e3 : prodF (f :: fs) = qmul (prodF fs) f := by
      show fs.foldl (fun g f => qmul f g) (qmul f [1, 0, 0, 0]) = _
      rw [e2, one_r o.len]
    refine ⟨?_, ?_, ?_, ?_⟩
    · show fs.foldl (fun g f => qmul f g) (qmul f g) = _
      rw [e1, e3, qmul_assoc l1 o.len lg]
    · rw [e3]; exact qmul_len l1 o.len
    · rw [e3]; exact qmul_nz l1 o.len z1 o.nz
    · rw [e3]
      intro x hx
      refine (qmul_bd b1 o.bd x hx).mono ?_
      rw [List.length_cons]; omega
section
variable {fs gs : List (List Int)} {f : List Int} (h : ∀ f ∈ fs, OkF f)
include h
theorem prodF_len : (prodF fs).length = 4 := (prodF_from h [1, 0, 0, 0] rfl).2.1
theorem prodF_nz : ∃ n ∈ prodF fs, n ≠ 0 := (prodF_from h [1, 0, 0, 0] rfl).2.2.1
theorem prodF_bd : ∀ x ∈ prodF fs, Bd (103 * fs.length + 1) x := (prodF_from h [1, 0, 0, 0] rfl).2.2.2
theorem prodF_cons (o : OkF f) : prodF (f :: fs) = qmul (prodF fs) f := by
  show fs.foldl (fun g f => qmul f g) (qmul f [1, 0, 0, 0]) = _
  rw [(prodF_from h (qmul f [1, 0, 0, 0]) (qmul_len o.len rfl)).1, one_r o.len]
theorem prodF_app (k : ∀ f ∈ gs, OkF f) : prodF (fs ++ gs) = qmul (prodF gs) (prodF fs) := by
  unfold prodF
  rw [List.foldl_append]
  exact (prodF_from k _ (prodF_len h)).1
end
def backs (fs : List (List Int)) : List (List Int) := fs.reverse.map fun f => pln (qbk f)
theorem okF_back {f : List Int} (o : OkF f) : OkF (pln (qbk f)) := ⟨by rw [pln_len, qbk_len o.len], pln_nz (qbk_nz o.len o.nz), pln_bds (qbk_nz o.len o.nz) (qbk_bd o.bd)⟩
theorem backs_ok {fs : List (List Int)} (h : ∀ f ∈ fs, OkF f) : ∀ f ∈ backs fs, OkF f := by
  intro f hf
  obtain ⟨g, hg, rfl⟩ := List.mem_map.mp hf
  exact okF_back (h g (List.mem_reverse.mp hg))
theorem back_one {f : List Int} (lf : f.length = 4) (zf : ∃ n ∈ f, n ≠ 0) : ∃ k : Int, k ≠ 0 ∧ qmul (pln (qbk f)) f = [k, 0, 0, 0] := by
  have kz := qbk_nz lf zf
  have kl := qbk_len lf
  have e := pln_mul kz
  have c0 := fsgl_ne kz
  have pl : (pln (qbk f)).length = 4 := by rw [pln_len, kl]
  have n0 := nrmI_ne lf zf
  have hq : qmul (qbk f) f = [nrmI f, 0, 0, 0] := by
    obtain ⟨w, x, y, z, rfl⟩ := four_of lf
    simp only [qmul, qbk, nrmI, List.cons.injEq, and_true]
    refine ⟨?_, ?_, ?_, ?_⟩ <;> grind
  generalize fs (qbk f) * (gl (qbk f) : Int) = c at *
  rw [e] at hq
  generalize pln (qbk f) = u at *
  have e2 : (qmul u f).map (c * ·) = [nrmI f, 0, 0, 0] := by
    rw [← hq]
    obtain ⟨w, x, y, z, rfl⟩ := four_of lf
    obtain ⟨p, q, r, s, rfl⟩ := four_of pl
    simp only [qmul, List.map_cons, List.map_nil, List.cons.injEq, and_true]
    refine ⟨?_, ?_, ?_, ?_⟩ <;> grind
  have ql := qmul_len pl lf
  obtain ⟨a, b, d, g, eq⟩ := four_of ql
  rw [eq] at e2 ⊢
  simp only [List.map_cons, List.map_nil, List.cons.injEq, and_true] at e2
  obtain ⟨h1, h2, h3, h4⟩ := e2
  have z : ∀ {i : Int}, c * i = 0 → i = 0 := fun h => by
    rcases Int.mul_eq_zero.mp h with h | h
    · exact absurd h c0
    · exact h
  refine ⟨a, ?_, by rw [z h2, z h3, z h4]⟩
  rintro rfl
  rw [Int.mul_zero] at h1
  exact n0 h1.symm
theorem prodF_back {fs : List (List Int)} (h : ∀ f ∈ fs, OkF f) : ∃ k : Int, k ≠ 0 ∧ qmul (prodF (backs fs)) (prodF fs) = [k, 0, 0, 0] := by
  induction fs with
  | nil => exact ⟨1, by decide, rfl⟩
  | cons f fs ih =>
    have o := h f (by simp)
    have hf : ∀ g ∈ fs, OkF g := fun g hg => h g (by simp [hg])
    obtain ⟨k, k0, hk⟩ := ih hf
    have e1 : backs (f :: fs) = backs fs ++ [pln (qbk f)] := by simp [backs]
    have l1 := prodF_len (backs_ok hf)
    have l2 := prodF_len hf
    have ob := okF_back o
    rw [e1, prodF_snoc, prodF_cons hf o]
    rw [qmul_assoc ob.len l1 (qmul_len l2 o.len), ← qmul_assoc l1 l2 o.len, hk, qmul_one_l o.len]
    obtain ⟨m, m0, hm⟩ := back_one o.len o.nz
    have e2 : qmul (pln (qbk f)) (f.map (k * ·)) = (qmul (pln (qbk f)) f).map (k * ·) := by
      have ol := o.len
      have bl := ob.len
      generalize pln (qbk f) = u at *
      obtain ⟨w, x, y, z, rfl⟩ := four_of ol
      obtain ⟨p, q, r, s, rfl⟩ := four_of bl
      simp only [qmul, List.map_cons, List.map_nil, List.cons.injEq, and_true]
      refine ⟨?_, ?_, ?_, ?_⟩ <;> grind
    rw [e2, hm]
    exact ⟨k * m, Int.mul_ne_zero k0 m0, by simp⟩
theorem fours_of : ∀ {ds : List D}, (∀ d ∈ ds, ∃ f : List Int, OkF f ∧ d = .tup (f.map D.int)) → ∃ fs : List (List Int), ds = fs.map (fun f => D.tup (f.map D.int)) ∧ ∀ f ∈ fs, OkF f
  | [], _ => ⟨[], rfl, by simp⟩
  | d :: ds, h => by
    obtain ⟨f, o, rfl⟩ := h d (by simp)
    obtain ⟨fs, rfl, k⟩ := fours_of (ds := ds) fun e he => h e (List.mem_cons_of_mem _ he)
    exact ⟨f :: fs, rfl, fun g hg => by
      rcases List.mem_cons.mp hg with rfl | hg
      · exact o
      · exact k g hg⟩
theorem prodF_rot {fs : List (List Int)} (h : ∀ f ∈ fs, OkF f) {f : List Int} (o : OkF f) (p : Pt) : rot (prodF (fs ++ [f])) p = rot f (rot (prodF fs) p) := by
  rw [prodF_snoc, rot_comp (prodF_len h) o.len]
theorem pln_both {a b : List Int} (ha : a.length = 4) (hb : b.length = 4) (za : ∃ n ∈ a, n ≠ 0) (zb : ∃ n ∈ b, n ≠ 0) : pln (qmul (pln a) (pln b)) = pln (qmul a b) := by
  rw [pln_qmul_l ha (by rw [pln_len, hb]) za (pln_nz zb), pln_qmul_r ha hb za zb]
end Z

set_option Elab.async false
set_option linter.all false
set_option maxRecDepth 100000
set_option maxHeartbeats 1000000
/-! Z9: zip of a text and a tuple. -/
namespace Z
open PySem PySem.Spec PyProof.Rows L2 RZ
theorem IsStrIter_at {h h' : Heap} {a : Addr} {ty : String} {x : Str} {t : Tok} {i : Nat} (y : h.IsStrIter a ty x t i) (k : ∀ o, h.get? a = some o → h'.get? a = some o) : h'.IsStrIter a ty x t i :=
  let ⟨o, ho, r⟩ := y; ⟨o, k o ho, r⟩
section
variable {prog : Program} {w : World} {A : Around} {E : Value → Shared → Prop} {s : Shared}
theorem zipS_next_item {zA tI tO i1 i2 l2 : Addr} {k1 k2 : Nat} {ys : Array Value} {sx : Str} {t : Tok} {c0 : Nat} {y a b : Value} {Q : Value → Shared → Prop} (AP : ZipApart zA tI tO i1 i2 l2 l2)
    (jz : IsZip s.heap zA tI tO .none) (jI : IsPair s.heap tI (.ref i1) (.ref i2)) (jO : IsPair s.heap tO a b)
    (j1 : s.heap.IsStrIter i1 "str_ascii_iterator" sx t k1) (j2 : s.heap.IsTupleIter i2 l2 k2) (jl2 : s.heap.IsTuple l2 ys) (jx : sx.cps[k1]? = some c0) (jy : ys[k2]? = some y)
    (jQ : ∀ h', IsZip h' zA tI tO (rawInt s.heap.objs.size) → IsPair h' tO (.str ⟨#[c0]⟩ s.toks) y → h'.IsStrIter i1 "str_ascii_iterator" sx t (k1 + 1) → h'.IsTupleIter i2 l2 (k2 + 1) → IsPair h' s.heap.objs.size (.str ⟨#[c0]⟩ s.toks) y → h'.objs.size = s.heap.objs.size + 1 →
      (∀ c o, c ≠ zA → c ≠ tO → c ≠ i1 → c ≠ i2 → s.heap.get? c = some o → h'.get? c = some o) → Q (.ref s.heap.objs.size) { s with heap := h', toks := s.toks + 1 }) :
    wpAny (model prog w) A (Builtin.«zip.__next__» ⟨[.ref zA], []⟩) (fun fin s' => ∃ v, fin = .done (.ret v) ∧ Q v s') E s := by
  show wpAny _ _ (field (.ref zA) 2 >>= _) _ _ _
  refine wpAny_bind (wpAny_field jz rfl (x := .bool false) rfl ?_)
  show wpAny _ _ (field (.ref zA) 3 >>= _) _ _ _
  refine wpAny_bind (wpAny_field jz rfl (x := .ref tI) rfl ?_)
  refine wpAny_bind (wpAny_seqItems jI rfl ?_)
  show wpAny _ _ (Builtin.SmallTypes.ownedTupleIsFree (.ref zA) >>= _) _ _ _
  refine wpAny_bind ?_
  unfold Builtin.SmallTypes.ownedTupleIsFree
  refine wpAny_bind (wpAny_field jz rfl (x := .none) rfl (wpAny_pure ?_))
  simp only [if_true]
  refine wpAny_bind (wpAny_rule ?_)
  refine wpAny_bind (wpAny_field jz rfl (x := .ref tO) rfl ?_)
  refine wpAny_bind (wpAny_setField_rec jz (by simp) fun ka za sa => ?_)
  replace za : IsZip ka zA tI tO .ellipsis := za
  refine wpAny_bind ?_
  simp only [List.zipIdx_cons, List.zipIdx_nil, List.forIn_cons, List.forIn_nil]

  refine wpAny_bind (wpAny_bind (wpAny_onRaise ?_))
  show wpAny _ _ (Builtin.SmallTypes.nextOf (.ref i1) >>= _) _ _ _
  refine wpAny_bind (wpAny_nextOf_ascii_item (j1.extBut sa.extBut AP.i1z) jx fun kb jb1 sb => wpAny_pure ?_)
  have ob : IsPair kb tO a b := sb.extBut _ _ AP.TOi1 (sa.extBut _ _ AP.TOz jO)
  refine wpAny_bind (wpAny_seqItems ob rfl ?_)
  refine wpAny_bind (wpAny_updateSeq_pair ob fun kc oc sc => ?_)
  replace oc : IsPair kc tO (.str ⟨#[c0]⟩ s.toks) b := oc
  refine wpAny_bind (wpAny_letGo (wpAny_pure ?_))

  refine wpAny_bind (wpAny_bind (wpAny_onRaise ?_))
  show wpAny _ _ (Builtin.SmallTypes.nextOf (.ref i2) >>= _) _ _ _
  refine wpAny_bind (nextOf_tuple_item (((j2.extBut sa.extBut AP.i2z).extBut sb.extBut AP.i12.symm).extBut sc.extBut AP.TOi2.symm)
    (((jl2.extBut sa.extBut AP.l2z).extBut sb.extBut AP.l2i1).extBut sc.extBut AP.l2TO) jy fun kd jd2 sd => wpAny_pure ?_)
  have od : IsPair kd tO (.str ⟨#[c0]⟩ s.toks) b := sd.extBut _ _ AP.TOi2 oc
  refine wpAny_bind (wpAny_seqItems od rfl ?_)
  refine wpAny_bind (wpAny_updateSeq_pair od fun ke oe se => ?_)
  replace oe : IsPair ke tO (.str ⟨#[c0]⟩ s.toks) y := oe
  refine wpAny_bind (wpAny_letGo (wpAny_pure (wpAny_pure ?_)))

  refine wpAny_bind (wpAny_seqItems oe rfl ?_)
  refine wpAny_bind (wpAny_newTuple ?_)
  have wsz : ke.objs.size = s.heap.objs.size := by rw [se.1, sd.1, sc.1, sb.1, sa.1]
  have ze : IsZip ke zA tI tO .ellipsis := se.extBut _ _ AP.TOz.symm (sd.extBut _ _ AP.i2z.symm (sc.extBut _ _ AP.TOz.symm (sb.extBut _ _ AP.i1z.symm za)))
  have kk5 : ∀ c o, c ≠ zA → c ≠ tO → c ≠ i1 → c ≠ i2 → s.heap.get? c = some o → ke.get? c = some o := fun c o c1 c2 c3 c4 e =>
    se.extBut _ _ c2 (sd.extBut _ _ c4 (sc.extBut _ _ c2 (sb.extBut _ _ c3 (sa.extBut _ _ c1 e))))
  have je1 : ke.IsStrIter i1 "str_ascii_iterator" sx t (k1 + 1) := ((jb1.extBut sc.extBut AP.TOi1.symm).extBut sd.extBut AP.i12).extBut se.extBut AP.TOi1.symm
  have je2 : ke.IsTupleIter i2 l2 (k2 + 1) := jd2.extBut se.extBut AP.TOi2.symm
  have zlt : zA < ke.objs.size := Heap.lt_size ze
  have Olt : tO < ke.objs.size := Heap.lt_size oe
  have i1lt : i1 < ke.objs.size := by obtain ⟨_, e, _⟩ := je1; exact Heap.lt_size e
  have i2lt : i2 < ke.objs.size := by obtain ⟨_, e, _⟩ := je2; exact Heap.lt_size e
  show wpAny _ _ (Builtin.SmallTypes.ownedTupleHandOut (.ref zA) (.ref ke.objs.size) >>= _) _ _ _
  refine wpAny_bind ?_
  unfold Builtin.SmallTypes.ownedTupleHandOut
  have zf : IsZip (ke.push { cls := .type "tuple", data := .seq #[(.str ⟨#[c0]⟩ s.toks), y] }) zA tI tO .ellipsis := Heap.get?_push_of_some _ ze
  refine wpAny_bind (wpAny_setField_rec zf (by simp) fun kg zg sg => ?_)
  replace zg : IsZip kg zA tI tO (rawInt ke.objs.size) := zg
  refine wpAny_setField_rec zg (by simp) fun kh zh sh => ?_
  replace zh : IsZip kh zA tI tO (rawInt ke.objs.size) := zh
  have up : ∀ c o, c ≠ zA → ke.get? c = some o → kh.get? c = some o := fun c o c1 e => sh.extBut _ _ c1 (sg.extBut _ _ c1 (Heap.get?_push_of_some _ e))
  have th : IsPair kh ke.objs.size (.str ⟨#[c0]⟩ s.toks) y := sh.extBut _ _ (Nat.ne_of_gt zlt) (sg.extBut _ _ (Nat.ne_of_gt zlt) (Heap.get?_push_size _ rfl))
  have zs8 : kh.objs.size = ke.objs.size + 1 := by rw [sh.1, sg.1, Heap.size_push]
  rw [wsz] at zh th zs8
  refine wpAny_pure ⟨_, rfl, ?_⟩
  show Q (.ref ke.objs.size) _
  rw [wsz]
  exact jQ kh zh (up _ _ AP.TOz oe) (IsStrIter_at je1 fun o e => up _ o AP.i1z e) (je2.at fun o e => up _ o AP.i2z e) th zs8 fun c o c1 c2 c3 c4 e => up c o c1 (kk5 c o c1 c2 c3 c4 e)


theorem zipS_next_end {zA tI tO i1 i2 l2 : Addr} {k1 k2 : Nat} {ys : Array Value} {sx : Str} {t : Tok} {a b : Value} {Q : PySem.Fin → Shared → Prop} (jh : A.handled = none) (AP : ZipApart zA tI tO i1 i2 l2 l2)
    (jz : IsZip s.heap zA tI tO .none) (jI : IsPair s.heap tI (.ref i1) (.ref i2)) (jO : IsPair s.heap tO a b)
    (j1 : s.heap.IsStrIter i1 "str_ascii_iterator" sx t k1) (j2 : s.heap.IsTupleIter i2 l2 k2) (jl2 : s.heap.IsTuple l2 ys) (jend : sx.cps[k1]? = none ∨ ys[k2]? = none)
    (jE : ∀ h' e, (∀ c o, c ≠ zA → c ≠ tO → c ≠ i1 → c ≠ i2 → s.heap.get? c = some o → h'.get? c = some o) → (∃ o, h'.get? e = some o ∧ o.cls = .type "StopIteration") → ∀ tk, E (.ref e) { s with heap := h', toks := tk }) :
    wpAny (model prog w) A (Builtin.«zip.__next__» ⟨[.ref zA], []⟩) Q E s := by
  show wpAny _ _ (field (.ref zA) 2 >>= _) _ _ _
  refine wpAny_bind (wpAny_field jz rfl (x := .bool false) rfl ?_)
  show wpAny _ _ (field (.ref zA) 3 >>= _) _ _ _
  refine wpAny_bind (wpAny_field jz rfl (x := .ref tI) rfl ?_)
  refine wpAny_bind (wpAny_seqItems jI rfl ?_)
  show wpAny _ _ (Builtin.SmallTypes.ownedTupleIsFree (.ref zA) >>= _) _ _ _
  refine wpAny_bind ?_
  unfold Builtin.SmallTypes.ownedTupleIsFree
  refine wpAny_bind (wpAny_field jz rfl (x := .none) rfl (wpAny_pure ?_))
  simp only [if_true]
  refine wpAny_bind (wpAny_rule ?_)
  refine wpAny_bind (wpAny_field jz rfl (x := .ref tO) rfl ?_)
  refine wpAny_bind (wpAny_setField_rec jz (by simp) fun ka za sa => ?_)
  replace za : IsZip ka zA tI tO .ellipsis := za
  refine wpAny_bind ?_
  simp only [List.zipIdx_cons, List.zipIdx_nil, List.forIn_cons, List.forIn_nil]
  refine wpAny_bind (wpAny_bind (wpAny_onRaise ?_))
  show wpAny _ _ (Builtin.SmallTypes.nextOf (.ref i1) >>= _) _ _ _
  cases jx : sx.cps[k1]? with
  | none =>
    refine wpAny_bind (wpAny_nextOf_ascii_end jh (j1.extBut sa.extBut AP.i1z) jx fun kb e sb he => ?_)
    obtain ⟨oe, he1, he2⟩ := he
    have zb : IsZip kb zA tI tO .ellipsis := sb _ _ AP.i1z.symm za
    have ez : e ≠ zA := fun x => by subst x; rw [zb] at he1; cases he1; simp at he2
    refine wpAny_setField_rec zb (by simp) fun kc _ sc => jE kc e (fun c o c1 _ c3 _ x => sc.extBut _ _ c1 (sb _ _ c3 (sa.extBut _ _ c1 x))) ⟨oe, sc.extBut _ _ ez he1, he2⟩ _
  | some c0 =>
    have jy : ys[k2]? = none := by rcases jend with h | h; rw [jx] at h; cases h; exact h
    refine wpAny_bind (wpAny_nextOf_ascii_item (j1.extBut sa.extBut AP.i1z) jx fun kb jb1 sb => wpAny_pure ?_)
    have ob : IsPair kb tO a b := sb.extBut _ _ AP.TOi1 (sa.extBut _ _ AP.TOz jO)
    refine wpAny_bind (wpAny_seqItems ob rfl ?_)
    refine wpAny_bind (wpAny_updateSeq_pair ob fun kc oc sc => ?_)
    refine wpAny_bind (wpAny_letGo (wpAny_pure ?_))
    refine wpAny_bind (wpAny_bind (wpAny_onRaise ?_))
    show wpAny _ _ (Builtin.SmallTypes.nextOf (.ref i2) >>= _) _ _ _
    refine wpAny_bind (nextOf_tuple_end jh (((j2.extBut sa.extBut AP.i2z).extBut sb.extBut AP.i12.symm).extBut sc.extBut AP.TOi2.symm)
      (((jl2.extBut sa.extBut AP.l2z).extBut sb.extBut AP.l2i1).extBut sc.extBut AP.l2TO) jy fun kd e sd he => ?_)
    obtain ⟨oe, he1, he2⟩ := he
    have zd : IsZip kd zA tI tO .ellipsis := sd _ _ AP.i2z.symm (sc.extBut _ _ AP.TOz.symm (sb.extBut _ _ AP.i1z.symm za))
    have ez : e ≠ zA := fun x => by subst x; rw [zd] at he1; cases he1; simp at he2
    refine wpAny_setField_rec zd (by simp) fun ke _ se => jE ke e (fun c o c1 c2 c3 c4 x => se.extBut _ _ c1 (sd _ _ c4 (sc.extBut _ _ c2 (sb.extBut _ _ c3 (sa.extBut _ _ c1 x))))) ⟨oe, se.extBut _ _ ez he1, he2⟩ _


theorem pyNext_zipS_item {zA tI tO i1 i2 l2 : Addr} {k1 k2 : Nat} {ys : Array Value} {sx : Str} {t : Tok} {c0 : Nat} {y a b : Value} {Q : Option Value → Shared → Prop} (AP : ZipApart zA tI tO i1 i2 l2 l2)
    (jz : IsZip s.heap zA tI tO .none) (jI : IsPair s.heap tI (.ref i1) (.ref i2)) (jO : IsPair s.heap tO a b)
    (j1 : s.heap.IsStrIter i1 "str_ascii_iterator" sx t k1) (j2 : s.heap.IsTupleIter i2 l2 k2) (jl2 : s.heap.IsTuple l2 ys) (jx : sx.cps[k1]? = some c0) (jy : ys[k2]? = some y)
    (jQ : ∀ h', IsZip h' zA tI tO (rawInt s.heap.objs.size) → IsPair h' tO (.str ⟨#[c0]⟩ s.toks) y → h'.IsStrIter i1 "str_ascii_iterator" sx t (k1 + 1) → h'.IsTupleIter i2 l2 (k2 + 1) → IsPair h' s.heap.objs.size (.str ⟨#[c0]⟩ s.toks) y → h'.objs.size = s.heap.objs.size + 1 →
      (∀ c o, c ≠ zA → c ≠ tO → c ≠ i1 → c ≠ i2 → s.heap.get? c = some o → h'.get? c = some o) → Q (some (.ref s.heap.objs.size)) { s with heap := h', toks := s.toks + 1 }) :
    wpAny (model prog w) A (pyNext (.ref zA)) Q E s := by
  have jT : s.TypeIs (.ref zA) "zip" := ⟨_, jz, rfl⟩
  unfold pyNext
  exact wpAny_bind (wpAny_attempt (wpAny_callSpecial?_slot (name := Str.ofString "__next__") jT F.slot_zip_next
    (wpAny_call_entry F.slot_zip_next jT F.entry_zip_next
      (zipS_next_item AP jz jI jO j1 j2 jl2 jx jy fun h' a1 a2 a3 a4 a5 a6 a7 => wpAny_pure (jQ h' a1 a2 a3 a4 a5 a6 a7)) (F.args_zip_next_1 _))))

theorem pyNext_zipS_end {zA tI tO i1 i2 l2 : Addr} {k1 k2 : Nat} {ys : Array Value} {sx : Str} {t : Tok} {a b : Value} {Q : Option Value → Shared → Prop} (jh : A.handled = none) (AP : ZipApart zA tI tO i1 i2 l2 l2)
    (jz : IsZip s.heap zA tI tO .none) (jI : IsPair s.heap tI (.ref i1) (.ref i2)) (jO : IsPair s.heap tO a b)
    (j1 : s.heap.IsStrIter i1 "str_ascii_iterator" sx t k1) (j2 : s.heap.IsTupleIter i2 l2 k2) (jl2 : s.heap.IsTuple l2 ys) (jend : sx.cps[k1]? = none ∨ ys[k2]? = none)
    (jQ : ∀ h', (∀ c o, c ≠ zA → c ≠ tO → c ≠ i1 → c ≠ i2 → s.heap.get? c = some o → h'.get? c = some o) → ∀ tk, Q none { s with heap := h', toks := tk }) : wpAny (model prog w) A (pyNext (.ref zA)) Q E s := by
  have jT : s.TypeIs (.ref zA) "zip" := ⟨_, jz, rfl⟩
  unfold pyNext
  refine wpAny_bind (wpAny_attempt (wpAny_callSpecial?_slot (name := Str.ofString "__next__") jT F.slot_zip_next
    (wpAny_call_entry F.slot_zip_next jT F.entry_zip_next (zipS_next_end jh AP jz jI jO j1 j2 jl2 jend fun h' e hk he tk => ?_) (F.args_zip_next_1 _))))
  obtain ⟨o, ho, hc⟩ := he
  refine wpAny_bind (wpAny_isInstance (T := "StopIteration") (b := true) ⟨o, ho, hc⟩ isSubtype_stop ?_)
  exact wpAny_pure (jQ _ hk tk)
end


abbrev zS1 (hh : Heap) (sx : Str) (t : Tok) : Heap := hh.push { cls := .type "str_ascii_iterator", data := .fields #[.str sx t, .int 0 0] }
abbrev zS2 (hh : Heap) (sx : Str) (t : Tok) (l2 : Addr) : Heap := (zS1 hh sx t).push { cls := .type "tuple_iterator", data := .fields #[.ref l2, .int 0 0] }
abbrev zS3 (hh : Heap) (sx : Str) (t : Tok) (l2 : Addr) : Heap := (zS2 hh sx t l2).push { cls := .type "tuple", data := .seq #[.ref hh.objs.size, .ref (zS1 hh sx t).objs.size] }
abbrev zS4 (hh : Heap) (sx : Str) (t : Tok) (l2 : Addr) : Heap := (zS3 hh sx t l2).push { cls := .type "tuple", data := .seq #[.none, .none] }
abbrev zS5 (hh : Heap) (sx : Str) (t : Tok) (l2 : Addr) : Heap := (zS4 hh sx t l2).push { cls := .type "zip", data := .fields #[.none, .bool false, .bool false, .ref (zS2 hh sx t l2).objs.size, .ref (zS3 hh sx t l2).objs.size] }
theorem meets_zipS (sx : Str) (t : Tok) (l2 : Addr) (ys : Array Value) (ha : sx.cps.all (· < 128) = true) :
    Meets (Builtin.«zip.__new__» ⟨[.type "zip", .str sx t, .ref l2], []⟩) (fun _ R s => s.heap.IsTuple l2 ys ∧
      R (.ok (.ret (.ref (zS4 s.heap sx t l2).objs.size))) { s with heap := zS5 s.heap sx t l2 }) :=
  .of_wp fun prog w A R s h => by
    obtain ⟨hp, g, d, tk, os⟩ := s; obtain ⟨jl2, h⟩ := h
    have hsub := sub_zip
    have hL2 : Heap.IsTuple (Shared.heap ⟨hp.push { cls := .type "str_ascii_iterator", data := .fields #[.str sx t, .int 0 0] }, g, d, tk, os⟩) l2 ys := Heap.IsTuple.push jl2 _
    wp_walk using wpAny_pyIter_ascii ha, wpAny_pyIter_tuple hL2
    exact ⟨_, rfl, h⟩
section
variable {prog : Program} {w : World} {A : Around} {E : Value → Shared → Prop} {s : Shared}
theorem call_zipS {sx : Str} {t : Tok} {l2 : Addr} {ys : Array Value} {Q : Value → Shared → Prop} (ha : sx.cps.all (· < 128) = true) (jl2 : s.heap.IsTuple l2 ys)
    (hq : ∀ h', IsZip h' (s.heap.objs.size + 4) (s.heap.objs.size + 2) (s.heap.objs.size + 3) .none → IsPair h' (s.heap.objs.size + 2) (.ref s.heap.objs.size) (.ref (s.heap.objs.size + 1)) →
      IsPair h' (s.heap.objs.size + 3) .none .none → h'.IsStrIter s.heap.objs.size "str_ascii_iterator" sx t 0 → h'.IsTupleIter (s.heap.objs.size + 1) l2 0 → h'.objs.size = s.heap.objs.size + 5 →
      (∀ c o, s.heap.get? c = some o → h'.get? c = some o) → Q (.ref (s.heap.objs.size + 4)) { s with heap := h' }) :
    wpAny (model prog w) A (call (.type "zip") [.str sx t, .ref l2]) Q E s := by
  refine callType_new F.called_zip (by decide) (F.typeCall_zip_2 _ _) (F.newCall_zip_2 _ _) (fun obj => F.args_object_init_3 obj _ _) F.entry_zip_new
    (meets_zipS sx t l2 ys ha) ⟨jl2, ?_⟩
  have z1 : (zS1 s.heap sx t).objs.size = s.heap.objs.size + 1 := Heap.size_push ..
  have z2 : (zS2 s.heap sx t l2).objs.size = s.heap.objs.size + 2 := by rw [Heap.size_push, z1]
  have z3 : (zS3 s.heap sx t l2).objs.size = s.heap.objs.size + 3 := by rw [Heap.size_push, z2]
  have z4 : (zS4 s.heap sx t l2).objs.size = s.heap.objs.size + 4 := by rw [Heap.size_push, z3]
  have z5 : (zS5 s.heap sx t l2).objs.size = s.heap.objs.size + 5 := by rw [Heap.size_push, z4]
  have g5 : (zS5 s.heap sx t l2).get? (zS4 s.heap sx t l2).objs.size = some _ := Heap.get?_push_size _ rfl
  have g4 : (zS5 s.heap sx t l2).get? (zS3 s.heap sx t l2).objs.size = some _ := Heap.get?_push_of_some _ (Heap.get?_push_size _ rfl)
  have g3 : (zS5 s.heap sx t l2).get? (zS2 s.heap sx t l2).objs.size = some _ := Heap.get?_push_of_some _ (Heap.get?_push_of_some _ (Heap.get?_push_size _ rfl))
  have g2 : (zS5 s.heap sx t l2).get? (zS1 s.heap sx t).objs.size = some _ := Heap.get?_push_of_some _ (Heap.get?_push_of_some _ (Heap.get?_push_of_some _ (Heap.get?_push_size _ rfl)))
  have g1 : (zS5 s.heap sx t l2).get? s.heap.objs.size = some _ := Heap.get?_push_of_some _ (Heap.get?_push_of_some _ (Heap.get?_push_of_some _ (Heap.get?_push_of_some _ (Heap.get?_push_size _ rfl))))
  show _ ∧ _
  rw [z2, z3, z4] at g5
  rw [z1, z2] at g3
  rw [z3] at g4
  rw [z1] at g2
  rw [z4]
  exact ⟨⟨_, g5, rfl⟩, hq _ g5 g3 g4 ⟨_, g1, rfl, rfl⟩ ⟨_, g2, rfl, rfl⟩ z5 fun c o x =>
    Heap.get?_push_of_some _ (Heap.get?_push_of_some _ (Heap.get?_push_of_some _ (Heap.get?_push_of_some _ (Heap.get?_push_of_some _ x))))⟩
end
/-- a text's signs and a tuple's items in new pairs -/
def ItzS (K : PySem.W.Frag) (sx : Str) (b : Addr) : It :=
  ⟨fun i H => ∃ (ys : List V) (c : Nat) (y : V), SqT K H b ys ∧ sx.cps[i]? = some c ∧ ys[i]? = some y,
    fun i H v H' => ∃ T c y, v = .ref T ∧ H T = none ∧ H' = upd H T (.tup [.str ⟨#[c]⟩, y]) ∧ sx.cps[i]? = some c ∧ ∀ ys, SqT K H b ys → ys[i]? = some y,
    fun i H => ∃ ys : List V, SqT K H b ys ∧ (sx.cps.size ≤ i ∨ ys.length ≤ i)⟩
theorem turn_zipS {P : Program} {w : World} {K : PySem.W.Frag} {elts : List Expr} {kk : Nat} {tpos : Pos} {sx : Str} {t : Tok} {b zA tI tO i1 i2 : Addr} (AP : ZipApart zA tI tO i1 i2 b b) :
    Turn P w K (.Tuple elts kk tpos) (ItzS K sx b) [zA, tI, tO, i1, i2] zA (fun i h => IsZip h zA tI tO .none ∧ IsPair h tI (.ref i1) (.ref i2) ∧ (∃ x y, IsPair h tO x y) ∧ h.IsStrIter i1 "str_ascii_iterator" sx t i ∧ h.IsTupleIter i2 b i) where
  mem := by simp
  obj := fun i h st c hc => by
    obtain ⟨jz, jI, ⟨x, y, jO⟩, ⟨o1, e1, _, d1⟩, ⟨o2, e2, _, d2⟩⟩ := st
    have e' : c = zA ∨ c = tI ∨ c = tO ∨ c = i1 ∨ c = i2 := by simpa using hc
    rcases e' with q | q | q | q | q
    · rw [q]; exact ⟨_, jz, fun v q => nomatch q⟩
    · rw [q]; exact ⟨_, jI, fun v q => nomatch q⟩
    · rw [q]; exact ⟨_, jO, fun v q => nomatch q⟩
    · rw [q]; exact ⟨o1, e1, fun v q => (by rw [d1] at q; cases q)⟩
    · rw [q]; exact ⟨o2, e2, fun v q => (by rw [d2] at q; cases q)⟩
  keep := fun i h h' st k => by
    obtain ⟨jz, jI, ⟨x, y, jO⟩, j1, j2⟩ := st
    exact ⟨k zA (by simp) _ jz, k tI (by simp) _ jI, ⟨x, y, k tO (by simp) _ jO⟩, IsStrIter_at j1 fun o q => k i1 (by simp) o q, j2.at fun o q => k i2 (by simp) o q⟩
  item := by
    intro X hP hw hK hc i pins s σ H E I hf st hg
    subst hP hw hK
    obtain ⟨jz, jI, ⟨x0, y0, jO⟩, j1, j2⟩ := st
    obtain ⟨ys, c0, y, hqy, jx, jy⟩ := hg
    obtain ⟨its2, rv2, p2, _⟩ := I.tuple hqy
    obtain ⟨u2, hu2, ru2⟩ := rv2.get jy
    have hzl : zA < s.heap.objs.size := Heap.lt_size jz
    refine pyNext_zipS_item AP jz jI jO j1 j2 p2 (y := u2) jx (by simpa using hu2) fun h' z' tO' j1' j2' jT wsz hk => ?_
    refine ⟨_, rfl, wpAny_letOwnedTupleGo_zip (s := { s with heap := h', toks := s.toks + 1 }) z' fun h'' z'' sb => ?_⟩
    have jT2 : h''.get? s.heap.objs.size = some { cls := .type "tuple", data := .seq #[.str ⟨#[c0]⟩ s.toks, u2] } := (sb.2 _ (Nat.ne_of_gt hzl)).trans jT
    have new : ObjOk X.prog X.w (upd H s.heap.objs.size (.tup [.str ⟨#[c0]⟩, y])) h'' s.heap.objs.size (.tup [.str ⟨#[c0]⟩, y]) :=
      ⟨by show 2 ≤ sizeLine; decide, [.str ⟨#[c0]⟩ s.toks, u2], .cons ⟨_, rfl⟩ (.cons ru2 .nil), ⟨_, jT2, rfl, _, rfl⟩⟩
    have I1 : Inv X pins σ (upd H s.heap.objs.size (.tup [.str ⟨#[c0]⟩, y])) { s with heap := h'', toks := s.toks + 1 } :=
      I.turnedNew (t' := s.toks + 1) (ch := [zA, tI, tO, i1, i2]) (fun c o hb q => (sb.2 c (fun q' => hb (by simp [q']))).trans (hk c o (fun q' => hb (by simp [q'])) (fun q' => hb (by simp [q'])) (fun q' => hb (by simp [q'])) (fun q' => hb (by simp [q'])) q)) hf (Nat.le_refl _) new
    refine ⟨.ref s.heap.objs.size, _, I1, rfl, ⟨_, c0, y, rfl, I.hok.fresh (Nat.le_refl _), rfl, jx, fun l hl => by rw [I.tuple_inj hl hqy]; exact jy⟩, ⟨z'', ?_, ⟨.str ⟨#[c0]⟩ s.toks, u2, ?_⟩, ?_, ?_⟩, fun c hcm => ?_⟩
    · exact (sb.2 _ AP.TIz).trans (hk _ _ AP.TIz AP.TITO AP.TIi1 AP.TIi2 jI)
    · exact (sb.2 _ AP.TOz).trans tO'
    · exact IsStrIter_at j1' fun o q => (sb.2 _ AP.i1z).trans q
    · exact j2'.at fun o q => (sb.2 _ AP.i2z).trans q
    · have hlt : c < s.heap.objs.size := by
        have e' : c = zA ∨ c = tI ∨ c = tO ∨ c = i1 ∨ c = i2 := by simpa using hcm
        rcases e' with q | q | q | q | q
        · rw [q]; exact hzl
        · rw [q]; exact Heap.lt_size jI
        · rw [q]; exact Heap.lt_size jO
        · rw [q]; obtain ⟨_, e1, _⟩ := j1; exact Heap.lt_size e1
        · rw [q]; obtain ⟨_, e2, _⟩ := j2; exact Heap.lt_size e2
      rw [upd_ne (Nat.ne_of_lt hlt)]
      exact (hf c hcm).1
  done := by
    intro X hP hw hK hc i pins s σ H E I hf st hg
    subst hP hw hK
    obtain ⟨jz, jI, ⟨x0, y0, jO⟩, j1, j2⟩ := st
    obtain ⟨ys, hqy, jend⟩ := hg
    obtain ⟨its2, rv2, p2, _⟩ := I.tuple hqy
    have l2 := rv2.length
    have he : sx.cps[i]? = none ∨ its2.toArray[i]? = none := by
      rcases jend with q | q
      · exact .inl (by simpa using q)
      · exact .inr (by simp; omega)
    exact pyNext_zipS_end (I.ok.hd hc) AP jz jI jO j1 j2 p2 he fun h' hk tk => ⟨rfl, I.turnedL (t' := tk) (ch := [zA, tI, tO, i1, i2]) (fun c o hb q =>
      hk c o (fun q' => hb (by simp [q'])) (fun q' => hb (by simp [q'])) (fun q' => hb (by simp [q'])) (fun q' => hb (by simp [q'])) q) hf⟩
  self := fun A i s Q E st h => wpAny_pyIter_zip st.1 h
def iZipS (K : PySem.W.Frag) (ta : TA) : TI := fun σ H R => ta σ H fun vs H1 => ∃ sx b ys, vs = [.str sx, .ref b] ∧ sx.cps.all (· < 128) = true ∧ SqT K H1 b ys ∧ R (ItzS K sx b) H1
theorem pi_zipS {X : Cx} {e e2 : Expr} {ta : TA} {p pos tpos : Pos} {elts : List Expr} {kk : Nat} (hg : Gl X "zip") (hm : X.mg "zip" = none) (ha : PA X [e, e2] ta)
    (hs : starEach [e, e2] X.env = (false, eval e X.env) :: starEach [e2] X.env := by rfl) (hpl : (backTo pos (starEach [e2] X.env)).any (·.1) = false := by rfl) :
    PI X (.Tuple elts kk tpos) (.Call (.Name "zip" p) [e, e2] [] pos) (iZipS X.K ta) := by
  refine ⟨fun pins s σ H R I h => ?_⟩
  refine Call_ (ld_blt I hg hm PyProof.Rows.boot_zip (PyProof.Rows.callWith_type1 (thn (ha.run pos pins s σ H _ I h) fun us s1 ⟨vs, H1, I1, r1, q1⟩ => ?_) hs hpl))
  obtain ⟨sx, b, ys, ex, hasc, hqy, q⟩ := q1
  subst ex
  cases r1 with
  | cons r rr =>
    cases rr with
    | cons r' rr =>
      cases rr
      obtain ⟨t, rfl⟩ := r
      cases r'
      have fresh5 : ∀ c, c ∈ [s1.heap.objs.size + 4, s1.heap.objs.size + 2, s1.heap.objs.size + 3, s1.heap.objs.size, s1.heap.objs.size + 1] → FpOk X pins H1 c := fun c hcm => by
        have hle : s1.heap.objs.size ≤ c := by
          simp only [List.mem_cons, List.not_mem_nil, or_false] at hcm
          rcases hcm with k | k | k | k | k <;> (rw [k]; first | exact Nat.le_add_right _ _ | exact Nat.le_refl _)
        exact I1.fpOk hle (I1.hok.fresh hle)
      obtain ⟨its2, rv2, p2, _⟩ := I1.tuple hqy
      obtain ⟨o2, ho2, _⟩ := id p2
      refine call_zipS hasc (show s1.heap.IsTuple b its2.toArray from p2) fun h' jz jI jO j1 j2 wsz hk => wpAny_pyIter_zip jz ?_
      have I2 : Inv X pins σ H1 { s1 with heap := h' } := I1.kept (t' := s1.toks) hk
      exact ⟨s1.heap.objs.size + 4, [s1.heap.objs.size + 4, s1.heap.objs.size + 2, s1.heap.objs.size + 3, s1.heap.objs.size, s1.heap.objs.size + 1], _, _, H1, rfl, I2, turn_zipS (PySem.W.ktu_apart s1.heap.objs.size b b (Heap.lt_size ho2) (Heap.lt_size ho2)), ⟨jz, jI, ⟨_, _, jO⟩, j1, j2⟩, fresh5, q⟩
section
variable {X : Cx} {e e2 : Expr} {ws : PA1} {pos : Pos}
abbrev wZipS (ws : PA1) : PI1 := fun r S W => ws r S fun xs S1 => match xs with
  | [.r (.d (.str s)), .r (.d (.tup ys))] => s.cps.all (· < 128) = true ∧ W { items := prs (chrs s) (ys.map R.d) } S1
  | _ => False
theorem allD_map : ∀ ys : List D, allD (ys.map R.d) = true
  | [] => rfl
  | _ :: ys => allD_map ys
theorem allD_chrs (s : Str) : allD (chrs s) = true := by
  have : chrs s = (s.cps.toList.map fun c => D.str ⟨#[c]⟩).map R.d := by simp [chrs]
  rw [this]; exact allD_map _
theorem itok_zipS {K : PySem.W.Frag} {m0 : List Addr} {H0 : Hp} {sx : Str} {b : Addr} {ys : List D}
    (hy : ∀ m H, Grow m0 H0 m H → ∃ vs, RepDs K H ys vs ∧ SqT K H b vs) : ItOk K m0 H0 (ItzS K sx b) { items := prs (chrs sx) (ys.map R.d) } :=
  ⟨fun k m H S g r hc => by
    obtain ⟨us, k3, k4⟩ := hy m H g
    refine ⟨fun z e => ?_, fun e => ?_⟩
    · obtain ⟨x, y, e1, e2, rfl⟩ := prs_get e
      simp only [chrs, List.getElem?_map, Option.map_eq_some_iff, Array.getElem?_toList] at e1
      obtain ⟨c, jc, ec⟩ := e1
      cases ec
      simp only [List.getElem?_map, Option.map_eq_some_iff] at e2
      obtain ⟨y', e2, ey⟩ := e2
      cases ey
      obtain ⟨u, p3, p4⟩ := RepDs.get k3 e2
      refine ⟨⟨us, c, u, k4, jc, p3⟩, fun w H' ⟨T, c', u', e3, n, e4, f1, f2⟩ => ?_⟩
      have q2 := (f2 us k4).symm.trans p3
      rw [jc] at f1
      cases f1; cases q2
      subst e3 e4
      have gg : Grow m H m (upd H T (.tup [.str ⟨#[c]⟩, u])) := Grow.alloc n
      exact ⟨gg, r.alloc n, T, [.str ⟨#[c]⟩, u], rfl, .inl (.inl upd_same), .str ⟨#[c]⟩, [u], rfl, rfl, u, [], rfl, RepD.grow gg y u p4, rfl⟩
    · have hl := prs_none (allD_chrs sx) (allD_map ys) e
      refine ⟨us, k4, ?_⟩
      rcases hl with hl | hl
      · exact .inl (by simpa [chrs] using hl)
      · exact .inr (by rw [k3.len]; simpa using hl)⟩
theorem wi_zipS {p tpos : Pos} {elts : List Expr} {kk : Nat} (hg : Gl X "zip") (hm : X.mg "zip" = none) (ha : WA X [e, e2] ws)
    (hs : starEach [e, e2] X.env = (false, eval e X.env) :: starEach [e2] X.env := by rfl) (hpl : (backTo pos (starEach [e2] X.env)).any (·.1) = false := by rfl) : WI X (.Tuple elts kk tpos) (.Call (.Name "zip" p) [e, e2] [] pos) (wZipS ws) :=
  ⟨piImp (pi_zipS hg hm ha.pa hs hpl) fun s H R ⟨m, r, S, W, hE, hS, hw, hf⟩ => ⟨m, r, S, _, hE, hS, hw, fun xs S1 vs m1 H1 h1 g1 r1 q1 => by
    split at h1
    · rename_i sx ys
      obtain ⟨v, u, rfl, qx, qy⟩ := q1.two
      obtain rfl : v = V.str sx := qx
      obtain ⟨b, us, rfl, t1, t2⟩ := qy
      exact ⟨sx, b, us, rfl, h1.1, t1, hf _ S1 m1 H1 _ h1.2 g1 r1 (itok_zipS fun m H g => ⟨us, RepDs.grow g _ _ t2, rd_tup g t1⟩)⟩
    · exact h1.elim⟩⟩
end
end Z

set_option Elab.async false
set_option linter.all false
set_option maxRecDepth 100000
set_option exponentiation.threshold 20000
/-! R26: hangers: their letters, what hangs by them. -/
namespace Z
open PySem PySem.Spec PyProof.Rows L2 RZ
abbrev xyz : Str := PySem.Str.ofString "xyz"
/-- a letter -/
def ltr (i : Nat) : Str := ⟨#[120 + i]⟩
/-- a hanger -/
def hgr (a b c : Nat) : Str := ⟨#[120 + a, 120 + b, 120 + c]⟩
def IsHg (a b c : Nat) : Prop := a < 3 ∧ b < 3 ∧ c < 3 ∧ a ≠ b ∧ b ≠ c
theorem xyz_0 : (PySem.Str.ofString "xyz").cps[0]? = some 120 := by decide +kernel
theorem xyz_1 : (PySem.Str.ofString "xyz").cps[1]? = some 121 := by decide +kernel
theorem xyz_2 : (PySem.Str.ofString "xyz").cps[2]? = some 122 := by decide +kernel
theorem xyz_len : (PySem.Str.ofString "xyz").length = 3 := by decide +kernel
theorem xyz_chrs : chrs (PySem.Str.ofString "xyz") = [R.d (.str (ltr 0)), R.d (.str (ltr 1)), R.d (.str (ltr 2))] := by
  have : (PySem.Str.ofString "xyz").cps = #[120, 121, 122] := by decide +kernel
  simp [chrs, this, ltr]
theorem hgr_chrs (a b c : Nat) : chrs (hgr a b c) = [R.d (.str (ltr a)), R.d (.str (ltr b)), R.d (.str (ltr c))] := by simp [chrs, hgr, ltr]
theorem hgr_len (a b c : Nat) : (hgr a b c).length = 3 := rfl
theorem hgr_0 (a b c : Nat) : (hgr a b c).cps[0]? = some (120 + a) := rfl
theorem hgr_1 (a b c : Nat) : (hgr a b c).cps[1]? = some (120 + b) := rfl
theorem hgr_2 (a b c : Nat) : (hgr a b c).cps[2]? = some (120 + c) := rfl
theorem hgr_asc {a b c : Nat} (h : IsHg a b c) : (hgr a b c).cps.all (· < 128) = true := by
  obtain ⟨h1, h2, h3, _⟩ := h
  simp [hgr]; omega
theorem occ_ltr {i : Nat} (h : i < 3) : Builtin.Str.occurrences (PySem.Str.ofString "xyz") (ltr i) 0 3 1 = [i] := by
  match i, h with
  | 0, _ => decide +kernel
  | 1, _ => decide +kernel
  | 2, _ => decide +kernel
theorem ltr_in {i : Nat} (h : i < 3) : (Builtin.Str.occurrences (PySem.Str.ofString "xyz") (ltr i) 0 3 1).isEmpty = false := by rw [occ_ltr h]; rfl
theorem ltr_beq (a b : Nat) : (ltr a == ltr b) = decide (a = b) := by
  rw [Bool.eq_iff_iff]
  simp only [beq_iff_eq, decide_eq_true_eq, ltr]
  constructor
  · intro h
    have h1 : (#[120 + a] : Array Nat) = #[120 + b] := congrArg Str.cps h
    simp at h1; omega
  · rintro rfl; rfl
theorem ltr_eq (a : Nat) : ({ cps := #[120 + a] } : Str) = ltr a := rfl
/-- the way of a letter -/
def uw (i : Nat) : List Int := [if i = 0 then 1 else 0, if i = 1 then 1 else 0, if i = 2 then 1 else 0]
theorem uw_len (i : Nat) : (uw i).length = 3 := rfl
theorem uw_nz {i : Nat} (h : i < 3) : ∃ n ∈ uw i, n ≠ 0 := by
  match i, h with
  | 0, _ => exact ⟨1, by simp [uw], by decide⟩
  | 1, _ => exact ⟨1, by simp [uw], by decide⟩
  | 2, _ => exact ⟨1, by simp [uw], by decide⟩
theorem uw_bd (i : Nat) : ∀ x ∈ uw i, Bd 1 x := by
  intro x hx
  simp only [uw, List.mem_cons, List.not_mem_nil, or_false] at hx
  rcases hx with rfl | rfl | rfl <;> split <;> exact Bd.lit (by decide)
/-- a setting: k, l -/
structure SetOk (n : Nat) (k l : Int) : Prop where
  nz : ∃ x ∈ [k, l], x ≠ 0
  bk : Bd n k
  bl : Bd n l
theorem SetOk.mono {m n : Nat} {k l : Int} (h : SetOk m k l) (q : m ≤ n) : SetOk n k l := ⟨h.nz, h.bk.mono q, h.bl.mono q⟩
abbrev stD (k l : Int) : D := .tup [.int k, .int l]
/-- the turn of a letter by a setting -/
def lt (i : Nat) (k l : Int) : List Int := abt (uw i) k l
theorem lt_len (i : Nat) (k l : Int) : (lt i k l).length = 4 := rfl
theorem lt_nz {i : Nat} {n : Nat} {k l : Int} (h : i < 3) (o : SetOk n k l) : ∃ x ∈ lt i k l, x ≠ 0 := abt_nz (uw_nz h) o.nz
theorem lt_bd {i n : Nat} {k l : Int} (o : SetOk n k l) : ∀ x ∈ lt i k l, Bd n x := by
  intro x hx
  simp only [lt, abt, uw, List.map_cons, List.map_nil, List.mem_cons, List.not_mem_nil, or_false] at hx
  rcases hx with rfl | rfl | rfl | rfl
  · exact o.bl
  all_goals
    split
    · rw [Int.mul_one]; exact o.bk
    · rw [Int.mul_zero]; exact Bd.zero
/-- what hangs by three settings -/
def hng (a b c : Nat) (k1 l1 k2 l2 k3 l3 : Int) : List Int := qmul (qmul (lt a k1 l1) (lt b k2 l2)) (lt c k3 l3)
theorem hng_len (a b c : Nat) (k1 l1 k2 l2 k3 l3 : Int) : (hng a b c k1 l1 k2 l2 k3 l3).length = 4 := qmul_len (qmul_len rfl rfl) rfl
theorem hng_nz {a b c n : Nat} {k1 l1 k2 l2 k3 l3 : Int} (h : IsHg a b c) (o1 : SetOk n k1 l1) (o2 : SetOk n k2 l2) (o3 : SetOk n k3 l3) : ∃ x ∈ hng a b c k1 l1 k2 l2 k3 l3, x ≠ 0 :=
  qmul_nz (qmul_len rfl rfl) rfl (qmul_nz rfl rfl (lt_nz h.1 o1) (lt_nz h.2.1 o2)) (lt_nz h.2.2.1 o3)
theorem hng_bd {a b c n : Nat} {k1 l1 k2 l2 k3 l3 : Int} (o1 : SetOk n k1 l1) (o2 : SetOk n k2 l2) (o3 : SetOk n k3 l3) : ∀ x ∈ hng a b c k1 l1 k2 l2 k3 l3, Bd (n + n + 3 + n + 3) x :=
  qmul_bd (qmul_bd (lt_bd o1) (lt_bd o2)) (lt_bd o3)
theorem lt_smul (i : Nat) (m k l : Int) : lt i (m * k) (m * l) = (lt i k l).map (m * ·) := by
  simp only [lt, abt, uw, List.map_cons, List.map_nil, Int.mul_assoc]
theorem qmul_smul2 {a b : List Int} (ha : a.length = 4) (hb : b.length = 4) (m n : Int) : qmul (a.map (m * ·)) (b.map (n * ·)) = (qmul a b).map ((m * n) * ·) := by
  rw [qmul_smul_l ha (by simpa using hb), qmul_smul_r ha hb, List.map_map]
  exact List.map_congr_left fun x _ => (by show m * (n * x) = m * n * x; rw [Int.mul_assoc])
theorem hng_smul (a b c : Nat) (m k1 l1 k2 l2 k3 l3 : Int) : hng a b c (m * k1) (m * l1) (m * k2) (m * l2) (m * k3) (m * l3) = (hng a b c k1 l1 k2 l2 k3 l3).map ((m * m * m) * ·) := by
  unfold hng
  rw [lt_smul, lt_smul, lt_smul, qmul_smul2 rfl rfl, qmul_smul2 (qmul_len rfl rfl) rfl]
theorem hng_pln_smul {a b c n : Nat} {m k1 l1 k2 l2 k3 l3 : Int} (hm : m ≠ 0) (h : IsHg a b c) (o1 : SetOk n k1 l1) (o2 : SetOk n k2 l2) (o3 : SetOk n k3 l3) :
    pln (hng a b c (m * k1) (m * l1) (m * k2) (m * l2) (m * k3) (m * l3)) = pln (hng a b c k1 l1 k2 l2 k3 l3) := by
  rw [hng_smul]
  exact pln_smul (Int.mul_ne_zero (Int.mul_ne_zero hm hm) hm) (hng_nz h o1 o2 o3)
/-- put together from plain fours -/
theorem hng_then {a b c n : Nat} {k1 l1 k2 l2 k3 l3 : Int} (h : IsHg a b c) (o1 : SetOk n k1 l1) (o2 : SetOk n k2 l2) (o3 : SetOk n k3 l3) :
    pln (qmul (pln (lt a k1 l1)) (pln (qmul (pln (lt b k2 l2)) (pln (lt c k3 l3))))) = pln (hng a b c k1 l1 k2 l2 k3 l3) := by
  have z1 := lt_nz h.1 o1
  have z2 := lt_nz h.2.1 o2
  have z3 := lt_nz h.2.2.1 o3
  rw [pln_qmul_both rfl rfl z2 z3, pln_qmul_both rfl (qmul_len rfl rfl) z1 (qmul_nz rfl rfl z2 z3), ← qmul_assoc rfl rfl rfl]
  rfl
/-- what stands behind i letters -/
def hngP (a b c : Nat) (k1 l1 k2 l2 k3 l3 : Int) : Nat → List Int
  | 0 => [1, 0, 0, 0]
  | 1 => lt a k1 l1
  | 2 => qmul (lt a k1 l1) (lt b k2 l2)
  | _ => hng a b c k1 l1 k2 l2 k3 l3
theorem hngP_3 (a b c : Nat) (k1 l1 k2 l2 k3 l3 : Int) : hngP a b c k1 l1 k2 l2 k3 l3 3 = hng a b c k1 l1 k2 l2 k3 l3 := rfl
theorem hngP_len (a b c : Nat) (k1 l1 k2 l2 k3 l3 : Int) (i : Nat) : (hngP a b c k1 l1 k2 l2 k3 l3 i).length = 4 := by
  unfold hngP
  split
  · rfl
  · rfl
  · exact qmul_len rfl rfl
  · exact hng_len ..
theorem hngP_bd (a b c : Nat) {n : Nat} {k1 l1 k2 l2 k3 l3 : Int} (o1 : SetOk n k1 l1) (o2 : SetOk n k2 l2) (o3 : SetOk n k3 l3) (i : Nat) : ∀ x ∈ hngP a b c k1 l1 k2 l2 k3 l3 i, Bd (n + n + 3 + n + 3) x := by
  intro x hx
  unfold hngP at hx
  split at hx
  · have : x = 1 ∨ x = 0 := by simpa using hx
    rcases this with rfl | rfl
    · exact (Bd.lit (n := 1) (by decide)).mono (by omega)
    · exact Bd.zero
  · exact (lt_bd o1 x hx).mono (by omega)
  · exact (qmul_bd (lt_bd o1) (lt_bd o2) x hx).mono (by omega)
  · exact hng_bd o1 o2 o3 x hx
theorem one_qmul {a : List Int} (h : a.length = 4) : qmul [1, 0, 0, 0] a = a := by
  obtain ⟨w, x, y, z, rfl⟩ := four_of h
  simp [qmul]
theorem hngP_at {a b c n : Nat} {k1 l1 k2 l2 k3 l3 : Int} (ha : a < 3) (hb : b < 3) (hc : c < 3) (o1 : SetOk n k1 l1) (o2 : SetOk n k2 l2) (o3 : SetOk n k3 l3) {i : Nat} {x : R}
    (hx : ([R.d (.tup [.str (ltr a), stD k1 l1]), R.d (.tup [.str (ltr b), stD k2 l2]), R.d (.tup [.str (ltr c), stD k3 l3])] : List R)[i]? = some x) :
    ∃ (j : Nat) (k l : Int), x = .d (.tup [.str (ltr j), stD k l]) ∧ j < 3 ∧ SetOk n k l ∧ hngP a b c k1 l1 k2 l2 k3 l3 (i + 1) = qmul (hngP a b c k1 l1 k2 l2 k3 l3 i) (lt j k l) := by
  match i, hx with
  | 0, hx => simp at hx; exact ⟨a, k1, l1, hx.symm, ha, o1, (one_qmul rfl).symm⟩
  | 1, hx => simp at hx; exact ⟨b, k2, l2, hx.symm, hb, o2, rfl⟩
  | 2, hx => simp at hx; exact ⟨c, k3, l3, hx.symm, hc, o3, rfl⟩
  | i + 3, hx => simp at hx
def spHung : SpZ := fun rs S W => match rs with
  | [.d (.str x), .d (.tup ys)] => ∃ (a b c : Nat) (k1 l1 k2 l2 k3 l3 : Int), x = hgr a b c ∧ IsHg a b c ∧ ys = [stD k1 l1, stD k2 l2, stD k3 l3] ∧ SetOk 1000 k1 l1 ∧ SetOk 1000 k2 l2 ∧ SetOk 1000 k3 l3 ∧ W (.d (.tup ((pln (hng a b c k1 l1 k2 l2 k3 l3)).map D.int))) S
  | _ => False
theorem spHung_mk {a b c : Nat} {k1 l1 k2 l2 k3 l3 : Int} {S : Sto} {W : R → Sto → Prop} (h : IsHg a b c) (o1 : SetOk 1000 k1 l1) (o2 : SetOk 1000 k2 l2) (o3 : SetOk 1000 k3 l3) (w : W (.d (.tup ((pln (hng a b c k1 l1 k2 l2 k3 l3)).map D.int))) S) :
    spHung [.d (.str (hgr a b c)), .d (.tup [stD k1 l1, stD k2 l2, stD k3 l3])] S W := ⟨a, b, c, k1, l1, k2, l2, k3, l3, rfl, h, rfl, o1, o2, o3, w⟩
end Z

set_option Elab.async false
set_option linter.all false
set_option maxRecDepth 100000
/-! Z10: numbers as texts, texts joined, tuples repeated. -/
namespace Z
open PySem PySem.Spec PyProof.Rows L2 RZ
/-- a whole number as a text -/
def numT (i : Int) : Str := PySem.Str.ofString (toString i)
section
variable {X : Cx} {e : Expr} {we wo : PE1} {pos : Pos}
abbrev fStr : PF := fun xs S W => match xs with
  | [.r (.d (.int i))] => i.natAbs.log2 < 1920 ∧ W (.r (.d (.str (numT i)))) S
  | _ => False
theorem f_str : FnP X (.type "str") fStr := by
  refine ⟨_, call_str_int, fun xs S W vs m H H0 Q r q w f => ?_⟩
  unfold fStr at w
  split at w
  · rename_i i
    obtain ⟨v, rfl, q1⟩ := q.one
    obtain rfl : v = V.int i := q1
    exact ⟨i, rfl, w.1, f.here r (x := .r (.d (.str (numT i)))) rfl w.2⟩
  · exact w.elim
/-- a tuple some times -/
abbrev pRepT : P2 := fun x y S W => match x, y with
  | .r (.d (.tup xs)), .r (.d (.int k)) => (1 ≤ xs.length ∧ 2 ≤ k ∧ k ≤ 1000 ∧ xs.length ≤ 1000) ∧ W (.r (.d (.tup (List.replicate k.toNat xs).flatten))) S
  | _, _ => False
theorem o_repT : OpP X (binaryOp .Mult) pRepT := by
  refine ⟨_, op_repT, fun x y S W v u m H H0 Q r qx qy w f => ?_⟩
  unfold pRepT at w
  split at w
  · rename_i xs k
    obtain ⟨a, vs, rfl, h1, h2⟩ := qx
    have hl := h2.len
    obtain ⟨⟨w1, w2, w3, w4⟩, w⟩ := w
    exact ⟨a, k, vs, rfl, qy, h1, fun e => (by rw [e] at hl; simp at hl; omega), w2, w3, by omega, f.tup r (RepDs.rep h2 k.toNat) w⟩
  · exact w.elim
/-- a row of texts -/
abbrev strsOf : List D → Option (List Str)
  | [] => some []
  | .str x :: r => (strsOf r).map (x :: ·)
  | _ :: _ => none
theorem RepDs.strs {K : PySem.W.Frag} {H : Hp} : ∀ {xs : List D} {vs : List V} {ss : List Str}, RepDs K H xs vs → strsOf xs = some ss → vs = ss.map V.str
  | [], _, _, h, e => by simp [strsOf] at e; subst e; exact h
  | .str x :: xs, _, ss, ⟨v, r, e1, h, t⟩, e => by
    simp only [strsOf, Option.map_eq_some_iff] at e
    obtain ⟨ss', e2, rfl⟩ := e
    obtain rfl : v = V.str x := h
    rw [e1, RepDs.strs t e2]; rfl
  | .non :: _, _, _, _, e => by simp [strsOf] at e
  | .bl _ :: _, _, _, _, e => by simp [strsOf] at e
  | .int _ :: _, _, _, _, e => by simp [strsOf] at e
  | .tup _ :: _, _, _, _, e => by simp [strsOf] at e
  | .lst _ :: _, _, _, _, e => by simp [strsOf] at e
/-- s.join(list or tuple) -/
abbrev wJoin (wo we : PE1) : PE1 := fun r S W => wo r S fun x S1 => match x with
  | .r (.d (.str a)) => we r S1 fun y S2 => match seqOf S2 y with
    | some xs => match strsOf xs with
      | some ss => (ss.map (·.length)).sum + ss.length * a.length ≤ 16777216 ∧ W (.r (.d (.str (Txt.join a ss)))) S2
      | none => False
    | none => False
  | _ => False
theorem we_join {o : Expr} {apos : Pos} (ho : WE X o wo) (he : WE X e we)
    (h : ∀ {to te : TE}, PE X o to → PE X e te → PE X (.Call (.Attribute o "join" apos) [e] [] pos) (tBM X.K "str" (fun x xs H Q => ∃ a p, ∃ ys : List Str, x = .str a ∧ xs = [.ref p] ∧ (SqL X.K H p (ys.map V.str) ∨ SqT X.K H p (ys.map V.str)) ∧
      (ys.map (·.length)).sum + ys.length * a.length ≤ 16777216 ∧ Q (.str (Txt.join a ys)) H) to (tCons te tNil)) := by
      intro _ _ ho he; exact pe_bm PySem.F.plainAttrs_str PySem.F.slot_str_join PySem.F.type_str_join mt_join ho (pa_cons he pa_nil)) : WE X (.Call (.Attribute o "join" apos) [e] [] pos) (wJoin wo we) :=
  ⟨peImp (h ho.pe he.pe) fun s H Q ⟨m, r, S, W, hE, hS, hw, hf⟩ => up1 hE hS hw fun x S1 v m1 H1 h1 g1 r1 q1 => by
    split at h1
    · rename_i a
      obtain rfl : v = V.str a := q1
      refine ⟨by trivial, m1, r, S1, _, hE.grow g1, r1, h1, fun y S2 u m2 H2 h2 g2 r2 q2 => ?_⟩
      split at h2
      · rename_i xs e1
        split at h2
        · rename_i ss e2
          obtain ⟨p, us, rfl, k1, k2⟩ := q2.seq r2 e1
          have k3 := k1.strs e2
          subst k3
          refine ⟨a, p, ss, rfl, rfl, ?_, h2.1, hf _ _ _ m2 _ h2.2 (g1.trans g2) r2 (show RepR _ _ _ _ _ from rfl)⟩
          by_cases hl : isLst y = true
          · rw [if_pos hl] at k2; exact .inl k2
          · rw [if_neg hl] at k2; exact .inr k2
        · exact h2.elim
      · exact h2.elim
    · exact h1.elim⟩
end
end Z

set_option Elab.async false
set_option linter.all false
set_option maxRecDepth 100000
set_option exponentiation.threshold 20000
/-! R27: things as texts. -/
namespace Z
open PySem PySem.Spec PyProof.Rows L2 RZ
theorem ofStr_len (s : String) : (PySem.Str.ofString s).length = s.toList.length := by
  rw [PySem.Str.ofString_eq_toList]
  simp [PySem.Str.length]
theorem natT_len {n k : Nat} (hk : 0 < k) (h : n < 10 ^ k) : (Nat.repr n).toList.length ≤ k := by
  have := TL.numL_len hk h
  unfold TL.numL at this
  rw [List.length_map] at this
  rw [Nat.toList_repr]
  exact this
theorem pow110 : 2 ^ 110 ≤ 10 ^ 34 := by decide +kernel
theorem numT_len {i : Int} (h : Bd 110 i) : (numT i).length ≤ 35 := by
  have hb : i.natAbs < 10 ^ 34 := Nat.lt_of_lt_of_le h.lt pow110
  unfold numT
  rw [ofStr_len]
  cases i with
  | ofNat n =>
    have := natT_len (k := 34) (by decide) (show n < 10 ^ 34 from hb)
    show (Nat.repr n).toList.length ≤ 35
    omega
  | negSucc m =>
    have := natT_len (k := 34) (by decide) (show m + 1 < 10 ^ 34 from hb)
    show ("-" ++ Nat.repr (m + 1)).toList.length ≤ 35
    rw [String.toList_append, List.length_append]
    have : ("-" : String).toList.length = 1 := by decide
    omega
theorem log_ok {i : Int} (h : Bd 110 i) : i.natAbs.log2 < 1920 := by
  by_cases h0 : i.natAbs = 0
  · rw [h0]; decide
  · exact (Nat.log2_lt h0).mpr (Nat.lt_of_lt_of_le h.lt (Nat.pow_le_pow_right (by decide) (by decide)))
theorem app_len (x y : Str) : (x ++ y).length = x.length + y.length := by
  show (x.cps ++ y.cps).size = _
  rw [Array.size_append]; rfl
/-- a fraction's text -/
def frT (p : Int × Int) : Str := if p.2 = 1 then numT p.1 else (numT p.1 ++ PySem.Str.ofString "/") ++ numT p.2
def OkP (p : Int × Int) : Prop := Bd 110 p.1 ∧ Bd 110 p.2
abbrev prD (p : Int × Int) : D := .tup [.int p.1, .int p.2]
theorem one_len (s : String) (h : s.toList.length = 1) : (PySem.Str.ofString s).length = 1 := by rw [ofStr_len, h]
theorem frT_len {p : Int × Int} (h : OkP p) : (frT p).length ≤ 71 := by
  have h1 := numT_len h.1
  have h2 := numT_len h.2
  unfold frT
  split
  · omega
  · rw [app_len, app_len, one_len "/" (by decide)]; omega
theorem sum_len {c : Nat} : ∀ {ss : List Str}, (∀ s ∈ ss, s.length ≤ c) → (ss.map (·.length)).sum ≤ c * ss.length
  | [], _ => by simp
  | s :: ss, h => by
    have h1 := h s (by simp)
    have h2 := sum_len (ss := ss) fun x hx => h x (by simp [hx])
    simp only [List.map_cons, List.sum_cons, List.length_cons, Nat.mul_add, Nat.mul_one]
    omega
theorem join_len (y : Str) : ∀ ss : List Str, (PySem.Str.join y ss).length ≤ (ss.map (·.length)).sum + ss.length * y.length
  | [] => by simp [PySem.Str.join, PySem.Str.length]; rfl
  | [x] => by simp [PySem.Str.join]
  | x :: z :: r => by
    have := join_len y (z :: r)
    show (x ++ y ++ PySem.Str.join y (z :: r)).length ≤ _
    rw [app_len, app_len]
    simp only [List.map_cons, List.sum_cons, List.length_cons, Nat.add_mul, Nat.one_mul] at this ⊢
    omega
theorem tjoin_len {c n : Nat} (y : Str) {ss : List Str} (h : ∀ s ∈ ss, s.length ≤ c) (hl : ss.length ≤ n) (hy : y.length ≤ 2) : (ss.map (·.length)).sum + ss.length * y.length ≤ c * n + n * 2 ∧ (Txt.join y ss).length ≤ c * n + n * 2 := by
  have h1 := sum_len h
  have h2 := join_len y ss
  have h3 : c * ss.length ≤ c * n := Nat.mul_le_mul_left _ hl
  have h4 : ss.length * y.length ≤ n * 2 := Nat.mul_le_mul hl hy
  rw [TL.join_eq]
  omega
abbrev ptT (ps : List (Int × Int)) : Str := Txt.join (PySem.Str.ofString " ") (ps.map frT)
abbrev tbT (qs : List (List (Int × Int))) : Str := Txt.join (PySem.Str.ofString "; ") (qs.map ptT)
abbrev rwT (sep : String) (ns : List Int) : Str := Txt.join (PySem.Str.ofString sep) (ns.map numT)
abbrev ptsD (ps : List (Int × Int)) : D := .tup (ps.map prD)
def OkPt (ps : List (Int × Int)) : Prop := ps.length = 3 ∧ ∀ p ∈ ps, OkP p
def OkTb (qs : List (List (Int × Int))) : Prop := qs.length = 3 ∧ ∀ q ∈ qs, OkPt q
def OkRw (ns : List Int) : Prop := ns.length ≤ 4 ∧ ∀ n ∈ ns, Bd 110 n
theorem sp_len : (PySem.Str.ofString " ").length ≤ 2 := by rw [ofStr_len]; decide
theorem co_len : (PySem.Str.ofString ":").length ≤ 2 := by rw [ofStr_len]; decide
theorem sc_len : (PySem.Str.ofString "; ").length ≤ 2 := by rw [ofStr_len]; decide
theorem ptT_fit {ps : List (Int × Int)} (h : OkPt ps) : ((ps.map frT).map (·.length)).sum + (ps.map frT).length * (PySem.Str.ofString " ").length ≤ 16777216 ∧ (ptT ps).length ≤ 219 := by
  have := tjoin_len (c := 71) (n := 3) (PySem.Str.ofString " ") (ss := ps.map frT) (fun s hs => by obtain ⟨p, hp, rfl⟩ := List.mem_map.mp hs; exact frT_len (h.2 p hp)) (by rw [List.length_map, h.1]; exact Nat.le_refl _) sp_len
  exact ⟨Nat.le_trans this.1 (by decide), this.2⟩
theorem tbT_fit {qs : List (List (Int × Int))} (h : OkTb qs) : ((qs.map ptT).map (·.length)).sum + (qs.map ptT).length * (PySem.Str.ofString "; ").length ≤ 16777216 := by
  have := tjoin_len (c := 219) (n := 3) (PySem.Str.ofString "; ") (ss := qs.map ptT) (fun s hs => by obtain ⟨p, hp, rfl⟩ := List.mem_map.mp hs; exact (ptT_fit (h.2 p hp)).2) (by rw [List.length_map, h.1]; exact Nat.le_refl _) sc_len
  omega
theorem rwT_fit {ns : List Int} (h : OkRw ns) {y : Str} (hy : y.length ≤ 2) : ((ns.map numT).map (·.length)).sum + (ns.map numT).length * y.length ≤ 16777216 := by
  have := tjoin_len (c := 35) (n := 4) y (ss := ns.map numT) (fun s hs => by obtain ⟨p, hp, rfl⟩ := List.mem_map.mp hs; exact numT_len (h.2 p hp)) (by rw [List.length_map]; exact h.1) hy
  omega
theorem strsOf_map : ∀ ss : List Str, strsOf (ss.map D.str) = some ss
  | [] => rfl
  | s :: ss => by simp [strsOf, strsOf_map ss]
/-- the text of two numbers with a sign between -/
theorem two_join (y a b : Str) : Txt.join y [a, b] = a ++ y ++ b := by rw [TL.join_eq]; rfl
/-- a thing of one of the six kinds, and its text -/
def Thing (kind : Int) (x : D) (W : Str → Prop) : Prop :=
  (kind = 0 ∧ ∃ p, x = prD p ∧ OkP p ∧ W (frT p)) ∨ (kind = 1 ∧ ∃ ns : List Int, x = .tup (ns.map D.int) ∧ OkRw ns ∧ W (rwT " " ns)) ∨ (kind = 2 ∧ ∃ ns : List Int, x = .tup (ns.map D.int) ∧ OkRw ns ∧ W (rwT " " ns)) ∨
    (kind = 3 ∧ ∃ ps, x = ptsD ps ∧ OkPt ps ∧ W (ptT ps)) ∨ (kind = 4 ∧ ∃ qs, x = .tup (qs.map ptsD) ∧ OkTb qs ∧ W (tbT qs)) ∨ (kind = 5 ∧ ∃ k l, x = .tup [.int k, .int l] ∧ OkP (k, l) ∧ W (rwT ":" [k, l]))
/-- how deep a thing of a kind is told -/
def dep (kind : Int) : Nat := if kind = 3 then 2 else if kind = 4 then 3 else 1
theorem dep_pos (kind : Int) : 1 ≤ dep kind := by unfold dep; split <;> (try split) <;> decide
/-- a comprehension that maps data -/
theorem lcL_mapD {α : Type} {k : Nat} {chk : Sto → Prop} {f : R → Rho → Option Rho} {t : PT1} {w : PE1} {r : Rho} {S : Sto} {W : List D → Sto → Prop} {g : α → D} {xs : List α} (v : α → D) (hk : S.take k = S) (hc : chk S)
    (h : ∀ x ∈ xs, ∃ r1, f (.d (g x)) r = some r1 ∧ (∀ W1 : Bool → Sto → Prop, W1 true S → t r1 S W1) ∧ ∀ W1 : PK1, W1 (.r (.d (v x))) S → w r1 S W1) (q : W (xs.map v) S) :
    lcL k chk f t w r ((xs.map g).map R.d) S W := by
  induction xs generalizing W with
  | nil => exact ⟨hc, q⟩
  | cons x xs ih =>
    obtain ⟨r1, h1, h2, h3⟩ := h x (by simp)
    rw [List.map_cons, List.map_cons]
    unfold lcL
    refine ⟨hc, ?_⟩
    rw [h1]
    refine h2 _ ?_
    rw [if_pos rfl]
    refine h3 _ ?_
    show lcL k chk f t w r _ (S.take k) _
    rw [hk]
    exact ih (fun y hy => h y (by simp [hy])) (by simpa using q)
/-- how deep a thing of a kind is drawn -/
def depD (kind : Int) : Nat := if kind = 0 then 1 else if kind = 4 then 3 else 2
theorem depD_pos (kind : Int) : 1 ≤ depD kind := by unfold depD; split <;> (try split) <;> decide
/-- what may be drawn -/
def Drawn (kind : Int) (W : D → Prop) : Prop :=
  (kind = 0 ∧ ∀ p, OkP p → W (prD p)) ∨ ((kind = 1 ∨ kind = 2) ∧ ∀ ns : List Int, OkRw ns → W (.tup (ns.map D.int))) ∨ (kind = 3 ∧ ∀ ps, OkPt ps → W (ptsD ps)) ∨ (kind = 4 ∧ ∀ qs, OkTb qs → W (.tup (qs.map ptsD))) ∨
    (kind = 5 ∧ ∀ k l, OkP (k, l) → W (.tup [.int k, .int l]))
theorem Drawn.of {kind : Int} {V : D → Prop} (k0 : 0 ≤ kind) (k1 : kind < 6) (h : ∀ d t, (∀ W : Str → Prop, W t → Thing kind d W) → V d) : Drawn kind V := by
  rcases (by omega : kind = 0 ∨ kind = 1 ∨ kind = 2 ∨ kind = 3 ∨ kind = 4 ∨ kind = 5) with rfl | rfl | rfl | rfl | rfl | rfl
  · exact .inl ⟨rfl, fun p o => h _ _ fun W w => .inl ⟨rfl, p, rfl, o, w⟩⟩
  · exact .inr (.inl ⟨.inl rfl, fun p o => h _ _ fun W w => .inr (.inl ⟨rfl, p, rfl, o, w⟩)⟩)
  · exact .inr (.inl ⟨.inr rfl, fun p o => h _ _ fun W w => .inr (.inr (.inl ⟨rfl, p, rfl, o, w⟩))⟩)
  · exact .inr (.inr (.inl ⟨rfl, fun p o => h _ _ fun W w => .inr (.inr (.inr (.inl ⟨rfl, p, rfl, o, w⟩)))⟩))
  · exact .inr (.inr (.inr (.inl ⟨rfl, fun p o => h _ _ fun W w => .inr (.inr (.inr (.inr (.inl ⟨rfl, p, rfl, o, w⟩))))⟩)))
  · exact .inr (.inr (.inr (.inr ⟨rfl, fun k l o => h _ _ fun W w => .inr (.inr (.inr (.inr (.inr ⟨rfl, k, l, rfl, o, w⟩))))⟩)))
theorem dep_le (kind : Int) : dep kind ≤ 4 := by unfold dep; split <;> (try split) <;> decide
theorem depD_le (kind : Int) : depD kind ≤ 4 := by unfold depD; split <;> (try split) <;> decide
abbrev told : List (Int × Int) := [(1, 2), (-3, 1), (0, 1)]
theorem told_txt : tbT [told, told, told] = PySem.Str.ofString "1/2 -3 0; 1/2 -3 0; 1/2 -3 0" := by decide +kernel
theorem told_ok : OkTb [told, told, told] := by
  have o : OkPt told := ⟨rfl, by
    simp only [told, List.mem_cons, List.not_mem_nil, or_false, forall_eq_or_imp, forall_eq]
    exact ⟨⟨Bd.lit (by decide), Bd.lit (by decide)⟩, ⟨Bd.lit (by decide), Bd.lit (by decide)⟩, ⟨Bd.lit (by decide), Bd.lit (by decide)⟩⟩⟩
  exact ⟨rfl, by simp only [List.mem_cons, List.not_mem_nil, or_false, forall_eq_or_imp, forall_eq]; exact ⟨o, o, o⟩⟩
theorem ints_of {n : Nat} : ∀ {ds : List D}, (∀ d ∈ ds, ∃ k : Int, Bd n k ∧ d = .int k) → ∃ ns : List Int, ds = ns.map D.int ∧ ∀ k ∈ ns, Bd n k
  | [], _ => ⟨[], rfl, by simp⟩
  | d :: ds, h => by
    obtain ⟨k, bk, rfl⟩ := h d (by simp)
    obtain ⟨ns, rfl, hb⟩ := ints_of (ds := ds) fun x hx => h x (by simp [hx])
    exact ⟨k :: ns, rfl, by simp only [List.mem_cons, forall_eq_or_imp]; exact ⟨bk, hb⟩⟩
theorem filt_len (ns : List Int) : (ns.filter fun n => n != 0).length ≤ ns.length := List.length_filter_le _ _
theorem str_ext {x y : Str} (h : x.cps = y.cps) : x = y := by cases x; cases y; simp at h; rw [h]
end Z

set_option Elab.async false
set_option linter.all false
set_option maxRecDepth 100000
/-! Z11: a written dict whose keys are tuples of whole numbers, asked once. -/
namespace Z
open PySem PySem.Spec PyProof.Rows L2 RZ
/-- pairs laid into a dict, one by one -/
def mergeT (kvs more : List (List Key × V)) : List (List Key × V) := more.foldl (fun acc kv => putK acc kv.1 kv.2) kvs
theorem length_mergeT : ∀ (more kvs : List (List Key × V)), (mergeT kvs more).length ≤ kvs.length + more.length
  | [], kvs => Nat.le_refl _
  | p :: r, kvs => by
    have q1 := length_mergeT r (putK kvs p.1 p.2)
    have q2 := length_putK kvs p.1 p.2
    show (mergeT (putK kvs p.1 p.2) r).length ≤ _
    rw [List.length_cons]; omega
abbrev PT3 (H : Hp) : List (List Key × V) → List (List Key × Addr × Value) → Prop := Paired fun p q => p.1 = q.1 ∧ H q.2.1 = some (.tup (p.1.map kV)) ∧ RelV p.2 q.2.2
theorem KT.merge {H : Hp} : ∀ {more : List (List Key × V)} {ps : List (List Key × Addr × Value)} {kvs : List (List Key × V)} {xs : List (List Key × Addr × Value)}, PT3 H more ps → KT H kvs xs → KT H (mergeT kvs more) (storedAllH xs ps)
  | [], _, _, _, .nil, r => r
  | p :: more, q :: ps, kvs, xs, .cons h t, r => by
    obtain ⟨e1, e2, e3⟩ := h
    have := r.put p.1 e2 e3
    rw [show storedH xs p.1 q.2.1 q.2.2 = storedH xs q.1 q.2.1 q.2.2 by rw [e1]] at this
    exact KT.merge (more := more) (ps := ps) t this
/-- what is written of a dict: keys and values -/
abbrev KVs := List (List Int × Int)
abbrev keyV (k : List Int) : List Key := k.map Sum.inl
theorem keyV_v : ∀ k : List Int, (keyV k).map kV = k.map V.int
  | [] => rfl
  | a :: k => by show V.int a :: _ = V.int a :: _; rw [show ((k.map Sum.inl : List Key).map kV) = k.map V.int from keyV_v k]
abbrev kvsV (kvs : KVs) : List (List Key × V) := kvs.map fun kv => (keyV kv.1, V.int kv.2)
def tTupI (k : List Int) : TE := fun _ H Q => ∀ p, H p = none → Q (.ref p) (upd H p (.tup (k.map V.int)))
abbrev trsOf (kvs : KVs) : List (TE × TE) := kvs.map fun kv => (tTupI kv.1, tC (.int kv.2))
section
variable {X : Cx} {pos : Pos}
theorem peImp' {e : Expr} {t t' : TE} (h : PE X e t) (k : ∀ s H Q, t' s H Q → t s H Q) : PE X e t' := ⟨fun pins s z H Q I q => h.run pins s z H Q I (k _ _ _ q)⟩
theorem pe_tup2 {a b : Int} {k1 k2 : Nat} {p1 p2 : Pos} {x1 : Nat} (h : PE X (.Tuple [.Constant (.int a) k1 p1, .Constant (.int b) k2 p2] x1 pos) (tTup (tCons (tC (.int a)) (tCons (tC (.int b)) tNil)))) :
    PE X (.Tuple [.Constant (.int a) k1 p1, .Constant (.int b) k2 p2] x1 pos) (tTupI [a, b]) :=
  peImp' h fun s H Q q => ⟨by show 2 ≤ sizeLine; decide, q⟩
def Ext (H H' : Hp) : Prop := ∀ b o, H b = some o → H' b = some o
theorem Ext.upd {H H' : Hp} {p : Addr} {o : HO} (h : Ext H H') (hp : H' p = none) : Ext H (upd H' p o) := fun b u e => by rw [upd_ne (ne_of_none (h b u e) hp)]; exact h b u e
/-- the written pairs, one by one -/
theorem pairs_const : ∀ (kvs : KVs) (σ : L2.St) (H0 H : Hp) (Q : List (V × V) → Hp → Prop), Ext H0 H →
    (∀ ps H', Ext H H' → Paired (fun (kv : List Key × V) (q : V × V) => ∃ b, q.1 = .ref b ∧ H' b = some (.tup (kv.1.map kV)) ∧ q.2 = kv.2) (kvsV kvs) ps → Q ps H') → tPairs (trsOf kvs) σ H Q
  | [], σ, H0, H, Q, _, h => h [] H (fun _ _ e => e) .nil
  | kv :: kvs, σ, H0, H, Q, hx, h => fun p hp => by
    have g : Ext H (upd H p (.tup (kv.1.map V.int))) := Ext.upd (fun _ _ e => e) hp
    refine pairs_const kvs σ H _ _ g fun ps H' e' r => h _ H' (fun b o e => e' b o (g b o e)) (.cons ⟨p, rfl, e' p _ ?_, rfl⟩ r)
    rw [upd_same, keyV_v]
theorem carriesH_of {H : Hp} {h : Heap} {P : Program} {w : World} (ok : HOk P w H h) : ∀ {kvs : List (List Key × V)} {ps : List (V × V)} {ws : List (Value × Value)},
    Paired (fun (kv : List Key × V) (q : V × V) => ∃ b, q.1 = .ref b ∧ H b = some (.tup (kv.1.map kV)) ∧ q.2 = kv.2) kvs ps → VV ps ws → ∃ rs, CarriesH (tupleKind (mixKind P w)) h ws rs ∧ PT3 H kvs rs
  | [], _, _, .nil, .nil => ⟨[], True.intro, .nil⟩
  | kv :: _, (x, y) :: _, (u, v) :: _, .cons q t, .cons r t2 => by
    obtain ⟨rs, c, z⟩ := carriesH_of ok t t2
    obtain ⟨b, e1, e2, e3⟩ := q
    obtain ⟨r1, r2⟩ := r
    simp only at e1 e3 r1 r2
    subst e1 e3
    obtain rfl : u = Value.ref b := r1
    exact ⟨(kv.1, b, v) :: rs, ⟨rfl, rfl, key_of ok e2, c⟩, .cons ⟨rfl, e2, r2⟩ z⟩
theorem wpAny_Dict_walkH {prog : Program} {w : World} {A : Around} {E : Value → Shared → Prop} {s : Shared} {env : Env} {KK : Type} [DecidableEq KK] {knd : HeapKind prog w KK} {keys : List (Option Expr)} {values : List Expr} {Q : Value → Shared → Prop} (hu : knd.room A)
    (hall : keys.all (·.isSome) = true) (hl : keys.length = values.length) (h0 : keys ≠ []) (h15 : keys.length ≤ 15)
    (h : wpAny (model prog w) A (evalPairs (pairTrees keys values env pos)) (fun vs s₁ => ∃ ps, CarriesH knd s₁.heap vs ps ∧ s₁.heap.DictOfH knd s.heap.objs.size [] ∧
      ∀ h' tk, h'.DictOfH knd s.heap.objs.size (storedAllH [] ps) → Heap.SameBut s.heap.objs.size s₁.heap h' → Q (.ref s.heap.objs.size) { s₁ with heap := h', toks := tk }) E
      { s with heap := s.heap.push { cls := .type "dict", data := .dict #[] } }) :
    wpAny (model prog w) A (eval (.Dict keys values pos) env) Q E s := by
  have hn := pairTrees_length keys values env pos hall hl
  have hne : pairTrees keys values env pos ≠ [] := fun he => by
    rw [he] at hn
    exact h0 (List.length_eq_zero_iff.mp hn.symm)
  rw [arm_eval_Dict, zip_pairTrees keys values env pos hall hl, dictDisplay_pairs _ hne (by omega)]
  exact wpAny_bind (wpAny_standAt (wpAny_bind (wpAny_subDictH (knd := knd) (Q := fun d s' => wpAny (model prog w) A (pure (Value.ref d)) Q E s') hu (by omega)
    (wpAny_mono h (fun vs s₁ h₁ => by obtain ⟨ps, hc, hm, hq⟩ := h₁; exact ⟨ps, hc, hm, fun h' tk a b => wpAny_pure (hq h' tk a b)⟩) fun _ _ e => e))))
/-- {(a, b): v, ..} -/
def tDispT (kvs : KVs) : TE := fun σ H Q => ∀ p H2, H p = none → Ext H H2 → H2 p = some (.dT (mergeT [] (kvsV kvs))) → Q (.ref p) H2
theorem pe_dispT {keys : List (Option Expr)} {values : List Expr} {kvs : KVs} (hu : X.A.units + 1 < cLine) (h : PPs X pos keys values (trsOf kvs)) (hall : keys.all (·.isSome) = true) (hl : keys.length = values.length) (h0 : keys ≠ [])
    (h15 : keys.length ≤ 15) (hk : kvs.length ≤ 15) : PE X (.Dict keys values pos) (tDispT kvs) := by
  refine ⟨fun pins s σ H Q I q => ?_⟩
  have hn := I.hok.fresh (Nat.le_refl s.heap.objs.size)
  have I1 := I.laid (a := s.heap.objs.size) (o := .dT []) (h' := s.heap.push { cls := .type "dict", data := .dict #[] }) (t' := s.toks) (fun _ _ q => Heap.get?_push_of_some _ q) (Nat.le_refl _) (dt_empty s.heap I.big)
  have g0 : Ext H (upd H s.heap.objs.size (.dT [])) := Ext.upd (fun _ _ e => e) hn
  refine wpAny_Dict_walkH (knd := tupleKind (mixKind X.prog X.w)) (show X.A.units < cLine by omega) hall hl h0 h15 (thn (h.run pins _ σ _ (fun ps H' => Ext (upd H s.heap.objs.size (.dT [])) H' ∧ Paired (fun (kv : List Key × V) (q : V × V) => ∃ b, q.1 = .ref b ∧ H' b = some (.tup (kv.1.map kV)) ∧ q.2 = kv.2) (kvsV kvs) ps) I1
    (pairs_const kvs σ _ _ _ (fun _ _ e => e) fun ps H' e r => ⟨e, r⟩)) fun ws s2 ⟨ps, H2, I2, rel, ex, pr⟩ => ?_)
  obtain ⟨rs, c, rk⟩ := carriesH_of I2.hok pr rel
  have e : H2 s.heap.objs.size = some (.dT []) := ex _ _ upd_same
  obtain ⟨z, hd, xs0, r0, dd⟩ := dt_of I2.hok e
  cases r0
  refine ⟨rs, c, dd, fun h' tk dd' hs => ?_⟩
  have hz : (mergeT [] (kvsV kvs)).length ≤ sizeLine := by
    have q1 := length_mergeT (kvsV kvs) []
    rw [List.length_nil, List.length_map] at q1
    rw [sizeLine_eq]; omega
  obtain ⟨q1, es, ep, hq, k2, k3, k4, _, k5⟩ := dd'
  refine ⟨.ref s.heap.objs.size, upd H2 s.heap.objs.size (.dT (mergeT [] (kvsV kvs))), ?_, rfl, q _ _ hn (fun b o eb => ?_) upd_same⟩
  · refine d_write I2 (by rw [e]; exact True.intro) hs ⟨q1, hq⟩ ⟨hz, hd, _, (KT.merge rk .nil).keeps fun c ys ec => ?_, q1, es, ep, hq, k2, k3, k4, k5⟩
    rw [upd_ne (ne_of ec e (fun z => nomatch z))]
    exact ec
  · rw [upd_ne (ne_of_none eb hn)]
    exact ex b o (g0 b o eb)
/-- a tuple of whole numbers, tracked or written, is a key -/
theorem key_ofT {pins : List (Addr × Obj)} {σ : L2.St} {H : Hp} {s : Shared} {b : Addr} {k : List Int} (I : Inv X pins σ H s) (e : SqT X.K H b (k.map V.int)) : (tupleKind (mixKind X.prog X.w)).is s.heap (keyV k) b := by
  obtain ⟨its, r, ⟨o, q1, q2, n, q3⟩, _⟩ := I.tuple e
  exact ⟨o, its.toArray, n, q1, q2, q3, by rw [← keyV_v] at r; simpa using items_are r⟩
/-- d.get(k, x), k a tuple of whole numbers -/
def tDGetT (K : PySem.W.Frag) (td ty tx : TE) : TE := fun σ H Q => td σ H fun x H1 => ∃ a, x = .ref a ∧ IsD H1 a ∧ ty σ H1 fun y H2 => tx σ H2 fun z H3 => ∃ b k kvs, y = .ref b ∧ SqT K H3 b (k.map V.int) ∧ H3 a = some (.dT kvs) ∧ Q ((valV kvs (keyV k)).getD z) H3
theorem pe_dgetT {o e f : Expr} {apos cpos : Pos} {td ty tx : TE} (hu : X.A.units + 1 < cLine) (ho : PE X o td) (he : PE X e ty) (hf : PE X f tx) (m : M2 X o "get" apos e f cpos) : PE X (.Call (.Attribute o "get" apos) [e, f] [] cpos) (tDGetT X.K td ty tx) := by
  refine ⟨fun pins s σ H Q I h => ?_⟩
  refine wpAny_Call_method m.base m.few m.line PySem.F.plainAttrs_dict PySem.F.slot_dict_get PySem.F.type_dict_get (thn (ho.run pins s σ H _ I h) fun u s1 ⟨x, H1, I1, rx, a, ex, d, q1⟩ => ?_)
  subst ex
  obtain rfl : u = Value.ref a := rx
  obtain ⟨t1, t2, _⟩ := isD_at I1 d
  refine ⟨t1, t2, ?_⟩
  rw [m.trees]
  refine Calls.callWith_builtin rfl (Calls.evalArgs_plain (Calls.spliced_cons (thn (he.run pins s1 σ H1 _ I1 q1) fun iv s2 ⟨y, H2, I2, ry, q2⟩ =>
    Calls.spliced_cons (thn (hf.run pins s2 σ H2 _ I2 q2) fun fv s3 ⟨zz, H3, I3, rz, b, k, kvs, ey, sq, ed, q3⟩ => Calls.spliced_nil ?_))))
  subst ey
  cases (show iv = Value.ref b from ry)
  obtain ⟨_, hd, xs, rel, dd⟩ := dt_of I3.hok ed
  exact call_meetsIn PySem.F.slot_dict_get dd.typeIs PySem.F.entry_dict_get (PySem.F.args_dict_get_3 _ _ _) (meetsH_dict_get_default (tupleKind (mixKind X.prog X.w)) a b hd fv) ⟨tupleKind_room_in1 hu, keyV k, xs, key_ofT I3 sq, dd, ⟨_, H3, I3.tok _, (rel.val (keyV k)).getD rz, q3⟩⟩
theorem RepS.ext {K : PySem.W.Frag} {m : List Addr} {H H' : Hp} {S : Sto} (r : RepS K m H S) (h : Ext H H') (g : Grow m H m H') : RepS K m H' S :=
  ⟨r.nd, r.len, fun n ob e => by
    obtain ⟨a, q1, q2⟩ := r.at_ n ob e
    obtain ⟨u, e2⟩ := q2.some
    exact ⟨a, q1, q2.grow g ((h a u e2).trans e2.symm)⟩⟩
theorem Grow.ext {m : List Addr} {H H' : Hp} (h : Ext H H') : Grow m H m H' := ⟨fun _ _ e => e, fun b xs e => h b _ e, fun b o u e => h b _ e, fun b o e => h b _ e, fun b o e _ => h b o e, fun _ q n => absurd q n⟩
/-- what a written dict holds at a key, or None -/
def kvLook (kvs : KVs) (k : List Int) (o : Option Int) : Option Int := kvs.foldl (fun o kv => if k = kv.1 then some kv.2 else o) o
def kvGet (kvs : KVs) (k : List Int) : D := match kvLook kvs k none with
  | some v => .int v
  | none => .non
theorem keyV_inj {j k : List Int} : keyV j = keyV k ↔ j = k := by
  constructor
  · intro h
    exact List.map_inj_right (fun _ _ e => Sum.inl.inj e) |>.mp h
  · rintro rfl; rfl
theorem kvLook_v (k : List Int) : ∀ (more : KVs) (acc : List (List Key × V)) (o : Option Int), valV acc (keyV k) = o.map V.int → valV (mergeT acc (kvsV more)) (keyV k) = (kvLook more k o).map V.int
  | [], _, _, h => h
  | kv :: more, acc, o, h => by
    refine kvLook_v k more (putK acc (keyV kv.1) (V.int kv.2)) _ ?_
    rw [valV_put]
    show _ = ((if k = kv.1 then some kv.2 else o) : Option Int).map V.int
    by_cases e : k = kv.1
    · rw [if_pos (keyV_inj.mpr e), if_pos e]; rfl
    · rw [if_neg (fun q => e (keyV_inj.mp q)), if_neg e]; exact h
theorem RepDs.intsV {K : PySem.W.Frag} {H : Hp} : ∀ {k : List Int} {vs : List V}, RepDs K H (k.map D.int) vs → vs = k.map V.int
  | [], _, h => h
  | a :: k, _, ⟨v, r, e, h, t⟩ => by
    obtain rfl : v = V.int a := h
    rw [e, RepDs.intsV t]; rfl
/-- x = {..}; return x.get(e, None) -/
abbrev wDGet (i : Nat) (kvs : KVs) (we : PE1) : PS1 := fun N r S => i < r.length ∧ we (r.set i none) S fun y S1 => match y with
  | .r (.d (.tup xs)) => match intsOf xs with
    | some k => N.rt (.d (kvGet kvs k)) S1
    | none => False
  | _ => False
theorem wss_dget {i : Nat} {x : Str} {e : Expr} {we : PE1} {keys : List (Option Expr)} {values : List Expr} {kvs : KVs} {px px2 pd ap cp pc p1 p2 : Pos} {kc : Nat}
    (hD : PE X (.Dict keys values pd) (tDispT kvs)) (hN : X.N.Nodup) (hi : X.N[i]? = some x) (hx : Loc X.env.scope x) (hv : PE X (.Name x px2) (tVar i)) (he : WE X e we) (hu : X.A.units + 1 < cLine)
    (m : M2 X (.Name x px2) "get" ap e (.Constant .none kc pc) cp)
    (hs : swapsWith (.Dict keys values pd) (some (.Name x px)) p1.line X.env = pure false := by rfl) (hf : X.fn x = true ∨ X.env.scope.names.lookup x = some .local := by first | exact .inl rfl | exact .inr rfl | assumption) :
    WSs X [.Assign [.Name x px] (.Dict keys values pd) p1, .Return (some (.Call (.Attribute (.Name x px2) "get" ap) [e, .Constant .none kc pc] [] cp)) p2] (wDGet i kvs we) := by
  refine ⟨pssImp (pss_cons (ps_set hN hi hx hD hs hf) (pss_one (ps_ret (pe_dgetT hu hv he.pe pe_non m)))) fun D s H ⟨m0, r, S, N, hE, hS, ⟨hlt, hw⟩, hfin⟩ => ?_⟩
  intro p H2 hp hext hdt
  have g : Grow m0 H m0 H2 := Grow.ext hext
  have hS2 : RepS X.K m0 H2 S := hS.ext hext g
  have hE2 : RepE X.K m0 H2 (r.set i none) (s.set i (some (.ref p))) := by
    refine ⟨by simp [hE.len], fun j y ej => ?_⟩
    by_cases hj : i = j
    · subst hj
      by_cases hl : i < r.length
      · rw [List.getElem?_set_self hl] at ej; cases ej
      · rw [List.getElem?_eq_none (by simpa using hl)] at ej; cases ej
    · rw [List.getElem?_set_ne hj] at ej
      obtain ⟨v, q1, q2⟩ := hE.at_ j y ej
      exact ⟨v, by rw [List.getElem?_set_ne hj]; exact q1, RepR.grow g y v q2⟩
  rw [← hE.len] at hlt
  refine ⟨.ref p, by rw [List.getElem?_set_self hlt], p, rfl, .inr ⟨_, .inl hdt⟩, m0, r.set i none, S, _, hE2, hS2, hw, fun y S1 v m1 H1 h1 g1 r1 q1 => ?_⟩
  split at h1
  · rename_i xs
    split at h1
    · rename_i k ek
      have ex := ints_eq ek
      subst ex
      obtain ⟨b, vs, rfl, k1, k2⟩ := q1
      have k3 := k2.intsV
      subst k3
      have pn : p ∉ m0 := hS.notmem hp
      have hd1 : H1 p = some (.dT (mergeT [] (kvsV kvs))) := g1.frame p _ hdt pn
      refine ⟨b, k, _, rfl, k1, hd1, ?_⟩
      have ev := kvLook_v k kvs [] none rfl
      refine hfin.rt _ S1 _ m1 H1 h1 (g.trans g1) r1 ?_
      unfold kvGet
      rw [ev]
      cases kvLook kvs k none <;> rfl
    · exact h1.elim
  · exact h1.elim
end
end Z

set_option Elab.async false
set_option linter.all false
set_option maxRecDepth 100000
/-! Z12: order of data, sorted, a list that a def has handed back put into a row. -/
namespace Z
open PySem PySem.Spec PyProof.Rows L2 RZ
section
variable {X : Cx}
/-- x < y of data -/
abbrev pLtD : P2 := fun x y S W => match pyOf S x, pyOf S y with
  | some d, some e => (PySem.W.alike d e = true ∧ d ≠ .none ∧ min d.depth e.depth ≤ 60) ∧ W (.r (.d (.bl (PySem.W.dataLt d e)))) S
  | _, _ => False
theorem o_ltD (hu : X.A.units + 64 < cLine) : OpP X (compareOp .Lt) pLtD := by
  refine ⟨fun x y H Q => ∃ d e, Dp X.K H x d ∧ Dp X.K H y e ∧ PySem.W.alike d e = true ∧ d ≠ .none ∧ min d.depth e.depth ≤ 60 ∧ Q (.bl (PySem.W.dataLt d e)) H, ?_, fun x y S W v u m H H0 Q r qx qy w f => ?_⟩
  · intro pins s σ H x y v u Q I rx ry h
    obtain ⟨d, e, hd, he, sd, se, hm, q⟩ := h
    obtain ⟨as, r1⟩ := Dp.reads I d x v hd rx
    obtain ⟨bs, r2⟩ := Dp.reads I e y u he ry
    exact PySem.W.lt_data r1 r2 sd se (by omega) ⟨.bl _, H, I, rfl, q⟩
  · simp only [pLtD] at w
    split at w
    · rename_i d e e1 e2
      obtain ⟨h1, h2⟩ := qx.py r e1
      obtain ⟨h3, h4⟩ := qy.py r e2
      exact ⟨d, e, h1, h3, w.1.1, w.1.2.1, w.1.2.2, f.here r (x := svb _) rfl w.2⟩
    · exact w.elim
theorem pys_map : ∀ xs : List D, pys xs = xs.map py
  | [] => rfl
  | x :: xs => by rw [pys, List.map_cons, pys_map xs]
/-- sorted -/
def srtD (ds : List D) : List D := ds.mergeSort (PySem.W.dataLe false py)
theorem each_reads {pins : List (Addr × Obj)} {σ : L2.St} {H : Hp} {s : Shared} (I : Inv X pins σ H s) : ∀ {ds : List D} {vs : List V} {its : List Value}, RepDs X.K H ds vs → Vals vs its → PySem.W.EachIs (fun v d => ∃ as, Reads s.heap v d as) its (ds.map py)
  | [], _, _, h, r => by cases h; cases r; exact .nil
  | d :: ds, _, _, ⟨v, t, e, h, q⟩, r => by
    subst e
    cases r with
    | cons r1 r2 => exact .cons (Dp.reads I _ _ _ (RepD.dp d v h) r1) (each_reads I q r2)
theorem each_rep {K : PySem.W.Frag} {H : Hp} : ∀ {ds : List D} {vs : List V} {its : List Value}, RepDs K H ds vs → Vals vs its → PySem.W.EachIs (fun u d => ∃ v, RelV v u ∧ RepD K H d v) its ds
  | [], _, _, h, r => by cases h; cases r; exact .nil
  | d :: ds, _, _, ⟨v, t, e, h, q⟩, r => by
    subst e
    cases r with
    | cons r1 r2 => exact .cons ⟨v, r1, h⟩ (each_rep q r2)
theorem rep_each {K : PySem.W.Frag} {H : Hp} : ∀ {ds : List D} {its : List Value}, PySem.W.EachIs (fun u d => ∃ v, RelV v u ∧ RepD K H d v) its ds → ∃ vs, RepDs K H ds vs ∧ Vals vs its
  | [], _, .nil => ⟨[], rfl, .nil⟩
  | d :: ds, _, .cons ⟨v, r, h⟩ t => by
    obtain ⟨vs, q1, q2⟩ := rep_each t
    exact ⟨v :: vs, ⟨v, vs, rfl, h, q1⟩, .cons r q2⟩
def rSortD (K : PySem.W.Frag) : List V → Hp → VK → Prop := fun vs H Q => ∃ a ds xs, vs = [V.ref a] ∧ SqL K H a xs ∧ RepDs K H ds xs ∧ PySem.W.AllAlike (ds.map py) ∧ PySem.W.Sortable (ds.map py) ∧ (∀ d ∈ ds, (py d).depth ≤ 50) ∧
  ∀ ys p, RepDs K H (srtD ds) ys → H p = none → Q (.ref p) (upd H p (.lst ys))
theorem cr_sortD (hu : X.A.units + 64 < cLine) : CallR X (.builtin "sorted") (rSortD X.K) := by
  intro pins s σ H vs us Q I r h
  obtain ⟨a, ds, xs, rfl, hs, hx, hal, hso, hd, q⟩ := h
  obtain ⟨its, rv, hl, hz⟩ := I.list hs
  obtain ⟨u, rfl, ru⟩ := vals1 r
  obtain rfl : u = Value.ref a := ru
  have I2 : Inv X pins σ H { s with heap := PySem.W.sortingHeap (PySem.W.copyHeap s.heap its) (s.heap.objs.size + 1) its } := I.kept (t' := s.toks) fun b o e => PySem.W.sorting_copy_old e
  have ea := each_reads I2 hx rv
  have st := PySem.W.SortsAt.data (prog := X.prog) (w := X.w) (A := X.A.in1.in1) (s := { s with heap := PySem.W.sortingHeap (PySem.W.copyHeap s.heap its) (s.heap.objs.size + 1) its }) ea hal hso (fun d hm => by
    obtain ⟨e, he, rfl⟩ := List.mem_map.mp hm
    have := hd e he
    show X.A.units + 1 + 1 + _ < _
    omega)
  refine PySem.W.sorted_vals hl.isList st (by rw [← rv.length]; exact hz) ?_
  have er := PySem.W.keyedOut_each (rev := false) py ⟨_, _, hal, rfl, ea⟩ (each_rep hx rv)
  obtain ⟨ys, y1, y2⟩ := rep_each er
  obtain ⟨ee, he⟩ := sortedAll_at s.heap its (PySem.W.sortVals (PySem.W.dataKind (PySem.W.sortingHeap (PySem.W.copyHeap s.heap its) (s.heap.objs.size + 1) its) (ds.map py)) false its its).toArray
  refine ⟨.ref (s.heap.objs.size + 1), upd H (s.heap.objs.size + 1) (.lst ys), I.laid (t' := s.toks) (fun b o e => sortedAll_old e) (Nat.le_succ _) ⟨?_, _, ee, y2, he⟩, rfl, q ys _ y1 (I.hok.fresh (Nat.le_succ _))⟩
  have l1 := y1.len
  have l2 := hx.len
  have l3 : (srtD ds).length = ds.length := List.length_mergeSort ds
  show ys.length ≤ _
  rw [l1]
  show (srtD ds).length ≤ _
  rw [l3, ← l2]; exact hz
abbrev fSorted : PF := fun xs S W => match xs with
  | [x] => match isLst x, seqOf S x with
    | true, some ds => (PySem.W.AllAlike (ds.map py) ∧ PySem.W.Sortable (ds.map py) ∧ ∀ d ∈ ds, (py d).depth ≤ 50) ∧ W (.f (srtD ds)) S
    | _, _ => False
  | _ => False
theorem f_sorted (hu : X.A.units + 64 < cLine) : FnP X (.builtin "sorted") fSorted := by
  refine ⟨_, cr_sortD hu, fun xs S W vs m H H0 Q r q w f => ?_⟩
  unfold fSorted at w
  split at w
  · rename_i x
    obtain ⟨v, rfl, q1⟩ := q.one
    split at w
    · rename_i ds hl e
      obtain ⟨p, us, rfl, h1, h2⟩ := q1.seq r e
      rw [if_pos hl] at h2
      exact ⟨p, ds, us, rfl, h2, h1, w.1.1, w.1.2.1, w.1.2.2, fun ys p hr hp => f.lst r hr w.2 p hp⟩
    · exact w.elim
  · exact w.elim
/-- a list that has just come into the store, and that nobody will write: from here on it is data -/
abbrev wFzL (w : PE1) : PE1 := fun r S W => w r S fun x S1 => match x with
  | .r (.loc n) => match S1[n]? with
    | some (.lst xs) => (S.length ≤ n ∧ n + 1 = S1.length) ∧ W (.r (.d (.lst xs))) (S1.take n)
    | _ => False
  | .f xs => W (.r (.d (.lst xs))) S1
  | .r y => W (.r y) S1
theorem take_get {α : Type} {l : List α} {n k : Nat} {x : α} (h : (l.take n)[k]? = some x) : k < n ∧ l[k]? = some x := by
  rw [List.getElem?_take] at h
  split at h
  · rename_i q; exact ⟨q, h⟩
  · cases h
theorem we_fzL {e : Expr} {we : PE1} (h : WE X e we) : WE X e (wFzL we) := by
  refine ⟨⟨fun pins s z H Q I ⟨m, r, S, W, hE, hS, hw, hf⟩ => ?_⟩⟩
  refine thn (h.pe.run pins s z H (fun v H1 => Q v H1 ∨ ∃ a vs, v = .ref a ∧ H1 a = some (.lst vs) ∧ ∀ od, Q v (upd H1 a (.frz od (.lst vs)))) I ⟨m, r, S, _, hE, hS, hw, fun x S1 v m1 H1 h1 g1 r1 q1 => ?_⟩) fun v s1 ⟨x, H1, I1, rl, q⟩ => ?_
  · cases x with
    | f xs =>
      obtain ⟨a, vs, rfl, e1, ha, h0, hd⟩ := q1
      exact .inr ⟨a, vs, rfl, e1, fun od => hf _ S1 _ m1 _ h1 (g1.frz_new h0 e1) (r1.frz ha e1) ⟨a, vs, rfl, .inl ⟨od, upd_same⟩, RepDs.keep (kt_fz e1) (kf_fz e1) xs vs hd⟩⟩
    | r y =>
      cases y with
      | d y => exact .inl (hf _ S1 v m1 H1 h1 g1 r1 q1)
      | ro y => exact .inl (hf _ S1 v m1 H1 h1 g1 r1 q1)
      | ex y => exact .inl (hf _ S1 v m1 H1 h1 g1 r1 q1)
      | ad y => exact .inl (hf _ S1 v m1 H1 h1 g1 r1 q1)
      | tr y => exact .inl (hf _ S1 v m1 H1 h1 g1 r1 q1)
      | loc n =>
        simp only at h1
        split at h1
        · rename_i xs en
          obtain ⟨⟨k1, k2⟩, w⟩ := h1
          obtain ⟨a, ha, rfl⟩ := q1
          obtain ⟨a', ha', vs, e1, hd⟩ := r1.at_ n _ en
          rw [ha] at ha'; cases ha'
          have ml : m.length = S.length := hS.len
          have m1l : m1.length = S1.length := r1.len
          have anew : a ∉ m := fun hm => by
            obtain ⟨j, hj⟩ := List.getElem?_of_mem hm
            have jl : j < m.length := (List.getElem?_eq_some_iff.mp hj).1
            have := g1.pre j a hj
            obtain ⟨l1, e2⟩ := List.getElem?_eq_some_iff.mp this
            obtain ⟨l2, e3⟩ := List.getElem?_eq_some_iff.mp ha
            have := (List.getElem_inj r1.nd).mp (e2.trans e3.symm)
            omega
          have h0 : H a = none := g1.new a (List.mem_of_getElem? ha) anew
          refine .inr ⟨a, vs, rfl, e1, fun od => ?_⟩
          have ne : ∀ b, b ∈ m1.take n → b ≠ a := fun b hb e => by
            subst e
            obtain ⟨j, hj⟩ := List.getElem?_of_mem hb
            obtain ⟨jn, hj⟩ := take_get hj
            obtain ⟨l1, e2⟩ := List.getElem?_eq_some_iff.mp hj
            obtain ⟨l2, e3⟩ := List.getElem?_eq_some_iff.mp ha
            have := (List.getElem_inj r1.nd).mp (e2.trans e3.symm)
            omega
          have G : Grow m H (m1.take n) (upd H1 a (.frz od (.lst vs))) := by
            refine ⟨fun j b hj => ?_, fun b xs' hb => kt_fz e1 b xs' (g1.tup b xs' hb), fun b o u hb => kf_fz e1 b o u (g1.frz b o u hb), fun b φ hb => by rw [upd_ne (ne_of (g1.xt b φ hb) e1 (fun q => nomatch q))]; exact g1.xt b φ hb, fun b o hb hn => ?_, fun b hb hn => g1.new b (List.mem_of_mem_take hb) hn⟩
            · have jl : j < m.length := (List.getElem?_eq_some_iff.mp hj).1
              rw [List.getElem?_take_of_lt (by omega)]
              exact g1.pre j b hj
            · rw [upd_ne (ne_of_none hb h0)]
              exact g1.frame b o hb hn
          have R' : RepS X.K (m1.take n) (upd H1 a (.frz od (.lst vs))) (S1.take n) := by
            refine ⟨(List.take_sublist n m1).nodup r1.nd, by simp [m1l], fun j ob hj => ?_⟩
            obtain ⟨jn, hj⟩ := take_get hj
            obtain ⟨b, hb, ho⟩ := r1.at_ j ob hj
            refine ⟨b, by rw [List.getElem?_take_of_lt jn]; exact hb, ?_⟩
            have bn : b ≠ a := ne b (List.mem_of_getElem? (by rw [List.getElem?_take_of_lt jn]; exact hb))
            exact ho.via (fun x v => RepR.conv (fun _ _ h => h) (fun x v => RepD.keep (kt_fz e1) (kf_fz e1) x v) (kt_fz e1) (kf_fz e1) (fun b C h => by rw [upd_ne (ne_of h e1 (fun q => nomatch q))]; exact h) x v) (upd_ne bn)
          exact hf _ _ _ _ _ w G R' ⟨a, vs, rfl, .inl ⟨od, upd_same⟩, RepDs.keep (kt_fz e1) (kf_fz e1) xs vs hd⟩
        · exact h1.elim
  · rcases q with q | ⟨a, vs, rfl, e1, q⟩
    · exact ⟨x, H1, I1, rl, q⟩
    · obtain ⟨od, I2⟩ := I1.lock e1 trivial
      exact ⟨_, _, I2, rl, q od⟩
end
end Z

set_option Elab.async false
set_option linter.all false
set_option maxRecDepth 100000
set_option exponentiation.threshold 20000
/-! R30: the settings by which a hanger makes a turn: the mathematics. -/
namespace Z
open PySem PySem.Spec PyProof.Rows L2 RZ
/-- 1 where the letter b follows a, else -1 -/
def hnd (a b : Nat) : Int := if ((b : Int) - a) % 3 = 1 then 1 else -1
def sgn (a b c : Nat) : Int := if a = c then 0 else hnd a b
def trd (a b : Nat) : Nat := 3 - a - b
/-- two pairs of numbers laid into a four -/
def asm (a b : Nat) (a0 a1 b0 b1 : Int) : List Int :=
  let f := fun i : Nat => if i = a then a1 else if i = b then b0 else hnd a b * b1
  [a0, f 0, f 1, f 2]
theorem hnd_sq (a b : Nat) : hnd a b * hnd a b = 1 := by unfold hnd; split <;> rfl
theorem IsHg.ab {a b c : Nat} (h : IsHg a b c) : IsHg a b a := ⟨h.1, h.2.1, h.1, h.2.2.2.1, fun e => h.2.2.2.1 e.symm⟩
theorem hng_asm {a b c : Nat} (h : IsHg a b c) (k1 l1 k2 l2 k3 l3 : Int) :
    hng a b a k1 l1 k2 l2 k3 l3 = asm a b (l2 * (l1 * l3 - k1 * k3)) (l2 * (k1 * l3 + l1 * k3)) (k2 * (l1 * l3 + k1 * k3)) (k2 * (k1 * l3 - l1 * k3)) := by
  obtain ⟨h1, h2, h3, h4, h5⟩ := h
  rcases (by omega : a = 0 ∨ a = 1 ∨ a = 2) with rfl | rfl | rfl <;> rcases (by omega : b = 0 ∨ b = 1 ∨ b = 2) with rfl | rfl | rfl <;>
    first
    | exact absurd rfl h4
    | (simp [hng, lt, abt, uw, qmul, asm, hnd]; grind)
theorem asm_rays {a b c : Nat} (h : IsHg a b c) {q : List Int} (hq : q.length = 4) : asm a b (q[0]!) (q[1 + a]!) (q[1 + b]!) (hnd a b * q[1 + trd a b]!) = q := by
  obtain ⟨w, x, y, z, rfl⟩ := four_of hq
  obtain ⟨h1, h2, h3, h4, h5⟩ := h
  rcases (by omega : a = 0 ∨ a = 1 ∨ a = 2) with rfl | rfl | rfl <;> rcases (by omega : b = 0 ∨ b = 1 ∨ b = 2) with rfl | rfl | rfl <;>
    first
    | exact absurd rfl h4
    | simp [asm, hnd, trd]
theorem asm_get {a b c : Nat} (h : IsHg a b c) (a0 a1 b0 b1 : Int) : (asm a b a0 a1 b0 b1)[0]! = a0 ∧ (asm a b a0 a1 b0 b1)[1 + a]! = a1 ∧ (asm a b a0 a1 b0 b1)[1 + b]! = b0 ∧ hnd a b * (asm a b a0 a1 b0 b1)[1 + trd a b]! = b1 := by
  obtain ⟨h1, h2, h3, h4, h5⟩ := h
  rcases (by omega : a = 0 ∨ a = 1 ∨ a = 2) with rfl | rfl | rfl <;> rcases (by omega : b = 0 ∨ b = 1 ∨ b = 2) with rfl | rfl | rfl <;>
    first
    | exact absurd rfl h4
    | simp [asm, hnd, trd]
theorem asm_smul (a b : Nat) (t a0 a1 b0 b1 : Int) : (asm a b a0 a1 b0 b1).map (t * ·) = asm a b (t * a0) (t * a1) (t * b0) (t * b1) := by
  have e : ∀ (i : Nat) (h : Int), t * (if i = a then a1 else if i = b then b0 else h * b1) = (if i = a then t * a1 else if i = b then t * b0 else h * (t * b1)) := fun i h => by
    split
    · rfl
    · split
      · rfl
      · grind
  simp only [asm, List.map_cons, List.map_nil, e]
theorem asm_len (a b : Nat) (a0 a1 b0 b1 : Int) : (asm a b a0 a1 b0 b1).length = 4 := rfl
theorem asm_inj {a b c : Nat} (h : IsHg a b c) {a0 a1 b0 b1 c0 c1 d0 d1 : Int} (e : asm a b a0 a1 b0 b1 = asm a b c0 c1 d0 d1) : a0 = c0 ∧ a1 = c1 ∧ b0 = d0 ∧ b1 = d1 := by
  have p := asm_get h a0 a1 b0 b1
  have q := asm_get h c0 c1 d0 d1
  rw [e] at p
  exact ⟨p.1.symm.trans q.1, p.2.1.symm.trans q.2.1, p.2.2.1.symm.trans q.2.2.1, p.2.2.2.symm.trans q.2.2.2⟩
/-- the four with which the alike hanger is asked -/
def her (a b c : Nat) (q : List Int) : List Int := qmul q (lt b (-(sgn a b c)) 1)
theorem her_len (a b c : Nat) {q : List Int} (h : q.length = 4) : (her a b c q).length = 4 := qmul_len h rfl
theorem lt_one (b : Nat) : lt b 0 1 = [1, 0, 0, 0] := by simp [lt, abt, uw]
theorem her_same {a b : Nat} {q : List Int} (h : q.length = 4) : her a b a q = q := by
  obtain ⟨w, x, y, z, rfl⟩ := four_of h
  simp [her, sgn, lt_one, qmul]
theorem her_back {a b c : Nat} (h : IsHg a b c) {q : List Int} (hq : q.length = 4) : qmul (her a b c q) (lt b (sgn a b c) 1) = q.map ((1 + sgn a b c * sgn a b c) * ·) := by
  obtain ⟨w, x, y, z, rfl⟩ := four_of hq
  obtain ⟨h1, h2, h3, h4, h5⟩ := h
  unfold her
  generalize sgn a b c = s
  clear h1 h3 h4 h5
  rcases (by omega : b = 0 ∨ b = 1 ∨ b = 2) with rfl | rfl | rfl <;> (simp [lt, abt, uw, qmul]; grind)
theorem her_smul (a b c : Nat) (t : Int) {q : List Int} (h : q.length = 4) : her a b c (q.map (t * ·)) = (her a b c q).map (t * ·) := qmul_smul_l h rfl
theorem hng_led {a b c : Nat} (h : IsHg a b c) (k1 l1 k2 l2 k3 l3 : Int) :
    hng a b c k1 l1 (k2 + sgn a b c * l2) (l2 - sgn a b c * k2) k3 l3 = qmul (hng a b a k1 l1 k2 l2 k3 l3) (lt b (sgn a b c) 1) := by
  obtain ⟨h1, h2, h3, h4, h5⟩ := h
  rcases (by omega : a = 0 ∨ a = 1 ∨ a = 2) with rfl | rfl | rfl <;> rcases (by omega : b = 0 ∨ b = 1 ∨ b = 2) with rfl | rfl | rfl <;> rcases (by omega : c = 0 ∨ c = 1 ∨ c = 2) with rfl | rfl | rfl <;>
    first
    | exact absurd rfl h4
    | exact absurd rfl h5
    | (simp [hng, lt, abt, uw, qmul, sgn, hnd]; try grind)
theorem hng_unled {a b c : Nat} (h : IsHg a b c) (k1 l1 k2 l2 k3 l3 : Int) :
    hng a b a k1 l1 (k2 - sgn a b c * l2) (l2 + sgn a b c * k2) k3 l3 = her a b c (hng a b c k1 l1 k2 l2 k3 l3) := by
  obtain ⟨h1, h2, h3, h4, h5⟩ := h
  rcases (by omega : a = 0 ∨ a = 1 ∨ a = 2) with rfl | rfl | rfl <;> rcases (by omega : b = 0 ∨ b = 1 ∨ b = 2) with rfl | rfl | rfl <;> rcases (by omega : c = 0 ∨ c = 1 ∨ c = 2) with rfl | rfl | rfl <;>
    first
    | exact absurd rfl h4
    | exact absurd rfl h5
    | (simp [hng, her, lt, abt, uw, qmul, sgn, hnd]; try grind)
/-! ### half a ray -/
def hk (x y r : Int) : Int := if r + x = 0 then 1 else y
def hl (x r : Int) : Int := if r + x = 0 then 0 else r + x
theorem h_nz (x y r : Int) : ∃ n ∈ [hk x y r, hl x r], n ≠ 0 := by
  unfold hk hl
  by_cases h : r + x = 0
  · exact ⟨1, by simp [h], by decide⟩
  · exact ⟨r + x, by simp [h], h⟩
theorem sq_zero {y : Int} (h : y * y = 0) : y = 0 := by
  rcases Int.mul_eq_zero.mp h with h | h <;> exact h
/-- half rays put together are the rays -/
theorem core {a0 a1 x y r : Int} (hr : r * r = (a0 * a0 + a1 * a1) * (x * x + y * y)) (r0 : r ≠ 0) :
    ∃ κ : Int, (a0 * a0 + a1 * a1) * (hl (a0 * x - a1 * y) r * hl (a0 * x + a1 * y) r - hk (a0 * x - a1 * y) (a0 * y + a1 * x) r * hk (a0 * x + a1 * y) (a1 * x - a0 * y) r) = κ * a0 ∧
      (a0 * a0 + a1 * a1) * (hk (a0 * x - a1 * y) (a0 * y + a1 * x) r * hl (a0 * x + a1 * y) r + hl (a0 * x - a1 * y) r * hk (a0 * x + a1 * y) (a1 * x - a0 * y) r) = κ * a1 ∧
      r * (hl (a0 * x - a1 * y) r * hl (a0 * x + a1 * y) r + hk (a0 * x - a1 * y) (a0 * y + a1 * x) r * hk (a0 * x + a1 * y) (a1 * x - a0 * y) r) = κ * x ∧
      r * (hk (a0 * x - a1 * y) (a0 * y + a1 * x) r * hl (a0 * x + a1 * y) r - hl (a0 * x - a1 * y) r * hk (a0 * x + a1 * y) (a1 * x - a0 * y) r) = κ * y := by
  by_cases hp : r + (a0 * x - a1 * y) = 0
  · have py : a0 * y + a1 * x = 0 := sq_zero (by
      have : (a0 * y + a1 * x) * (a0 * y + a1 * x) = r * r - (a0 * x - a1 * y) * (a0 * x - a1 * y) := by rw [hr]; grind
      rw [this, show a0 * x - a1 * y = -r by omega]; grind)
    by_cases hq : r + (a0 * x + a1 * y) = 0
    · have qy : a1 * x - a0 * y = 0 := sq_zero (by
        have : (a1 * x - a0 * y) * (a1 * x - a0 * y) = r * r - (a0 * x + a1 * y) * (a0 * x + a1 * y) := by rw [hr]; grind
        rw [this, show a0 * x + a1 * y = -r by omega]; grind)
      have e1 : a1 * y = 0 := by omega
      have e2 : a0 * y = 0 := by omega
      have e3 : a1 * x = 0 := by omega
      have e4 : r = -(a0 * x) := by omega
      have x0 : x ≠ 0 := fun e => by rw [e] at e4; simp at e4; exact r0 e4
      have a00 : a0 ≠ 0 := fun e => by rw [e] at e4; simp at e4; exact r0 e4
      have e5 : a1 = 0 := (Int.mul_eq_zero.mp e3).resolve_right x0
      have e6 : y = 0 := (Int.mul_eq_zero.mp e2).resolve_left a00
      subst e5 e6
      refine ⟨-a0, ?_⟩
      simp only [hk, hl, if_pos hp, if_pos hq]
      refine ⟨by grind, by grind, by grind, by grind⟩
    · refine ⟨2 * r * a1, ?_⟩
      simp only [hk, hl, if_pos hp, if_neg hq]
      have f1 : (a0 * a0 + a1 * a1) * x = -(r * a0) := by grind
      have f2 : (a0 * a0 + a1 * a1) * y = r * a1 := by grind
      have f3 : r + (a0 * x + a1 * y) = 2 * (a1 * y) := by omega
      have f4 : a1 * x - a0 * y = 2 * (a1 * x) := by omega
      rw [f3, f4]
      refine ⟨by grind, by grind, by grind, by grind⟩
  · by_cases hq : r + (a0 * x + a1 * y) = 0
    · have qy : a1 * x - a0 * y = 0 := sq_zero (by
        have : (a1 * x - a0 * y) * (a1 * x - a0 * y) = r * r - (a0 * x + a1 * y) * (a0 * x + a1 * y) := by rw [hr]; grind
        rw [this, show a0 * x + a1 * y = -r by omega]; grind)
      refine ⟨2 * r * a1, ?_⟩
      simp only [hk, hl, if_neg hp, if_pos hq]
      have f1 : (a0 * a0 + a1 * a1) * x = -(r * a0) := by grind
      have f2 : (a0 * a0 + a1 * a1) * y = -(r * a1) := by grind
      have f3 : r + (a0 * x - a1 * y) = -(2 * (a1 * y)) := by omega
      have f4 : a0 * y + a1 * x = 2 * (a1 * x) := by omega
      rw [f3, f4]
      refine ⟨by grind, by grind, by grind, by grind⟩
    · refine ⟨2 * r * (r * a0 + (a0 * a0 + a1 * a1) * x), ?_⟩
      simp only [hk, hl, if_neg hp, if_neg hq]
      refine ⟨by grind, by grind, by grind, by grind⟩
end Z

set_option Elab.async false
set_option linter.all false
set_option maxRecDepth 100000
set_option exponentiation.threshold 20000
/-! R31: what is told of a hanger's settings. -/
namespace Z
open PySem PySem.Spec PyProof.Rows L2 RZ
/-! ### plain settings, by their two numbers -/
def pk (k l : Int) : Int := (pset k l)[0]!
def pl (k l : Int) : Int := (pset k l)[1]!
theorem pset_list (k l : Int) : pset k l = [pk k l, pl k l] := rfl
abbrev psD (k l : Int) : D := stD (pk k l) (pl k l)
theorem psD_eq (k l : Int) : D.tup ((pset k l).map D.int) = psD k l := rfl
theorem ps_01 : pk 0 1 = 0 ∧ pl 0 1 = 1 := by decide +kernel
theorem ps_10 : pk 1 0 = 1 ∧ pl 1 0 = 0 := by decide +kernel
def Nz2 (k l : Int) : Prop := ∃ n ∈ [k, l], n ≠ 0
theorem ps_mul {k l : Int} (h : Nz2 k l) : ∃ d : Int, d ≠ 0 ∧ k = d * pk k l ∧ l = d * pl k l := by
  have e := pln_mul (nz_swap h)
  refine ⟨fs [l, k] * (gl [l, k] : Int), fsgl_ne (nz_swap h), ?_, ?_⟩
  · exact congrArg (fun xs : List Int => xs[1]!) e
  · exact congrArg (fun xs : List Int => xs[0]!) e
theorem ps_nz {k l : Int} (h : Nz2 k l) : Nz2 (pk k l) (pl k l) := pset_nz h
theorem ps_smul {d k l : Int} (hd : d ≠ 0) (h : Nz2 k l) : pk (d * k) (d * l) = pk k l ∧ pl (d * k) (d * l) = pl k l := by
  unfold pk pl; rw [pset_smul hd h]; exact ⟨rfl, rfl⟩
theorem ps_ps {k l : Int} (h : Nz2 k l) : pk (pk k l) (pl k l) = pk k l ∧ pl (pk k l) (pl k l) = pl k l := by
  obtain ⟨d, hd, e1, e2⟩ := ps_mul h
  have := ps_smul hd (ps_nz h)
  rw [← e1, ← e2] at this
  exact ⟨this.1.symm, this.2.symm⟩
theorem ps_bd {n : Nat} {k l : Int} (h : Nz2 k l) (bk : Bd n k) (bl : Bd n l) : Bd n (pk k l) ∧ Bd n (pl k l) :=
  ⟨pset_bd h bk bl _ (by rw [pset_list]; simp), pset_bd h bk bl _ (by rw [pset_list]; simp)⟩
theorem ps_ok {n : Nat} {k l : Int} (h : Nz2 k l) (bk : Bd n k) (bl : Bd n l) : SetOk n (pk k l) (pl k l) := ⟨ps_nz h, (ps_bd h bk bl).1, (ps_bd h bk bl).2⟩
/-- the same setting, just where they lie alike -/
theorem ps_cross {k l k' l' : Int} (h : Nz2 k l) (h' : Nz2 k' l') (e : k * l' = l * k') : pk k l = pk k' l' ∧ pl k l = pl k' l' := by
  by_cases hk : k = 0
  · subst hk
    have l0 : l ≠ 0 := fun q => by
      obtain ⟨n, hn, h0⟩ := h
      simp [q] at hn; exact h0 hn
    have k0 : k' = 0 := by
      rw [Int.zero_mul] at e
      exact (Int.mul_eq_zero.mp e.symm).resolve_left l0
    subst k0
    have l1 : l' ≠ 0 := fun q => by
      obtain ⟨n, hn, h0⟩ := h'
      simp [q] at hn; exact h0 hn
    have a := ps_smul l1 h
    have b := ps_smul l0 h'
    rw [Int.mul_zero] at a b
    rw [Int.mul_comm l' l] at a
    exact ⟨a.1.symm.trans b.1, a.2.symm.trans b.2⟩
  · have k1 : k' ≠ 0 := fun q => by
      subst q
      rw [Int.mul_zero] at e
      have := (Int.mul_eq_zero.mp e).resolve_left hk
      obtain ⟨n, hn, h0⟩ := h'
      simp [this] at hn; exact h0 hn
    have a := ps_smul k1 h
    have b := ps_smul hk h'
    rw [Int.mul_comm k' k, show k' * l = k * l' by rw [e, Int.mul_comm]] at a
    exact ⟨a.1.symm.trans b.1, a.2.symm.trans b.2⟩
theorem ps_cross' {k l k' l' : Int} (h : Nz2 k l) (h' : Nz2 k' l') (e1 : pk k l = pk k' l') (e2 : pl k l = pl k' l') : k * l' = l * k' := by
  obtain ⟨d, hd, a1, a2⟩ := ps_mul h
  obtain ⟨d', hd', b1, b2⟩ := ps_mul h'
  rw [← e1] at b1
  rw [← e2] at b2
  generalize pk k l = u at *
  generalize pl k l = v at *
  rw [a1, a2, b1, b2]; grind
/-! ### what hangs, whatever the sizes -/
theorem ltz {i : Nat} {k l : Int} (h : i < 3) (o : Nz2 k l) : ∃ x ∈ lt i k l, x ≠ 0 := abt_nz (uw_nz h) o
theorem hngz {a b c : Nat} {k1 l1 k2 l2 k3 l3 : Int} (h : IsHg a b c) (o1 : Nz2 k1 l1) (o2 : Nz2 k2 l2) (o3 : Nz2 k3 l3) : ∃ x ∈ hng a b c k1 l1 k2 l2 k3 l3, x ≠ 0 :=
  qmul_nz (qmul_len rfl rfl) rfl (qmul_nz rfl rfl (ltz h.1 o1) (ltz h.2.1 o2)) (ltz h.2.2.1 o3)
theorem hng_smul3 (a b c : Nat) (d1 d2 d3 k1 l1 k2 l2 k3 l3 : Int) : hng a b c (d1 * k1) (d1 * l1) (d2 * k2) (d2 * l2) (d3 * k3) (d3 * l3) = (hng a b c k1 l1 k2 l2 k3 l3).map ((d1 * d2 * d3) * ·) := by
  unfold hng
  rw [lt_smul, lt_smul, lt_smul, qmul_smul2 rfl rfl, qmul_smul2 (qmul_len rfl rfl) rfl]
theorem hng_ps {a b c : Nat} {k1 l1 k2 l2 k3 l3 : Int} (h : IsHg a b c) (o1 : Nz2 k1 l1) (o2 : Nz2 k2 l2) (o3 : Nz2 k3 l3) :
    pln (hng a b c (pk k1 l1) (pl k1 l1) (pk k2 l2) (pl k2 l2) (pk k3 l3) (pl k3 l3)) = pln (hng a b c k1 l1 k2 l2 k3 l3) := by
  obtain ⟨d1, h1, a1, b1⟩ := ps_mul o1
  obtain ⟨d2, h2, a2, b2⟩ := ps_mul o2
  obtain ⟨d3, h3, a3, b3⟩ := ps_mul o3
  have q := hngz h (ps_nz o1) (ps_nz o2) (ps_nz o3)
  have e := pln_smul (Int.mul_ne_zero (Int.mul_ne_zero h1 h2) h3) q
  rw [← hng_smul3, ← a1, ← b1, ← a2, ← b2, ← a3, ← b3] at e
  exact e.symm
/-- what makes the asked four -/
theorem make_of {a b c : Nat} (h : IsHg a b c) {q : List Int} (hq : q.length = 4) {k1 l1 k2 l2 k3 l3 t : Int} (o1 : Nz2 k1 l1) (o2 : Nz2 k2 l2) (o3 : Nz2 k3 l3)
    (e : hng a b a k1 l1 k2 l2 k3 l3 = (her a b c q).map (t * ·)) : pln (hng a b c k1 l1 (k2 + sgn a b c * l2) (l2 - sgn a b c * k2) k3 l3) = pln q := by
  have z := hngz h.ab o1 o2 o3
  have t0 : t ≠ 0 := fun q => by
    subst q
    rw [e] at z
    obtain ⟨n, hn, h0⟩ := z
    obtain ⟨m, _, rfl⟩ := List.mem_map.mp hn
    exact h0 (Int.zero_mul m)
  rw [e] at z
  have z1 := nz_of_map z
  have hl : (her a b c q).length = 4 := her_len a b c hq
  have zq : ∃ n ∈ q, n ≠ 0 := by
    apply Classical.byContradiction
    intro hn
    have h0 : ∀ n ∈ q, n = 0 := fun n hm => Classical.byContradiction fun h1 => hn ⟨n, hm, h1⟩
    obtain ⟨w, x, y, v, rfl⟩ := four_of hq
    obtain rfl := h0 w (by simp)
    obtain rfl := h0 x (by simp)
    obtain rfl := h0 y (by simp)
    obtain rfl := h0 v (by simp)
    obtain ⟨n, hm, h1⟩ := z1
    simp [her, qmul, lt, abt, uw] at hm
    exact h1 hm
  rw [hng_led h, e, qmul_smul_l hl rfl, her_back h hq, List.map_map]
  have s0 : 0 ≤ sgn a b c * sgn a b c := sq_nn _
  have e2 : (fun x : Int => t * x) ∘ (fun x : Int => (1 + sgn a b c * sgn a b c) * x) = fun x => (t * (1 + sgn a b c * sgn a b c)) * x := by funext x; show t * ((1 + sgn a b c * sgn a b c) * x) = _; rw [Int.mul_assoc]
  rw [e2, pln_smul (Int.mul_ne_zero t0 (by omega)) zq]
theorem led_nz {k l : Int} (s : Int) (h : Nz2 k l) : Nz2 (k + s * l) (l - s * k) := by
  apply Classical.byContradiction
  intro hn
  have h1 : k + s * l = 0 := Classical.byContradiction fun q => hn ⟨_, by simp, q⟩
  have h2 : l - s * k = 0 := Classical.byContradiction fun q => hn ⟨l - s * k, by simp, q⟩
  have p := sq_nn s
  have e1 : (1 + s * s) * l = 0 := by grind
  have e2 : (1 + s * s) * k = 0 := by grind
  have l0 := (Int.mul_eq_zero.mp e1).resolve_left (by omega)
  have k0 := (Int.mul_eq_zero.mp e2).resolve_left (by omega)
  obtain ⟨n, hm, h0⟩ := h
  simp [l0, k0] at hm
  exact h0 hm
/-! ### the root -/
noncomputable def rt (n : Int) : Nat := by
  classical exact if h : ∃ s : Nat, (s : Int) * s ≤ n ∧ n < ((s : Int) + 1) * (s + 1) then h.choose else 0
theorem floor_only {n : Int} {s t : Nat} (h1 : (s : Int) * s ≤ n) (h2 : n < ((s : Int) + 1) * (s + 1)) (h3 : (t : Int) * t ≤ n) (h4 : n < ((t : Int) + 1) * (t + 1)) : s = t := by
  have key : ∀ p q : Nat, (p : Int) * p < ((q : Int) + 1) * (q + 1) → p ≤ q := fun p q h => by
    by_cases hh : p ≤ q
    · exact hh
    · have : ((q : Int) + 1) * (q + 1) ≤ p * p := Int.mul_le_mul (by omega) (by omega) (by omega) (by omega)
      omega
  exact Nat.le_antisymm (key s t (by omega)) (key t s (by omega))
theorem rt_eq {n : Int} {s : Nat} (h1 : (s : Int) * s ≤ n) (h2 : n < ((s : Int) + 1) * (s + 1)) : s = rt n := by
  have h : ∃ s : Nat, (s : Int) * s ≤ n ∧ n < ((s : Int) + 1) * (s + 1) := ⟨s, h1, h2⟩
  unfold rt
  rw [dif_pos h]
  exact floor_only h1 h2 h.choose_spec.1 h.choose_spec.2
theorem rt_sq {n : Int} {s : Nat} (h : (s : Int) * s = n) : rt n = s := (rt_eq (by omega) (by subst h; grind)).symm
/-! ### what is told -/
abbrev stT (k1 l1 k2 l2 k3 l3 : Int) : D := .tup [stD k1 l1, stD k2 l2, stD k3 l3]
/-- one of two: rays, root, the sign, the leading on -/
def trT (a0 a1 b0 b1 r e s : Int) : D :=
  .tup [psD (hk (a0 * (e * b0) - a1 * (e * b1)) (a0 * (e * b1) + a1 * (e * b0)) r) (hl (a0 * (e * b0) - a1 * (e * b1)) r),
    psD (e * r + s * (a0 * a0 + a1 * a1)) (a0 * a0 + a1 * a1 - s * (e * r)),
    psD (hk (a0 * (e * b0) + a1 * (e * b1)) (a1 * (e * b0) - a0 * (e * b1)) r) (hl (a0 * (e * b0) + a1 * (e * b1)) r)]
/-- one of two, not led on -/
def tr0 (a0 a1 b0 b1 r e : Int) : D :=
  .tup [psD (hk (a0 * (e * b0) - a1 * (e * b1)) (a0 * (e * b1) + a1 * (e * b0)) r) (hl (a0 * (e * b0) - a1 * (e * b1)) r),
    psD (e * r) (a0 * a0 + a1 * a1),
    psD (hk (a0 * (e * b0) + a1 * (e * b1)) (a1 * (e * b0) - a0 * (e * b1)) r) (hl (a0 * (e * b0) + a1 * (e * b1)) r)]
abbrev sLock : D := .str (PySem.Str.ofString "lock")
abbrev sWith : D := .str (PySem.Str.ofString "with")
abbrev sAgainst : D := .str (PySem.Str.ofString "against")
abbrev sNone : D := .str (PySem.Str.ofString "none")
abbrev sSet : D := .str (PySem.Str.ofString "set")
def numR (a0 a1 b0 b1 : Int) : Int := (a0 * a0 + a1 * a1) * (b0 * b0 + b1 * b1)
/-- of the alike hanger -/
noncomputable def alR (a0 a1 b0 b1 : Int) : D :=
  if b0 = 0 ∧ b1 = 0 then .tup [sLock, stD 0 1, sWith, psD a1 a0]
  else if a0 = 0 ∧ a1 = 0 then .tup [sLock, stD 1 0, sAgainst, psD b1 b0]
  else if (rt (numR a0 a1 b0 b1) : Int) * rt (numR a0 a1 b0 b1) ≠ numR a0 a1 b0 b1 then .tup [sNone, .int (numR a0 a1 b0 b1)]
  else .tup [sSet, .lst [tr0 a0 a1 b0 b1 (rt (numR a0 a1 b0 b1)) 1, tr0 a0 a1 b0 b1 (rt (numR a0 a1 b0 b1)) (-1)]]
/-- of any hanger -/
noncomputable def soR (a0 a1 b0 b1 s : Int) : D :=
  if b0 = 0 ∧ b1 = 0 then .tup [sLock, psD s 1, sWith, psD a1 a0]
  else if a0 = 0 ∧ a1 = 0 then .tup [sLock, psD 1 (-s), sAgainst, psD b1 b0]
  else if (rt (numR a0 a1 b0 b1) : Int) * rt (numR a0 a1 b0 b1) ≠ numR a0 a1 b0 b1 then .tup [sNone, .int (numR a0 a1 b0 b1)]
  else .tup (sSet :: srtD [trT a0 a1 b0 b1 (rt (numR a0 a1 b0 b1)) 1 s, trT a0 a1 b0 b1 (rt (numR a0 a1 b0 b1)) (-1) s])
def rA0 (h : List Int) : Int := h[0]!
def rA1 (a : Nat) (h : List Int) : Int := h[1 + a]!
def rB0 (b : Nat) (h : List Int) : Int := h[1 + b]!
def rB1 (a b : Nat) (h : List Int) : Int := hnd a b * h[1 + trd a b]!
noncomputable def alD (a b : Nat) (h : List Int) : D := alR (rA0 h) (rA1 a h) (rB0 b h) (rB1 a b h)
noncomputable def soD (a b c : Nat) (q : List Int) : D := soR (rA0 (her a b c q)) (rA1 a (her a b c q)) (rB0 b (her a b c q)) (rB1 a b (her a b c q)) (sgn a b c)
theorem asm_r {a b c : Nat} (h : IsHg a b c) {q : List Int} (hq : q.length = 4) : asm a b (rA0 q) (rA1 a q) (rB0 b q) (rB1 a b q) = q := asm_rays h hq
theorem rays_of_bd {a b c n : Nat} (h : IsHg a b c) {q : List Int} (hq : q.length = 4) (hb : ∀ x ∈ q, Bd n x) : ∀ x ∈ [rA0 q, rA1 a q, rB0 b q, rB1 a b q], Bd n x := by
  obtain ⟨o1, o2, o3, o4, o5⟩ := h
  have hm : ∀ i, i < 4 → Bd n (q[i]!) := fun i hi => by
    have e : q[i]! = q[i] := by simp [hq, hi]
    rw [e]
    exact hb _ (List.getElem_mem _)
  have t : trd a b < 3 := by unfold trd; omega
  intro x hx
  simp only [List.mem_cons, List.not_mem_nil, or_false] at hx
  rcases hx with rfl | rfl | rfl | rfl
  · exact hm 0 (by decide)
  · exact hm (1 + a) (by omega)
  · exact hm (1 + b) (by omega)
  · have := hm (1 + trd a b) (by omega)
    unfold rB1 hnd
    split
    · rwa [Int.one_mul]
    · rw [Int.neg_one_mul]; exact this.neg
/-! ### the two that are told make the four -/
structure Trio (a b c : Nat) (q : List Int) (n : Nat) (k1 l1 k2 l2 k3 l3 : Int) : Prop where
  z1 : Nz2 k1 l1
  z2 : Nz2 k2 l2
  z3 : Nz2 k3 l3
  b1 : Bd n k1 ∧ Bd n l1
  b2 : Bd n k2 ∧ Bd n l2
  b3 : Bd n k3 ∧ Bd n l3
  mkq : pln (hng a b c k1 l1 k2 l2 k3 l3) = q
def IsTrio (a b c : Nat) (q : List Int) (n : Nat) (d : D) : Prop := ∃ k1 l1 k2 l2 k3 l3 : Int, d = .tup [psD k1 l1, psD k2 l2, psD k3 l3] ∧ Trio a b c q n k1 l1 k2 l2 k3 l3
theorem num_parts {a0 a1 b0 b1 : Int} (ha : ¬(a0 = 0 ∧ a1 = 0)) (hb : ¬(b0 = 0 ∧ b1 = 0)) : 0 < a0 * a0 + a1 * a1 ∧ 0 < b0 * b0 + b1 * b1 := by
  have k : ∀ x y : Int, ¬(x = 0 ∧ y = 0) → 0 < x * x + y * y := fun x y h => by
    have p := sq_nn x
    have q := sq_nn y
    by_cases h0 : x = 0
    · have := sq_pos (x := y) (fun e => h ⟨h0, e⟩)
      omega
    · have := sq_pos h0
      omega
  exact ⟨k _ _ ha, k _ _ hb⟩
theorem Bd.sqle {n : Nat} {r m : Int} (h : r * r = m) (b : Bd n m) : Bd n r := by
  refine Bd.lit (Nat.lt_of_le_of_lt ?_ b.lt)
  rw [← h, Int.natAbs_mul]
  exact Nat.le_mul_self _
theorem rays_bd {a0 a1 b0 b1 r e : Int} (n : Nat) (A0 : Bd n a0) (A1 : Bd n a1) (B0 : Bd n b0) (B1 : Bd n b1) (hr : r * r = numR a0 a1 b0 b1) (he : e = 1 ∨ e = -1) (x y : Int)
    (hx : x = a0 ∨ x = a1) (hy : y = a0 ∨ y = a1) : Bd (4 * n + 2) r ∧ Bd (2 * n + 1) (x * (e * b0) + y * (e * b1)) ∧ Bd (2 * n + 1) (x * (e * b0) - y * (e * b1)) ∧ Bd (2 * n + 1) (x * (e * b1) + y * (e * b0)) ∧ Bd (2 * n + 1) (x * (e * b1) - y * (e * b0)) := by
  have E0 : Bd n (e * b0) := by
    rcases he with rfl | rfl
    · rwa [Int.one_mul]
    · rw [Int.neg_one_mul]; exact B0.neg
  have E1 : Bd n (e * b1) := by
    rcases he with rfl | rfl
    · rwa [Int.one_mul]
    · rw [Int.neg_one_mul]; exact B1.neg
  have X : Bd n x := by rcases hx with rfl | rfl <;> assumption
  have Y : Bd n y := by rcases hy with rfl | rfl <;> assumption
  refine ⟨?_, ((X.mul E0).add (Y.mul E1)).mono (by omega), ((X.mul E0).sub (Y.mul E1)).mono (by omega), ((X.mul E1).add (Y.mul E0)).mono (by omega), ((X.mul E1).sub (Y.mul E0)).mono (by omega)⟩
  exact (Bd.sqle hr (((A0.mul A0).add (A1.mul A1)).mul ((B0.mul B0).add (B1.mul B1)))).mono (by omega)
theorem hk_bd {n : Nat} {x y r : Int} (hy : Bd n y) : Bd (n + 1) (hk x y r) := by
  unfold hk
  split
  · exact (Bd.lit (n := 1) (by decide)).mono (by omega)
  · exact hy.mono (by omega)
theorem hl_bd {n : Nat} {x r : Int} (hx : Bd n x) (hr : Bd n r) : Bd (n + 1) (hl x r) := by
  unfold hl
  split
  · exact Bd.zero
  · exact (hr.add hx).mono (by omega)
theorem rays_ok {a0 a1 b0 b1 r e : Int} (A0 : Bd 300 a0) (A1 : Bd 300 a1) (B0 : Bd 300 b0) (B1 : Bd 300 b1) (hr : r * r = numR a0 a1 b0 b1) (he : e = 1 ∨ e = -1) :
    Bd 1 e ∧ Bd 301 (e * b0) ∧ Bd 301 (e * b1) ∧ Bd 1300 (a0 * (e * b0) - a1 * (e * b1)) ∧ Bd 1300 (a0 * (e * b1) + a1 * (e * b0)) ∧ Bd 1300 (a0 * (e * b0) + a1 * (e * b1)) ∧ Bd 1300 (a1 * (e * b0) - a0 * (e * b1)) ∧ Bd 1300 (e * r) ∧ Bd 1300 r := by
  have q := rays_bd 300 A0 A1 B0 B1 hr he a0 a1 (.inl rfl) (.inr rfl)
  have E : Bd 1 e := by rcases he with rfl | rfl <;> exact Bd.lit (by decide)
  have R := q.1
  refine ⟨E, (E.mul B0).mono (by decide), (E.mul B1).mono (by decide), q.2.2.1.mono (by decide), q.2.2.2.1.mono (by decide), q.2.1.mono (by decide), ?_, (E.mul R).mono (by decide), R.mono (by decide)⟩
  have := q.2.2.2.2.neg
  rw [show -(a0 * (e * b1) - a1 * (e * b0)) = a1 * (e * b0) - a0 * (e * b1) by omega] at this
  exact this.mono (by decide)
theorem ee3 {e κ b : Int} (h : e * e = 1) : e * (κ * (e * b)) = κ * b := by grind
theorem trT_trio {a b c : Nat} (h : IsHg a b c) {q : List Int} (hq : q.length = 4) {a0 a1 b0 b1 r e : Int} (hh : her a b c q = asm a b a0 a1 b0 b1)
    (ha : ¬(a0 = 0 ∧ a1 = 0)) (hb : ¬(b0 = 0 ∧ b1 = 0)) (hr : r * r = numR a0 a1 b0 b1) (he : e = 1 ∨ e = -1) {n : Nat} (A0 : Bd n a0) (A1 : Bd n a1) (B0 : Bd n b0) (B1 : Bd n b1) :
    IsTrio a b c (pln q) (4 * n + 4) (trT a0 a1 b0 b1 r e (sgn a b c)) := by
  obtain ⟨p1, p2⟩ := num_parts ha hb
  have ee : e * e = 1 := by rcases he with rfl | rfl <;> rfl
  have nn : 0 < numR a0 a1 b0 b1 := Int.mul_pos p1 p2
  have r0 : r ≠ 0 := fun q => by subst q; rw [← hr] at nn; simp at nn
  have hr2 : r * r = (a0 * a0 + a1 * a1) * ((e * b0) * (e * b0) + (e * b1) * (e * b1)) := by rw [hr]; unfold numR; grind
  obtain ⟨κ, c1, c2, c3, c4⟩ := core hr2 r0
  have z2 : Nz2 (e * r) (a0 * a0 + a1 * a1) := ⟨a0 * a0 + a1 * a1, by simp, by omega⟩
  have hm : pln (hng a b c _ _ (e * r + sgn a b c * (a0 * a0 + a1 * a1)) (a0 * a0 + a1 * a1 - sgn a b c * (e * r)) _ _) = pln q :=
    make_of (t := κ) h hq (h_nz (a0 * (e * b0) - a1 * (e * b1)) (a0 * (e * b1) + a1 * (e * b0)) r) z2 (h_nz (a0 * (e * b0) + a1 * (e * b1)) (a1 * (e * b0) - a0 * (e * b1)) r) (by
      rw [hng_asm h, hh, asm_smul, c1, c2]
      have d3 : ∀ w : Int, e * r * w = e * (r * w) := fun w => Int.mul_assoc _ _ _
      rw [d3, d3, c3, c4, ee3 ee, ee3 ee])
  have Q := fun x y hx hy => rays_bd n A0 A1 B0 B1 hr he x y hx hy
  have R := (Q a0 a0 (.inl rfl) (.inl rfl)).1
  have s1 : Bd 1 (sgn a b c) := by unfold sgn hnd; split <;> (try split) <;> exact Bd.lit (by decide)
  have ebd : Bd (4 * n + 2) (e * r) := by
    rcases he with rfl | rfl
    · rwa [Int.one_mul]
    · rw [Int.neg_one_mul]; exact R.neg
  have n1b : Bd (4 * n + 2) (a0 * a0 + a1 * a1) := ((A0.mul A0).add (A1.mul A1)).mono (by omega)
  have sm : ∀ x : Int, Bd (4 * n + 2) x → Bd (4 * n + 2) (sgn a b c * x) := fun x hx => by
    have : sgn a b c = 0 ∨ sgn a b c = 1 ∨ sgn a b c = -1 := by unfold sgn hnd; split <;> (try split) <;> simp
    rcases this with e | e | e <;> rw [e]
    · rw [Int.zero_mul]; exact Bd.zero
    · rwa [Int.one_mul]
    · rw [Int.neg_one_mul]; exact hx.neg
  refine ⟨_, _, _, _, _, _, rfl, h_nz _ _ _, led_nz _ z2, h_nz _ _ _, ⟨?_, ?_⟩, ⟨?_, ?_⟩, ⟨?_, ?_⟩, hm⟩
  · exact (hk_bd (Q a0 a1 (.inl rfl) (.inr rfl)).2.2.2.1).mono (by omega)
  · exact (hl_bd ((Q a0 a1 (.inl rfl) (.inr rfl)).2.2.1.mono (by omega)) R).mono (by omega)
  · exact (ebd.add (sm _ n1b)).mono (by omega)
  · exact (n1b.sub (sm _ ebd)).mono (by omega)
  · refine (hk_bd (n := 2 * n + 1) ?_).mono (by omega)
    have := (Q a0 a1 (.inl rfl) (.inr rfl)).2.2.2.2.neg
    rwa [show -(a0 * (e * b1) - a1 * (e * b0)) = a1 * (e * b0) - a0 * (e * b1) by omega] at this
  · exact (hl_bd ((Q a0 a1 (.inl rfl) (.inr rfl)).2.1.mono (by omega)) R).mono (by omega)
/-! ### two of them in order -/
theorem srt_two {x y : D} (h : PySem.W.keyToks (py x) ≠ PySem.W.keyToks (py y)) : ∃ u v, srtD [x, y] = [u, v] ∧ (u = x ∧ v = y ∨ u = y ∧ v = x) ∧ PySem.W.dataLt (py u) (py v) = true := by
  have le : ∀ p q : D, PySem.W.dataLe false py p q = !PySem.W.dataLt (py q) (py p) := fun p q => rfl
  have e : srtD [x, y] = if PySem.W.dataLe false py x y then [x, y] else [y, x] := by
    unfold srtD
    simp [List.mergeSort, List.merge, List.MergeSort.Internal.splitInTwo]
  rw [e, le]
  cases hq : PySem.W.dataLt (py y) (py x)
  · refine ⟨x, y, by simp, .inl ⟨rfl, rfl⟩, ?_⟩
    cases hp : PySem.W.dataLt (py x) (py y)
    · exact absurd (PyProof.Rows.lex_total _ _ hp hq) h
    · rfl
  · exact ⟨y, x, by simp, .inr ⟨rfl, rfl⟩, hq⟩
theorem toks_st {k1 l1 k2 l2 k3 l3 m1 n1 m2 n2 m3 n3 : Int} (h : PySem.W.keyToks (py (stT k1 l1 k2 l2 k3 l3)) = PySem.W.keyToks (py (stT m1 n1 m2 n2 m3 n3))) : k1 = m1 ∧ l1 = n1 ∧ k2 = m2 ∧ l2 = n2 ∧ k3 = m3 ∧ l3 = n3 := by
  simpa [py, pys, PySem.W.keyToks, PySem.W.keyToksAll] using h
theorem trT_ne {a0 a1 b0 b1 r s : Int} (r0 : r ≠ 0) (n0 : a0 * a0 + a1 * a1 ≠ 0) : PySem.W.keyToks (py (trT a0 a1 b0 b1 r 1 s)) ≠ PySem.W.keyToks (py (trT a0 a1 b0 b1 r (-1) s)) := by
  intro h
  have q := toks_st h
  have z : ∀ e : Int, Nz2 (e * r) (a0 * a0 + a1 * a1) := fun e => ⟨a0 * a0 + a1 * a1, by simp, n0⟩
  have := ps_cross' (led_nz s (z 1)) (led_nz s (z (-1))) q.2.2.1 q.2.2.2.1
  generalize a0 * a0 + a1 * a1 = n1 at *
  have p := sq_nn s
  have e : (2 * (1 + s * s)) * (r * n1) = 0 := by grind
  exact Int.mul_ne_zero (by omega) (Int.mul_ne_zero r0 n0) e
abbrev stP (k1 l1 k2 l2 k3 l3 : Int) : PyData := .tuple [.tuple [.int k1, .int l1], .tuple [.int k2, .int l2], .tuple [.int k3, .int l3]]
theorem st_sort (k1 l1 k2 l2 k3 l3 m1 n1 m2 n2 m3 n3 : Int) : PySem.W.AllAlike [stP k1 l1 k2 l2 k3 l3, stP m1 n1 m2 n2 m3 n3] ∧ PySem.W.Sortable [stP k1 l1 k2 l2 k3 l3, stP m1 n1 m2 n2 m3 n3] := by
  constructor
  · intro x hx y hy
    simp only [List.mem_cons, List.not_mem_nil, or_false] at hx hy
    rcases hx with rfl | rfl <;> rcases hy with rfl | rfl <;> simp [PySem.W.alike, PySem.W.alikeAll]
  · refine .inl fun x hx => ?_
    simp only [List.mem_cons, List.not_mem_nil, or_false] at hx
    rcases hx with rfl | rfl <;> exact ⟨_, _, rfl⟩
theorem st_depth (k1 l1 k2 l2 k3 l3 : Int) : (py (stT k1 l1 k2 l2 k3 l3)).depth ≤ 50 := by
  simp [py, pys, PyData.depth, PyData.depthAll]
/-- what settings_of promises -/
def spSo : SpZ := fun rs S W => match rs with
  | [.d (.str x), .d (.tup ys)] => ∃ (a b c : Nat) (f : List Int), x = hgr a b c ∧ IsHg a b c ∧ ys = f.map D.int ∧ f.length = 4 ∧ (∃ n ∈ f, n ≠ 0) ∧ (∀ n ∈ f, Bd 200 n) ∧ W (.d (soD a b c (pln f))) S
  | _ => False
theorem spSo_mk {a b c : Nat} {f : List Int} {S : Sto} {W : R → Sto → Prop} (o : IsHg a b c) (fl : f.length = 4) (fz : ∃ n ∈ f, n ≠ 0) (fb : ∀ n ∈ f, Bd 200 n) (w : W (.d (soD a b c (pln f))) S) :
    spSo [.d (.str (hgr a b c)), .d (.tup (f.map D.int))] S W := ⟨a, b, c, f, rfl, o, rfl, fl, fz, fb, w⟩
/-! ### for the law -/
theorem ps_form {k l : Int} (h : Nz2 k l) : Int.gcd (pk k l) (pl k l) = 1 ∧ (0 < pl k l ∨ pl k l = 0 ∧ pk k l = 1) := by
  have e : pln [l, k] = [pl k l, pk k l] := by
    have : (pln [l, k]).reverse = [pk k l, pl k l] := pset_list k l
    have h2 := congrArg List.reverse this
    simpa using h2
  have g := gl_pln (nz_swap h)
  have f := fs_pln (nz_swap h)
  rw [e] at g f
  have g2 : Int.gcd (pk k l) (pl k l) = 1 := by
    rw [gl_two] at g
    simpa [gl, Int.gcd] using g
  refine ⟨g2, ?_⟩
  generalize pk k l = u at *
  generalize pl k l = v at *
  unfold fs at f
  by_cases v0 : v = 0
  · right
    subst v0
    have : u.natAbs = 1 := by simpa using g2
    have hu : u ≠ 0 := by intro e; subst e; simp at this
    rw [if_pos rfl] at f
    unfold fs at f
    rw [if_neg hu] at f
    by_cases u0 : u < 0
    · rw [if_pos u0] at f; omega
    · exact ⟨rfl, by omega⟩
  · left
    rw [if_neg v0] at f
    by_cases u0 : v < 0
    · simp [u0] at f
    · omega
theorem cmul_nz {u v k l : Int} (h1 : Nz2 u v) (h2 : Nz2 k l) : Nz2 (u * l - k * v) (v * l + u * k) := by
  apply Classical.byContradiction
  intro hn
  have e1 : u * l - k * v = 0 := Classical.byContradiction fun q => hn ⟨_, by simp, q⟩
  have e2 : v * l + u * k = 0 := Classical.byContradiction fun q => hn ⟨v * l + u * k, by simp, q⟩
  have ne : ∀ {x y : Int}, Nz2 x y → 0 < x * x + y * y := fun {x y} h => by
    have p := sq_nn x
    have q := sq_nn y
    obtain ⟨n, hm, h0⟩ := h
    simp only [List.mem_cons, List.not_mem_nil, or_false] at hm
    have := sq_pos h0
    rcases hm with rfl | rfl <;> omega
  have a := Int.mul_pos (ne h1) (ne h2)
  have e3 : (u * u + v * v) * (k * k + l * l) = (u * l - k * v) * (u * l - k * v) + (v * l + u * k) * (v * l + u * k) := by grind
  rw [e3, e1, e2] at a
  simp at a
theorem Nz2.neg1 {k l : Int} (h : Nz2 k l) : Nz2 (-k) l := by
  obtain ⟨n, hm, h0⟩ := h
  simp only [List.mem_cons, List.not_mem_nil, or_false] at hm
  rcases hm with rfl | rfl
  · exact ⟨-n, by simp, by omega⟩
  · exact ⟨n, by simp, h0⟩
theorem hng_ps23 {a b c : Nat} {k1 l1 k2 l2 k3 l3 : Int} (h : IsHg a b c) (o1 : Nz2 k1 l1) (o2 : Nz2 k2 l2) (o3 : Nz2 k3 l3) :
    pln (hng a b c k1 l1 (pk k2 l2) (pl k2 l2) (pk k3 l3) (pl k3 l3)) = pln (hng a b c k1 l1 k2 l2 k3 l3) := by
  rw [← hng_ps h o1 (ps_nz o2) (ps_nz o3), (ps_ps o2).1, (ps_ps o2).2, (ps_ps o3).1, (ps_ps o3).2, hng_ps h o1 o2 o3]
/-- told of a lock -/
structure Lock (a b c : Nat) (q : List Int) (m n u v : Int) (w : D) : Prop where
  zm : Nz2 m n
  zu : Nz2 u v
  bm : Bd 300 m ∧ Bd 300 n
  bu : Bd 300 u ∧ Bd 300 v
  hw : (w = sWith ∧ ∀ k1 l1, Nz2 k1 l1 → pln (hng a b c k1 l1 m n (u * l1 - k1 * v) (v * l1 + u * k1)) = pln q) ∨
    (w = sAgainst ∧ ∀ k1 l1, Nz2 k1 l1 → pln (hng a b c k1 l1 m n (k1 * v - u * l1) (l1 * v + k1 * u)) = pln q)
def nuR (a b c : Nat) (q : List Int) : Int := numR (rA0 (her a b c q)) (rA1 a (her a b c q)) (rB0 b (her a b c q)) (rB1 a b (her a b c q))
theorem so_cases {a b c : Nat} (o : IsHg a b c) {q : List Int} (ql : q.length = 4) (qz : ∃ n ∈ q, n ≠ 0) (qb : ∀ n ∈ q, Bd 200 n) :
    (nuR a b c q = 0 ∧ ∃ m n u v w, soD a b c q = .tup [sLock, psD m n, w, psD u v] ∧ Lock a b c q m n u v w) ∨
    (nuR a b c q ≠ 0 ∧ (∀ t : Nat, (t : Int) * t ≠ nuR a b c q) ∧ soD a b c q = .tup [sNone, .int (nuR a b c q)]) ∨
    (nuR a b c q ≠ 0 ∧ (∃ t : Nat, (t : Int) * t = nuR a b c q) ∧ ∃ u v, soD a b c q = .tup [sSet, u, v] ∧ IsTrio a b c (pln q) 900 u ∧ IsTrio a b c (pln q) 900 v ∧ PySem.W.dataLt (py u) (py v) = true) := by
  have hl := her_len a b c ql
  have s1 : sgn a b c = 0 ∨ sgn a b c = 1 ∨ sgn a b c = -1 := by unfold sgn hnd; split <;> (try split) <;> simp
  have bs0 : Bd 1 (sgn a b c) := by rcases s1 with e | e | e <;> rw [e] <;> exact Bd.lit (by decide)
  have bs := bs0.neg
  have hb : ∀ n ∈ her a b c q, Bd 204 n := fun n hn => qmul_bd qb (lt_bd (n := 1) ⟨⟨1, by simp, by decide⟩, bs, Bd.lit (by decide)⟩) n hn
  have hz : ∃ n ∈ her a b c q, n ≠ 0 := qmul_nz ql rfl qz (ltz o.2.1 ⟨1, by simp, by decide⟩)
  have ha := asm_r o hl
  have rb := rays_of_bd o hl hb
  unfold soD nuR
  generalize rA0 (her a b c q) = a0 at *
  generalize rA1 a (her a b c q) = a1 at *
  generalize rB0 b (her a b c q) = b0 at *
  generalize rB1 a b (her a b c q) = b1 at *
  simp only [List.mem_cons, List.not_mem_nil, or_false, forall_eq_or_imp, forall_eq] at rb
  obtain ⟨A0, A1, B0, B1⟩ := rb
  have nz2 : ∀ {x y : Int}, ¬(y = 0 ∧ x = 0) → Nz2 x y := fun {x y} hh => by
    by_cases hx : x = 0
    · exact ⟨y, by simp, fun hy => hh ⟨hy, hx⟩⟩
    · exact ⟨x, by simp, hx⟩
  unfold soR
  by_cases q0 : b0 = 0 ∧ b1 = 0
  · left
    rw [if_pos q0]
    obtain ⟨rfl, rfl⟩ := q0
    have qa : ¬(a0 = 0 ∧ a1 = 0) := by
      rintro ⟨rfl, rfl⟩
      rw [← ha] at hz
      obtain ⟨n, hm, h0⟩ := hz
      simp [asm] at hm
      exact h0 hm
    refine ⟨by simp [numR], _, _, _, _, _, rfl, ⟨1, by simp, by decide⟩, nz2 qa, ⟨bs0.mono (by decide), Bd.lit (by decide)⟩, ⟨A1.mono (by decide), A0.mono (by decide)⟩, .inl ⟨rfl, fun k1 l1 hk => ?_⟩⟩
    have z3 := cmul_nz (nz2 qa) hk
    have := make_of (t := k1 * k1 + l1 * l1) (k2 := 0) (l2 := 1) o ql hk ⟨1, by simp, by decide⟩ z3 (by
      rw [hng_asm o, ← ha, asm_smul]
      congr 1 <;> grind)
    rw [Int.mul_one, Int.mul_zero, Int.zero_add, Int.sub_zero] at this
    exact this
  rw [if_neg q0]
  by_cases q1 : a0 = 0 ∧ a1 = 0
  · left
    rw [if_pos q1]
    obtain ⟨rfl, rfl⟩ := q1
    refine ⟨by simp [numR], _, _, _, _, _, rfl, ⟨1, by simp, by decide⟩, nz2 q0, ⟨Bd.lit (by decide), bs.mono (by decide)⟩, ⟨B1.mono (by decide), B0.mono (by decide)⟩, .inr ⟨rfl, fun k1 l1 hk => ?_⟩⟩
    have z3 : Nz2 (k1 * b0 - b1 * l1) (l1 * b0 + k1 * b1) := by
      have := cmul_nz hk (nz2 q0)
      rwa [show k1 * b0 - b1 * l1 = k1 * b0 - b1 * l1 from rfl] at this
    have := make_of (t := k1 * k1 + l1 * l1) (k2 := 1) (l2 := 0) o ql hk ⟨1, by simp, by decide⟩ z3 (by
      rw [hng_asm o, ← ha, asm_smul]
      congr 1 <;> grind)
    rw [Int.mul_one, Int.mul_zero, Int.add_zero, Int.zero_sub] at this
    exact this
  rw [if_neg q1]
  right
  have np := num_parts q1 q0
  have n0 : numR a0 a1 b0 b1 ≠ 0 := by
    have := Int.mul_pos np.1 np.2
    unfold numR
    omega
  by_cases q2 : ((rt (numR a0 a1 b0 b1) : Nat) : Int) * (rt (numR a0 a1 b0 b1) : Nat) ≠ numR a0 a1 b0 b1
  · left
    rw [if_pos q2]
    refine ⟨n0, fun t ht => q2 ?_, rfl⟩
    rw [rt_sq ht, ht]
  · right
    rw [if_neg q2]
    have q3 : ((rt (numR a0 a1 b0 b1) : Nat) : Int) * (rt (numR a0 a1 b0 b1) : Nat) = numR a0 a1 b0 b1 := by omega
    refine ⟨n0, ⟨_, q3⟩, ?_⟩
    have r0 : ((rt (numR a0 a1 b0 b1) : Nat) : Int) ≠ 0 := fun e => by
      rw [e] at q3
      exact n0 q3.symm
    obtain ⟨u, v, eu, huv, hlt⟩ := srt_two (trT_ne (a0 := a0) (a1 := a1) (b0 := b0) (b1 := b1) (s := sgn a b c) r0 (by omega))
    rw [eu]
    have t1 := trT_trio o ql ha.symm q1 q0 q3 (.inl rfl) A0 A1 B0 B1
    have t2 := trT_trio o ql ha.symm q1 q0 q3 (.inr rfl) A0 A1 B0 B1
    have mono : ∀ {d}, IsTrio a b c (pln q) (4 * 204 + 4) d → IsTrio a b c (pln q) 900 d := fun {d} ⟨k1, l1, k2, l2, k3, l3, e, t⟩ =>
      ⟨k1, l1, k2, l2, k3, l3, e, t.z1, t.z2, t.z3, ⟨t.b1.1.mono (by decide), t.b1.2.mono (by decide)⟩, ⟨t.b2.1.mono (by decide), t.b2.2.mono (by decide)⟩, ⟨t.b3.1.mono (by decide), t.b3.2.mono (by decide)⟩, t.mkq⟩
    rcases huv with ⟨rfl, rfl⟩ | ⟨rfl, rfl⟩
    · exact ⟨_, _, rfl, mono t1, mono t2, hlt⟩
    · exact ⟨_, _, rfl, mono t2, mono t1, hlt⟩
theorem trio_alike {a b c n : Nat} {q : List Int} {u v : D} (h1 : IsTrio a b c q n u) (h2 : IsTrio a b c q n v) : PySem.W.alike (py u) (py v) = true ∧ ¬py u = PyData.none ∧ min (py u).depth (py v).depth ≤ 60 := by
  obtain ⟨k1, l1, k2, l2, k3, l3, rfl, t⟩ := h1
  obtain ⟨m1, n1, m2, n2, m3, n3, rfl, t'⟩ := h2
  refine ⟨by simp [py, pys, PySem.W.alike, PySem.W.alikeAll], by simp [py], ?_⟩
  exact Nat.le_trans (Nat.min_le_left _ _) (Nat.le_trans (st_depth ..) (by decide))
theorem nuR_nn (a b c : Nat) (q : List Int) : 0 ≤ nuR a b c q := by
  unfold nuR numR
  exact Int.mul_nonneg (Int.add_nonneg (sq_nn _) (sq_nn _)) (Int.add_nonneg (sq_nn _) (sq_nn _))
theorem nuR_bd {a b c : Nat} (o : IsHg a b c) {q : List Int} (ql : q.length = 4) (qb : ∀ n ∈ q, Bd 200 n) : Bd 2000 (nuR a b c q) := by
  have bs : Bd 1 (-(sgn a b c)) := by
    have s1 : sgn a b c = 0 ∨ sgn a b c = 1 ∨ sgn a b c = -1 := by unfold sgn hnd; split <;> (try split) <;> simp
    rcases s1 with e | e | e <;> rw [e] <;> exact Bd.lit (by decide)
  have hb : ∀ n ∈ her a b c q, Bd 204 n := fun n hn => qmul_bd qb (lt_bd (n := 1) ⟨⟨1, by simp, by decide⟩, bs, Bd.lit (by decide)⟩) n hn
  have rb := rays_of_bd o (her_len a b c ql) hb
  simp only [List.mem_cons, List.not_mem_nil, or_false, forall_eq_or_imp, forall_eq] at rb
  obtain ⟨A0, A1, B0, B1⟩ := rb
  exact (((A0.mul A0).add (A1.mul A1)).mul ((B0.mul B0).add (B1.mul B1))).mono (by decide)
/-- the root's size -/
theorem sq_bd {n : Nat} {m : Int} {s : Nat} (h : (s : Int) * s ≤ m) (b : Bd n m) : Bd n (s : Int) := by
  refine Bd.lit ?_
  have : s ≤ s * s := Nat.le_mul_self s
  have h2 := b.lt
  have h3 : (s * s : Nat) ≤ m.natAbs := by omega
  rw [Int.natAbs_natCast]
  omega
theorem trio_depth {a b c n : Nat} {q : List Int} {u : D} (h1 : IsTrio a b c q n u) : (py u).depth ≤ 60 := by
  obtain ⟨k1, l1, k2, l2, k3, l3, rfl, t⟩ := h1
  exact Nat.le_trans (st_depth ..) (by decide)
end Z

set_option Elab.async false
set_option linter.all false
set_option maxRecDepth 100000
set_option exponentiation.threshold 20000
/-! R32: no other settings make the four. -/
namespace Z
open PySem PySem.Spec PyProof.Rows L2 RZ
theorem nz2_sq {k l : Int} (h : Nz2 k l) : 0 < l * l + k * k := by
  have p := sq_nn k
  have q := sq_nn l
  obtain ⟨n, hm, h0⟩ := h
  simp only [List.mem_cons, List.not_mem_nil, or_false] at hm
  have := sq_pos h0
  rcases hm with rfl | rfl <;> omega
theorem half_only {px py r k l N : Int} (hN : N = l * l + k * k) (N0 : N ≠ 0) (r0 : r ≠ 0) (h1 : r * (l * l - k * k) = N * px) (h2 : 2 * r * (l * k) = N * py) : k * hl px r = l * hk px py r := by
  unfold hl hk
  by_cases q : r + px = 0
  · rw [if_pos q, if_pos q]
    have e : px = -r := by omega
    rw [e] at h1
    have : (2 * r) * (l * l) = 0 := by rw [hN] at h1; grind
    have := (Int.mul_eq_zero.mp this).resolve_left (by omega)
    have := sq_zero this
    subst this
    simp
  · rw [if_neg q, if_neg q]
    have : N * (k * (r + px) - l * py) = 0 := by
      have e : N * (k * (r + px) - l * py) = k * r * N + k * (N * px) - l * (N * py) := by grind
      rw [e, ← h1, ← h2, hN]; grind
    have := (Int.mul_eq_zero.mp this).resolve_left N0
    omega
theorem sq_of_dvd {l m n : Int} (l0 : l ≠ 0) (h : m * m = l * l * n) : ∃ t : Nat, (t : Int) * t = n := by
  have hd : (l.natAbs) ^ 2 ∣ (m.natAbs) ^ 2 := by
    refine ⟨n.natAbs, ?_⟩
    rw [Nat.pow_two, Nat.pow_two, ← Int.natAbs_mul, ← Int.natAbs_mul, ← Int.natAbs_mul, h]
  have hd2 : l.natAbs ∣ m.natAbs := (Nat.pow_dvd_pow_iff (by decide)).mp hd
  obtain ⟨d, rfl⟩ := Int.natAbs_dvd_natAbs.mp hd2
  have : l * l * (d * d) = l * l * n := by rw [← h]; grind
  have := Int.eq_of_mul_eq_mul_left (Int.mul_ne_zero l0 l0) this
  refine ⟨d.natAbs, ?_⟩
  rw [← this]
  exact Int.natAbs_mul_self' d
/-- the parts of what hangs -/
structure HParts (a0 a1 b0 b1 k1 l1 k2 l2 k3 l3 t : Int) : Prop where
  t0 : t ≠ 0
  e1 : l2 * (l1 * l3 - k1 * k3) = t * a0
  e2 : l2 * (k1 * l3 + l1 * k3) = t * a1
  e3 : k2 * (l1 * l3 + k1 * k3) = t * b0
  e4 : k2 * (k1 * l3 - l1 * k3) = t * b1
section
variable {a0 a1 b0 b1 k1 l1 k2 l2 k3 l3 t : Int} (P : HParts a0 a1 b0 b1 k1 l1 k2 l2 k3 l3 t)
include P
theorem HParts.n1 : t * t * (a0 * a0 + a1 * a1) = l2 * l2 * ((l1 * l1 + k1 * k1) * (l3 * l3 + k3 * k3)) := by
  have e : t * t * (a0 * a0 + a1 * a1) = (t * a0) * (t * a0) + (t * a1) * (t * a1) := by grind
  rw [e, ← P.e1, ← P.e2]; grind
theorem HParts.n2 : t * t * (b0 * b0 + b1 * b1) = k2 * k2 * ((l1 * l1 + k1 * k1) * (l3 * l3 + k3 * k3)) := by
  have e : t * t * (b0 * b0 + b1 * b1) = (t * b0) * (t * b0) + (t * b1) * (t * b1) := by grind
  rw [e, ← P.e3, ← P.e4]; grind
theorem HParts.sq : (k2 * (a0 * a0 + a1 * a1)) * (k2 * (a0 * a0 + a1 * a1)) = l2 * l2 * numR a0 a1 b0 b1 := by
  have h1 := P.n1
  have h2 := P.n2
  have tt : t * t ≠ 0 := Int.mul_ne_zero P.t0 P.t0
  unfold numR
  generalize a0 * a0 + a1 * a1 = n1 at *
  generalize b0 * b0 + b1 * b1 = n2 at *
  generalize (l1 * l1 + k1 * k1) * (l3 * l3 + k3 * k3) = N at *
  refine Int.eq_of_mul_eq_mul_left tt ?_
  have e1 : t * t * (k2 * n1 * (k2 * n1)) = k2 * k2 * n1 * (t * t * n1) := by grind
  have e2 : t * t * (l2 * l2 * (n1 * n2)) = l2 * l2 * n1 * (t * t * n2) := by grind
  rw [e1, e2, h1, h2]; grind
theorem HParts.one (z1 : Nz2 k1 l1) (z3 : Nz2 k3 l3) (hb : ¬(b0 = 0 ∧ b1 = 0)) (ha : ¬(a0 = 0 ∧ a1 = 0)) : k2 ≠ 0 ∧ l2 ≠ 0 := by
  have np := num_parts ha hb
  have h1 := P.n1
  have h2 := P.n2
  have tt := sq_pos P.t0
  constructor
  · rintro rfl
    have := Int.mul_pos tt np.2
    rw [h2] at this
    simp at this
  · rintro rfl
    have := Int.mul_pos tt np.1
    rw [h1] at this
    simp at this
theorem HParts.only (z1 : Nz2 k1 l1) (z3 : Nz2 k3 l3) (ha : ¬(a0 = 0 ∧ a1 = 0)) (hb : ¬(b0 = 0 ∧ b1 = 0)) {r e : Int} (r0 : r ≠ 0) (hr : r * r = numR a0 a1 b0 b1) (he : e * e = 1) (hm : k2 * (a0 * a0 + a1 * a1) = l2 * (e * r)) :
    k1 * hl (a0 * (e * b0) - a1 * (e * b1)) r = l1 * hk (a0 * (e * b0) - a1 * (e * b1)) (a0 * (e * b1) + a1 * (e * b0)) r ∧
    k3 * hl (a0 * (e * b0) + a1 * (e * b1)) r = l3 * hk (a0 * (e * b0) + a1 * (e * b1)) (a1 * (e * b0) - a0 * (e * b1)) r := by
  have np := num_parts ha hb
  have h1 := P.n1
  have N1 := nz2_sq z1
  have N3 := nz2_sq z3
  obtain ⟨k20, l20⟩ := P.one z1 z3 hb ha
  have l22 := sq_pos l20
  have p1 : l2 * k2 * (l3 * l3 + k3 * k3) * (l1 * l1 - k1 * k1) = t * t * (a0 * b0 - a1 * b1) := by
    have e : t * t * (a0 * b0 - a1 * b1) = (t * a0) * (t * b0) - (t * a1) * (t * b1) := by grind
    rw [e, ← P.e1, ← P.e2, ← P.e3, ← P.e4]; grind
  have p2 : l2 * k2 * (l3 * l3 + k3 * k3) * (2 * (l1 * k1)) = t * t * (a0 * b1 + a1 * b0) := by
    have e : t * t * (a0 * b1 + a1 * b0) = (t * a0) * (t * b1) + (t * a1) * (t * b0) := by grind
    rw [e, ← P.e1, ← P.e2, ← P.e3, ← P.e4]; grind
  have p3 : l2 * k2 * (l1 * l1 + k1 * k1) * (l3 * l3 - k3 * k3) = t * t * (a0 * b0 + a1 * b1) := by
    have e : t * t * (a0 * b0 + a1 * b1) = (t * a0) * (t * b0) + (t * a1) * (t * b1) := by grind
    rw [e, ← P.e1, ← P.e2, ← P.e3, ← P.e4]; grind
  have p4 : l2 * k2 * (l1 * l1 + k1 * k1) * (2 * (l3 * k3)) = t * t * (a1 * b0 - a0 * b1) := by
    have e : t * t * (a1 * b0 - a0 * b1) = (t * a1) * (t * b0) - (t * a0) * (t * b1) := by grind
    rw [e, ← P.e1, ← P.e2, ← P.e3, ← P.e4]; grind
  -- from l2 k2 M X = t t Y, t t n1 = l2 l2 N1 N3, k2 n1 = l2 e r:  r X N3 .. = N1 e Y
  have step : ∀ {M M' X Y : Int}, 0 < M → t * t * (a0 * a0 + a1 * a1) = l2 * l2 * (M' * M) → l2 * k2 * M * X = t * t * Y → r * X = M' * (e * Y) := fun {M M' X Y} hM hh hp => by
    have q : (l2 * l2 * M) * (r * X) = (l2 * l2 * M) * (M' * (e * Y)) := by
      have q1 : (l2 * l2 * M) * (M' * (e * Y)) = (l2 * l2 * (M' * M)) * (e * Y) := by grind
      rw [q1, ← hh]
      have q2 : t * t * (a0 * a0 + a1 * a1) * (e * Y) = e * (a0 * a0 + a1 * a1) * (t * t * Y) := by grind
      rw [q2, ← hp]
      have q3 : e * (a0 * a0 + a1 * a1) * (l2 * k2 * M * X) = e * l2 * M * X * (k2 * (a0 * a0 + a1 * a1)) := by grind
      rw [q3, hm]
      have q4 : e * l2 * M * X * (l2 * (e * r)) = (e * e) * (l2 * l2 * M * (r * X)) := by grind
      rw [q4, he, Int.one_mul]
    exact Int.eq_of_mul_eq_mul_left (by have := Int.mul_pos l22 hM; omega) q
  constructor
  · refine half_only rfl (by omega) r0 ?_ ?_
    · have := step N3 h1 p1
      rw [this]; clear step this p1 p2 p3 p4 hm h1 np ha hb; grind
    · have := step N3 h1 p2
      have e2 : 2 * r * (l1 * k1) = r * (2 * (l1 * k1)) := by rw [Int.mul_comm 2 r, Int.mul_assoc]
      rw [e2, this]; grind
  · have h1' : t * t * (a0 * a0 + a1 * a1) = l2 * l2 * ((l3 * l3 + k3 * k3) * (l1 * l1 + k1 * k1)) := by rw [h1]; grind
    refine half_only rfl (by omega) r0 ?_ ?_
    · have := step N1 h1' p3
      rw [this]; clear step this p1 p2 p3 p4 hm h1 np ha hb; grind
    · have := step N1 h1' p4
      have e2 : 2 * r * (l3 * k3) = r * (2 * (l3 * k3)) := by rw [Int.mul_comm 2 r, Int.mul_assoc]
      rw [e2, this]; grind
end
/-- the parts of a turn that hangs -/
theorem hparts_of {a b c : Nat} (o : IsHg a b c) {q : List Int} (ql : q.length = 4) (qz : ∃ n ∈ q, n ≠ 0) {k1 l1 k2 l2 k3 l3 : Int} (z1 : Nz2 k1 l1) (z2 : Nz2 k2 l2) (z3 : Nz2 k3 l3)
    (h : pln (hng a b c k1 l1 k2 l2 k3 l3) = pln q) :
    ∃ d t : Int, d ≠ 0 ∧ HParts (rA0 (her a b c q)) (rA1 a (her a b c q)) (rB0 b (her a b c q)) (rB1 a b (her a b c q)) (d * k1) (d * l1) (k2 - sgn a b c * l2) (l2 + sgn a b c * k2) k3 l3 t := by
  have hz := hngz o z1 z2 z3
  have e1 := pln_mul hz
  have e2 := pln_mul qz
  have c1 := fsgl_ne hz
  have c2 := fsgl_ne qz
  generalize fs (hng a b c k1 l1 k2 l2 k3 l3) * (gl (hng a b c k1 l1 k2 l2 k3 l3) : Int) = m at *
  generalize fs q * (gl q : Int) = t at *
  have pl4 : (pln q).length = 4 := by rw [pln_len, ql]
  have el := her_len a b c pl4
  have hu := hng_unled o k1 l1 k2 l2 k3 l3
  rw [e1, h, her_smul a b c m pl4] at hu
  have hq : her a b c q = (her a b c (pln q)).map (t * ·) := by
    conv => lhs; rw [e2]
    exact her_smul a b c t pl4
  rw [hng_asm o] at hu
  have as := asm_r o el
  generalize her a b c (pln q) = p at *
  have ap : asm a b (rA0 p) (rA1 a p) (rB0 b p) (rB1 a b p) = p := as
  rw [← ap, asm_smul] at hu hq
  obtain ⟨u1, u2, u3, u4⟩ := asm_inj o hu
  have g := asm_get o (t * rA0 p) (t * rA1 a p) (t * rB0 b p) (t * rB1 a b p)
  rw [← hq] at g
  refine ⟨t, m, c2, c1, ?_, ?_, ?_, ?_⟩
  · rw [show rA0 (her a b c q) = t * rA0 p from g.1]
    calc _ = t * ((l2 + sgn a b c * k2) * (l1 * l3 - k1 * k3)) := by grind
      _ = _ := by rw [u1]; grind
  · rw [show rA1 a (her a b c q) = t * rA1 a p from g.2.1]
    calc _ = t * ((l2 + sgn a b c * k2) * (k1 * l3 + l1 * k3)) := by grind
      _ = _ := by rw [u2]; grind
  · rw [show rB0 b (her a b c q) = t * rB0 b p from g.2.2.1]
    calc _ = t * ((k2 - sgn a b c * l2) * (l1 * l3 + k1 * k3)) := by grind
      _ = _ := by rw [u3]; grind
  · rw [show rB1 a b (her a b c q) = t * rB1 a b p from g.2.2.2]
    calc _ = t * ((k2 - sgn a b c * l2) * (k1 * l3 - l1 * k3)) := by grind
      _ = _ := by rw [u4]; grind
end Z

set_option Elab.async false
set_option linter.all false
set_option maxRecDepth 100000
set_option exponentiation.threshold 20000
/-! R33: what is told of the four of given settings. -/
namespace Z
open PySem PySem.Spec PyProof.Rows L2 RZ
theorem so_more {a b c : Nat} (o : IsHg a b c) {q : List Int} (ql : q.length = 4) (qz : ∃ n ∈ q, n ≠ 0) {a0 a1 b0 b1 s : Int}
    (h0 : rA0 (her a b c q) = a0) (h1 : rA1 a (her a b c q) = a1) (h2 : rB0 b (her a b c q) = b0) (h3 : rB1 a b (her a b c q) = b1) (h4 : sgn a b c = s) :
    (b0 = 0 ∧ b1 = 0 ∧ ¬(a0 = 0 ∧ a1 = 0) ∧ soD a b c q = .tup [sLock, psD s 1, sWith, psD a1 a0]) ∨
    (a0 = 0 ∧ a1 = 0 ∧ ¬(b0 = 0 ∧ b1 = 0) ∧ soD a b c q = .tup [sLock, psD 1 (-s), sAgainst, psD b1 b0]) ∨
    (¬(a0 = 0 ∧ a1 = 0) ∧ ¬(b0 = 0 ∧ b1 = 0) ∧ (∀ t : Nat, (t : Int) * t ≠ numR a0 a1 b0 b1) ∧ soD a b c q = .tup [sNone, .int (numR a0 a1 b0 b1)]) ∨
    (¬(a0 = 0 ∧ a1 = 0) ∧ ¬(b0 = 0 ∧ b1 = 0) ∧ ∃ r : Int, 0 < r ∧ r * r = numR a0 a1 b0 b1 ∧ ∃ u v, soD a b c q = .tup [sSet, u, v] ∧ (u = trT a0 a1 b0 b1 r 1 s ∧ v = trT a0 a1 b0 b1 r (-1) s ∨ u = trT a0 a1 b0 b1 r (-1) s ∧ v = trT a0 a1 b0 b1 r 1 s)) := by
  have hl := her_len a b c ql
  have hz : ∃ n ∈ her a b c q, n ≠ 0 := qmul_nz ql rfl qz (ltz o.2.1 ⟨1, by simp, by decide⟩)
  have ha := asm_r o hl
  unfold soD
  rw [h0, h1, h2, h3] at ha
  rw [h0, h1, h2, h3, h4]
  unfold soR
  by_cases q0 : b0 = 0 ∧ b1 = 0
  · left
    rw [if_pos q0]
    refine ⟨q0.1, q0.2, ?_, rfl⟩
    rintro ⟨e1, e2⟩
    rw [← ha, q0.1, q0.2, e1, e2] at hz
    obtain ⟨n, hm, h0⟩ := hz
    simp [asm] at hm
    exact h0 hm
  rw [if_neg q0]
  right
  by_cases q1 : a0 = 0 ∧ a1 = 0
  · left
    rw [if_pos q1]
    exact ⟨q1.1, q1.2, q0, rfl⟩
  rw [if_neg q1]
  right
  have np := num_parts q1 q0
  have n0 : numR a0 a1 b0 b1 ≠ 0 := by
    have := Int.mul_pos np.1 np.2
    unfold numR
    omega
  by_cases q2 : ((rt (numR a0 a1 b0 b1) : Nat) : Int) * (rt (numR a0 a1 b0 b1) : Nat) ≠ numR a0 a1 b0 b1
  · left
    rw [if_pos q2]
    refine ⟨q1, q0, fun t ht => q2 ?_, rfl⟩
    rw [rt_sq ht, ht]
  · right
    rw [if_neg q2]
    have q3 : ((rt (numR a0 a1 b0 b1) : Nat) : Int) * (rt (numR a0 a1 b0 b1) : Nat) = numR a0 a1 b0 b1 := by omega
    have r0 : ((rt (numR a0 a1 b0 b1) : Nat) : Int) ≠ 0 := fun e => by
      rw [e] at q3
      exact n0 q3.symm
    obtain ⟨u, v, eu, huv, hlt⟩ := srt_two (trT_ne (a0 := a0) (a1 := a1) (b0 := b0) (b1 := b1) (s := s) r0 (by omega))
    rw [eu]
    exact ⟨q1, q0, _, by omega, q3, u, v, rfl, huv⟩
theorem psD_cross {k l k' l' : Int} (h : Nz2 k l) (h' : Nz2 k' l') (e : k * l' = l * k') : psD k l = psD k' l' := by
  have := ps_cross h h' e
  unfold psD
  rw [this.1, this.2]
theorem psD_cross' {k l k' l' : Int} (h : Nz2 k l) (h' : Nz2 k' l') (e : psD k l = psD k' l') : k * l' = l * k' := by
  simp only [psD, stD, D.tup.injEq, List.cons.injEq, D.int.injEq, and_true] at e
  exact ps_cross' h h' e.1 e.2
theorem cmul_nz2 {u v k l : Int} (h1 : Nz2 u v) (h2 : Nz2 k l) : Nz2 (u * l + k * v) (v * l - u * k) := by
  have := cmul_nz h1 h2.neg1
  rwa [show u * l - -k * v = u * l + k * v by grind, show v * l + u * -k = v * l - u * k by grind] at this
theorem cmul_nz3 {u v k l : Int} (h1 : Nz2 u v) (h2 : Nz2 k l) : Nz2 (u * l - k * v) (v * l + u * k) := cmul_nz h1 h2
/-- what is told of the four that settings make -/
theorem so_told {a b c : Nat} (o : IsHg a b c) {q : List Int} (ql : q.length = 4) (qz : ∃ n ∈ q, n ≠ 0) {k1 l1 k2 l2 k3 l3 : Int} (z1 : Nz2 k1 l1) (z2 : Nz2 k2 l2) (z3 : Nz2 k3 l3)
    (h : pln (hng a b c k1 l1 k2 l2 k3 l3) = pln q) :
    ((k2 = sgn a b c * l2 ∧ soD a b c q = .tup [sLock, psD k2 l2, sWith, psD (k1 * l3 + k3 * l1) (l1 * l3 - k1 * k3)]) ∨
     (l2 = -(sgn a b c * k2) ∧ soD a b c q = .tup [sLock, psD k2 l2, sAgainst, psD (k1 * l3 - k3 * l1) (l1 * l3 + k1 * k3)])) ∨
    (k2 ≠ sgn a b c * l2 ∧ l2 ≠ -(sgn a b c * k2) ∧ ∃ u v, soD a b c q = .tup [sSet, u, v] ∧ (.tup [psD k1 l1, psD k2 l2, psD k3 l3] = u ∨ .tup [psD k1 l1, psD k2 l2, psD k3 l3] = v)) := by
  obtain ⟨d, t, d0, P⟩ := hparts_of o ql qz z1 z2 z3 h
  have sm := so_more o ql qz rfl rfl rfl rfl rfl
  have zd : Nz2 (d * k1) (d * l1) := by
    obtain ⟨n, hm, h0⟩ := z1
    exact ⟨d * n, by simp only [List.mem_cons, List.not_mem_nil, or_false] at hm ⊢; rcases hm with rfl | rfl <;> simp, Int.mul_ne_zero d0 h0⟩
  generalize rA0 (her a b c q) = a0 at *
  generalize rA1 a (her a b c q) = a1 at *
  generalize rB0 b (her a b c q) = b0 at *
  generalize rB1 a b (her a b c q) = b1 at *
  generalize sgn a b c = s at *
  clear h
  have N1 := nz2_sq zd
  have N3 := nz2_sq z3
  have NN := Int.mul_pos N1 N3
  have tt := sq_pos P.t0
  have sz : ∀ {x y : Int}, ¬(y = 0 ∧ x = 0) → Nz2 x y := fun {x y} hh => by
    by_cases hx : x = 0
    · exact ⟨y, by simp, fun hy => hh ⟨hy, hx⟩⟩
    · exact ⟨x, by simp, hx⟩
  have sqz : ∀ {x N : Int}, 0 < N → x * x * N = 0 → x = 0 := fun {x N} hN hx => sq_zero ((Int.mul_eq_zero.mp hx).resolve_right (by omega))
  rcases sm with ⟨e0, e1, ha, hs⟩ | ⟨e0, e1, hb, hs⟩ | ⟨ha, hb, hn, hs⟩ | ⟨ha, hb, r, r0, hr, u, v, hs, huv⟩
  · left; left
    have h2 := P.n2
    rw [e0, e1] at h2
    simp only [Int.mul_zero, Int.add_zero] at h2
    have k20 := sqz NN h2.symm
    have ek : k2 = s * l2 := by omega
    refine ⟨ek, ?_⟩
    rw [hs]
    have c1 : psD s 1 = psD k2 l2 := psD_cross ⟨1, by simp, by decide⟩ z2 (by rw [ek]; grind)
    have c2 : psD a1 a0 = psD (k1 * l3 + k3 * l1) (l1 * l3 - k1 * k3) := by
      refine psD_cross (sz ha) (by have := cmul_nz2 z1 z3; exact this) ?_
      have f1 := P.e1
      have f2 := P.e2
      generalize l2 + s * k2 = L at *
      refine Int.eq_of_mul_eq_mul_left P.t0 ?_
      have g1 : t * (a1 * (l1 * l3 - k1 * k3)) = (t * a1) * (l1 * l3 - k1 * k3) := by rw [Int.mul_assoc]
      have g2 : t * (a0 * (k1 * l3 + k3 * l1)) = (t * a0) * (k1 * l3 + k3 * l1) := by rw [Int.mul_assoc]
      rw [g1, g2, ← f1, ← f2]; clear g1 g2 f1 f2; grind
    rw [c1, c2]
  · left; right
    have h1 := P.n1
    rw [e0, e1] at h1
    simp only [Int.mul_zero, Int.add_zero] at h1
    have l20 := sqz NN h1.symm
    have el : l2 = -(s * k2) := by omega
    refine ⟨el, ?_⟩
    rw [hs]
    have c1 : psD 1 (-s) = psD k2 l2 := psD_cross ⟨1, by simp, by decide⟩ z2 (by rw [el]; grind)
    have c2 : psD b1 b0 = psD (k1 * l3 - k3 * l1) (l1 * l3 + k1 * k3) := by
      refine psD_cross (sz hb) (by have := cmul_nz3 z1 z3; exact this) ?_
      have f3 := P.e3
      have f4 := P.e4
      generalize k2 - s * l2 = K at *
      refine Int.eq_of_mul_eq_mul_left P.t0 ?_
      have g1 : t * (b1 * (l1 * l3 + k1 * k3)) = (t * b1) * (l1 * l3 + k1 * k3) := by rw [Int.mul_assoc]
      have g2 : t * (b0 * (k1 * l3 - k3 * l1)) = (t * b0) * (k1 * l3 - k3 * l1) := by rw [Int.mul_assoc]
      rw [g1, g2, ← f3, ← f4]; clear g1 g2 f3 f4; grind
    rw [c1, c2]
  · exfalso
    obtain ⟨k20, l20⟩ := P.one zd z3 hb ha
    obtain ⟨w, hw⟩ := sq_of_dvd l20 P.sq
    exact hn w hw
  · right
    obtain ⟨k20, l20⟩ := P.one zd z3 hb ha
    refine ⟨by omega, by omega, u, v, hs, ?_⟩
    have np := num_parts ha hb
    have sq := P.sq
    rw [← hr] at sq
    have key : ∃ e : Int, (e = 1 ∨ e = -1) ∧ (k2 - s * l2) * (a0 * a0 + a1 * a1) = (l2 + s * k2) * (e * r) := by
      have : ((k2 - s * l2) * (a0 * a0 + a1 * a1) - (l2 + s * k2) * r) * ((k2 - s * l2) * (a0 * a0 + a1 * a1) + (l2 + s * k2) * r) = 0 := by
        generalize (k2 - s * l2) * (a0 * a0 + a1 * a1) = X at *
        generalize l2 + s * k2 = Y at *
        have : (X - Y * r) * (X + Y * r) = X * X - Y * Y * (r * r) := by clear sq; grind
        rw [this, sq]; omega
      rcases Int.mul_eq_zero.mp this with e | e
      · exact ⟨1, .inl rfl, by rw [Int.one_mul]; omega⟩
      · refine ⟨-1, .inr rfl, ?_⟩
        rw [Int.neg_one_mul, Int.mul_neg]; omega
    obtain ⟨e, he, hm⟩ := key
    have ee : e * e = 1 := by rcases he with rfl | rfl <;> rfl
    obtain ⟨x1, x3⟩ := P.only zd z3 ha hb (by omega) hr ee hm
    have zm : Nz2 (e * r) (a0 * a0 + a1 * a1) := ⟨a0 * a0 + a1 * a1, by simp, by omega⟩
    have T : D.tup [psD k1 l1, psD k2 l2, psD k3 l3] = trT a0 a1 b0 b1 r e s := by
      unfold trT
      rw [psD_cross z1 (h_nz _ _ _) (Int.eq_of_mul_eq_mul_left d0 (by rw [← Int.mul_assoc, ← Int.mul_assoc]; exact x1)), psD_cross z3 (h_nz _ _ _) x3,
        psD_cross z2 (led_nz s zm) (by
          generalize a0 * a0 + a1 * a1 = n1 at *
          generalize e * r = er at *
          clear x1 x3 P N1 N3 NN sq
          grind)]
    rw [T]
    rcases he with rfl | rfl <;> rcases huv with ⟨rfl, rfl⟩ | ⟨rfl, rfl⟩
    · exact .inl rfl
    · exact .inr rfl
    · exact .inr rfl
    · exact .inl rfl
theorem psD_ps {k l : Int} (h : Nz2 k l) : psD (pk k l) (pl k l) = psD k l := by
  unfold psD
  rw [(ps_ps h).1, (ps_ps h).2]
def InLocks (a c : Nat) (K L : Int) : Prop := if a = c then (K = 0 ∧ L = 1 ∨ K = 1 ∧ L = 0) else (K = 1 ∧ L = 1 ∨ K = -1 ∧ L = 1)
theorem in_locks {a b c : Nat} {K L : Int} (g : Int.gcd K L = 1) (f : 0 < L ∨ L = 0 ∧ K = 1) : (K = sgn a b c * L ∨ L = -(sgn a b c * K)) ↔ InLocks a c K L := by
  unfold InLocks sgn
  by_cases h : a = c
  · rw [if_pos h, if_pos h, Int.zero_mul, Int.zero_mul]
    constructor
    · rintro (rfl | e)
      · left
        rcases f with f | f
        · rw [Int.gcd_zero_left] at g
          exact ⟨rfl, by omega⟩
        · omega
      · right; omega
    · omega
  · rw [if_neg h, if_neg h]
    have hs : hnd a b = 1 ∨ hnd a b = -1 := by unfold hnd; split <;> simp
    have e1 : 0 < L → K.natAbs = L.natAbs → L = 1 := fun f e => by
      unfold Int.gcd at g
      rw [e, Nat.gcd_self] at g
      omega
    rcases hs with e | e <;> rw [e]
    · rw [Int.one_mul, Int.one_mul]
      constructor
      · rintro (q | q)
        · have := e1 (by omega) (by omega); omega
        · have := e1 (by omega) (by omega); omega
      · omega
    · rw [Int.neg_one_mul, Int.neg_one_mul]
      constructor
      · rintro (q | q)
        · have := e1 (by omega) (by omega); omega
        · have := e1 (by omega) (by omega); omega
      · omega
theorem so_told2 {a b c : Nat} (o : IsHg a b c) {q : List Int} (ql : q.length = 4) (qz : ∃ n ∈ q, n ≠ 0) (qb : ∀ n ∈ q, Bd 200 n) {k1 l1 k2 l2 k3 l3 : Int} (z1 : Nz2 k1 l1) (z2 : Nz2 k2 l2) (z3 : Nz2 k3 l3)
    (h : pln (hng a b c k1 l1 k2 l2 k3 l3) = pln q) :
    (InLocks a c (pk k2 l2) (pl k2 l2) ∧ nuR a b c q = 0 ∧ ∃ (w : D) (X Y : Int), soD a b c q = .tup [sLock, psD k2 l2, w, psD X Y] ∧ Nz2 X Y ∧
      (w = sWith ∧ X = pk k1 l1 * pl k3 l3 + pk k3 l3 * pl k1 l1 ∧ Y = pl k1 l1 * pl k3 l3 - pk k1 l1 * pk k3 l3 ∨
       w = sAgainst ∧ X = pk k1 l1 * pl k3 l3 - pk k3 l3 * pl k1 l1 ∧ Y = pl k1 l1 * pl k3 l3 + pk k1 l1 * pk k3 l3)) ∨
    (¬InLocks a c (pk k2 l2) (pl k2 l2) ∧ nuR a b c q ≠ 0 ∧ ∃ u v, soD a b c q = .tup [sSet, u, v] ∧ IsTrio a b c (pln q) 900 u ∧ IsTrio a b c (pln q) 900 v ∧ PySem.W.dataLt (py u) (py v) = true ∧
      (.tup [psD k1 l1, psD k2 l2, psD k3 l3] = u ∨ .tup [psD k1 l1, psD k2 l2, psD k3 l3] = v)) := by
  have mk := hng_ps o z1 z2 z3
  rw [h] at mk
  have td := so_told o ql qz (ps_nz z1) (ps_nz z2) (ps_nz z3) mk
  have cs := so_cases o ql qz qb
  have kl : (sLock = sSet) = False := by
    have : (PySem.Str.ofString "lock" == PySem.Str.ofString "set") = false := by decide +kernel
    simp only [eq_iff_iff, iff_false]
    intro e
    simp only [D.str.injEq] at e
    rw [e] at this
    simp at this
  have kn : (sNone = sSet) = False := by
    have : (PySem.Str.ofString "none" == PySem.Str.ofString "set") = false := by decide +kernel
    simp only [eq_iff_iff, iff_false]
    intro e
    simp only [D.str.injEq] at e
    rw [e] at this
    simp at this
  have kln : (sLock = sNone) = False := by
    have : (PySem.Str.ofString "lock" == PySem.Str.ofString "none") = false := by decide +kernel
    simp only [eq_iff_iff, iff_false]
    intro e
    simp only [D.str.injEq] at e
    rw [e] at this
    simp at this
  have il := in_locks (a := a) (b := b) (c := c) (ps_form z2).1 (ps_form z2).2
  rw [psD_ps z1, psD_ps z2, psD_ps z3] at td
  rcases td with (⟨hk, e⟩ | ⟨hl, e⟩) | ⟨nk, nl, u, v, e, huv⟩
  · left
    refine ⟨il.mp (.inl hk), ?_, sWith, _, _, e, cmul_nz2 (ps_nz z1) (ps_nz z3), .inl ⟨rfl, rfl, rfl⟩⟩
    rcases cs with ⟨n0, _⟩ | ⟨n0, _, e'⟩ | ⟨n0, _, u', v', e', _⟩
    · exact n0
    · rw [e] at e'; simp at e'
    · rw [e] at e'; simp at e'
  · left
    refine ⟨il.mp (.inr hl), ?_, sAgainst, _, _, e, cmul_nz3 (ps_nz z1) (ps_nz z3), .inr ⟨rfl, rfl, rfl⟩⟩
    rcases cs with ⟨n0, _⟩ | ⟨n0, _, e'⟩ | ⟨n0, _, u', v', e', _⟩
    · exact n0
    · rw [e] at e'; simp at e'
    · rw [e] at e'; simp at e'
  · right
    refine ⟨fun hi => ?_, ?_⟩
    · rcases il.mpr hi with q | q
      · exact nk q
      · exact nl q
    rcases cs with ⟨n0, _, _, _, _, _, e', _⟩ | ⟨n0, _, e'⟩ | ⟨n0, _, u', v', e', t1, t2, hlt⟩
    · rw [e] at e'; simp at e'
    · rw [e] at e'; simp at e'
    · rw [e] at e'
      simp only [D.tup.injEq, List.cons.injEq, and_true, true_and] at e'
      obtain ⟨rfl, rfl⟩ := e'
      exact ⟨n0, u, v, e, t1, t2, hlt, huv⟩
end Z

set_option Elab.async false
set_option linter.all false
set_option maxRecDepth 100000
/-! Z13: the lesser and the greater of two alike data. -/
namespace PySem
theorem call_min_twoH {prog : Program} {w : World} {A : Around} {E : Value → Shared → Prop} {s : Shared} {a b : Value} {Q : Value → Shared → Prop}
    (h : wpAny (model prog w) A.in1 (pyIter (.ref s.heap.objs.size)) (fun it s₂ => ∃ I fp wr G n P St H bt, it = .ref I ∧ WalksS prog w A.in1 I fp wr G n P St ∧ St 0 s₂ ∧ (∀ b ∈ fp, b < s₂.heap.objs.size) ∧ 0 < n ∧
      (∀ b o, H.get? b = some o → b ∉ wr) ∧ (∀ b o, H.get? b = some o → s₂.heap.get? b = some o) ∧ CmpIn prog w A.in1 .Lt H P bt ∧ ∀ v s', P (argBest bt (n - 1)) v → Moved wr G s₂ s' → Q v s') E
      { s with heap := s.heap.push { cls := .type "tuple", data := .seq #[a, b] } }) :
    wpAny (model prog w) A (call (.builtin "min") [a, b]) Q E s := by
  have hname : (toString "min" ++ toString ".loop" : String) = "min.loop" := by decide
  refine call_function_tree F.kind_min F.plain_min F.entry_min (F.args_min2 _ _) ?_
  show wpAny _ A.in1 (Builtin.Builtins.bindParams "min" ["key", "default"] 0 ⟨[], []⟩ >>= _) _ _ s
  refine wpAny_bind (wpAny_of_eq (show Builtin.Builtins.bindParams "min" ["key", "default"] 0 ⟨[], []⟩ = pure [none, none] from rfl) ?_)
  show wpAny _ A.in1 (newTuple [a, b] >>= _) _ _ s
  refine wpAny_bind (wpAny_newObj_type ?_)
  refine wpAny_bind (wpAny_mono h (fun it s₂ h₂ => ?_) fun _ _ e => e)
  obtain ⟨I, fp, wr, G, n, P, St, H, bt, rfl, W, hst, hfp, hn, hw, hkeep, hcmp, hQ⟩ := h₂
  refine wpAny_bind (wpAny_newObj_type ?_)
  have hSf : s₂.heap.objs.size ∉ fp := fun hm => Nat.lt_irrefl _ (hfp _ hm)
  rw [hname]
  refine wpAny_pure ⟨plainId_quiet F.plain_min_loop _, codeAny_min_loop_firstH W H hw bt hcmp s₂.heap.objs.size hSf (fresh_in hkeep) _ hn (fun b o e => Heap.get?_push_of_some _ (hkeep b o e)) (W.frame 0 s₂ _ s₂.toks hst (Nat.le_refl _) fun b _ o e => Heap.get?_push_of_some _ e) (Heap.get?_push_size _ rfl) fun v s' hP hm => ?_⟩
  exact hQ v s' hP (Moved.drop_new (tk := s₂.toks) hm (Nat.le_refl _))
theorem call_max_twoH {prog : Program} {w : World} {A : Around} {E : Value → Shared → Prop} {s : Shared} {a b : Value} {Q : Value → Shared → Prop}
    (h : wpAny (model prog w) A.in1 (pyIter (.ref s.heap.objs.size)) (fun it s₂ => ∃ I fp wr G n P St H bt, it = .ref I ∧ WalksS prog w A.in1 I fp wr G n P St ∧ St 0 s₂ ∧ (∀ b ∈ fp, b < s₂.heap.objs.size) ∧ 0 < n ∧
      (∀ b o, H.get? b = some o → b ∉ wr) ∧ (∀ b o, H.get? b = some o → s₂.heap.get? b = some o) ∧ CmpIn prog w A.in1 .Gt H P bt ∧ ∀ v s', P (argBest bt (n - 1)) v → Moved wr G s₂ s' → Q v s') E
      { s with heap := s.heap.push { cls := .type "tuple", data := .seq #[a, b] } }) :
    wpAny (model prog w) A (call (.builtin "max") [a, b]) Q E s := by
  have hname : (toString "max" ++ toString ".loop" : String) = "max.loop" := by decide
  refine call_function_tree F.kind_max F.plain_max F.entry_max (F.args_max2 _ _) ?_
  show wpAny _ A.in1 (Builtin.Builtins.bindParams "max" ["key", "default"] 0 ⟨[], []⟩ >>= _) _ _ s
  refine wpAny_bind (wpAny_of_eq (show Builtin.Builtins.bindParams "max" ["key", "default"] 0 ⟨[], []⟩ = pure [none, none] from rfl) ?_)
  show wpAny _ A.in1 (newTuple [a, b] >>= _) _ _ s
  refine wpAny_bind (wpAny_newObj_type ?_)
  refine wpAny_bind (wpAny_mono h (fun it s₂ h₂ => ?_) fun _ _ e => e)
  obtain ⟨I, fp, wr, G, n, P, St, H, bt, rfl, W, hst, hfp, hn, hw, hkeep, hcmp, hQ⟩ := h₂
  refine wpAny_bind (wpAny_newObj_type ?_)
  have hSf : s₂.heap.objs.size ∉ fp := fun hm => Nat.lt_irrefl _ (hfp _ hm)
  rw [hname]
  refine wpAny_pure ⟨plainId_quiet F.plain_max_loop _, codeAny_max_loop_firstH W H hw bt hcmp s₂.heap.objs.size hSf (fresh_in hkeep) _ hn (fun b o e => Heap.get?_push_of_some _ (hkeep b o e)) (W.frame 0 s₂ _ s₂.toks hst (Nat.le_refl _) fun b _ o e => Heap.get?_push_of_some _ e) (Heap.get?_push_size _ rfl) fun v s' hP hm => ?_⟩
  exact hQ v s' hP (Moved.drop_new (tk := s₂.toks) hm (Nat.le_refl _))
namespace W
theorem two_reads {h : Heap} {a b : Value} {x y : PyData} {as bs : List Addr} (ra : Reads h a x as) (rb : Reads h b y bs) : ∃ cs, ReadsAll h [a, b] [x, y] cs := ⟨_, .cons ra (.cons rb .nil)⟩
theorem two_alike {x y : PyData} (h1 : alike x y = true) (h2 : alike y x = true) (h3 : alike x x = true) (h4 : alike y y = true) (nx : x ≠ .none) (ny : y ≠ .none) : AlikeAll [x, y] := by
  constructor
  · intro p hp q hq
    simp only [List.mem_cons, List.not_mem_nil, or_false] at hp hq
    rcases hp with rfl | rfl <;> rcases hq with rfl | rfl <;> assumption
  · intro p hp
    simp only [List.mem_cons, List.not_mem_nil, or_false] at hp
    rcases hp with rfl | rfl <;> assumption
theorem min_two_data {prog : Program} {w : World} {A : Around} {E : Value → Shared → Prop} {s : Shared} {a b : Value} {x y : PyData} {as bs : List Addr} {Q : Value → Shared → Prop} (hh : A.handled = none) (ra : Reads s.heap a x as) (rb : Reads s.heap b y bs) (ha : AlikeAll [x, y])
    (hu : A.units + 1 + PyData.depthAll [x, y] < cLine) (h : ∀ h' tk, (∀ c o, s.heap.get? c = some o → h'.get? c = some o) → Q (if dataLt y x then b else a) { s with heap := h', toks := tk }) :
    wpAny (model prog w) A (call (.builtin "min") [a, b]) Q E s := by
  have hT : (s.heap.push { cls := .type "tuple", data := .seq #[a, b] }).IsTuple s.heap.objs.size #[a, b] := ⟨_, Heap.get?_push_size _ rfl, rfl, 0, rfl⟩
  have kp : ∀ c o, s.heap.get? c = some o → (s.heap.push { cls := .type "tuple", data := .seq #[a, b] }).get? c = some o := fun c o e => Heap.get?_push_of_some _ e
  obtain ⟨cs, rr⟩ := two_reads (reads_keeps kp ra) (reads_keeps kp rb)
  refine call_min_twoH (iter_tupleW (s := { s with heap := s.heap.push { cls := .type "tuple", data := .seq #[a, b] } }) (A := A.in1) hh hT fun s₂ e W st hfp hw hk => ?_)
  refine ⟨_, _, _, _, _, _, _, _, _, rfl, W, st, hfp, by simp, hw, hk, cmpIn_lt (A := A.in1) (s := { s with heap := s.heap.push { cls := .type "tuple", data := .seq #[a, b] } }) (vs := #[a, b]) rr ha (by show A.units + 1 + _ < _; exact hu), fun v s' hP m => ?_⟩
  obtain ⟨h', tk, rfl, hk'⟩ := moved_old e rfl m
  have hv : v = if dataLt y x then b else a := by
    cases hc : dataLt y x <;> simp [argBest, hc] at hP <;> simp [hP]
  rw [hv]
  exact h h' tk fun c o e => hk' c o (kp c o e)
theorem max_two_data {prog : Program} {w : World} {A : Around} {E : Value → Shared → Prop} {s : Shared} {a b : Value} {x y : PyData} {as bs : List Addr} {Q : Value → Shared → Prop} (hh : A.handled = none) (ra : Reads s.heap a x as) (rb : Reads s.heap b y bs) (ha : AlikeAll [x, y])
    (hu : A.units + 1 + PyData.depthAll [x, y] < cLine) (h : ∀ h' tk, (∀ c o, s.heap.get? c = some o → h'.get? c = some o) → Q (if dataLt x y then b else a) { s with heap := h', toks := tk }) :
    wpAny (model prog w) A (call (.builtin "max") [a, b]) Q E s := by
  have hT : (s.heap.push { cls := .type "tuple", data := .seq #[a, b] }).IsTuple s.heap.objs.size #[a, b] := ⟨_, Heap.get?_push_size _ rfl, rfl, 0, rfl⟩
  have kp : ∀ c o, s.heap.get? c = some o → (s.heap.push { cls := .type "tuple", data := .seq #[a, b] }).get? c = some o := fun c o e => Heap.get?_push_of_some _ e
  obtain ⟨cs, rr⟩ := two_reads (reads_keeps kp ra) (reads_keeps kp rb)
  refine call_max_twoH (iter_tupleW (s := { s with heap := s.heap.push { cls := .type "tuple", data := .seq #[a, b] } }) (A := A.in1) hh hT fun s₂ e W st hfp hw hk => ?_)
  refine ⟨_, _, _, _, _, _, _, _, _, rfl, W, st, hfp, by simp, hw, hk, cmpIn_gt (A := A.in1) (s := { s with heap := s.heap.push { cls := .type "tuple", data := .seq #[a, b] } }) (vs := #[a, b]) rr ha (by show A.units + 1 + _ < _; exact hu), fun v s' hP m => ?_⟩
  obtain ⟨h', tk, rfl, hk'⟩ := moved_old e rfl m
  have hv : v = if dataLt x y then b else a := by
    cases hc : dataLt x y <;> simp [argBest, hc] at hP <;> simp [hP]
  rw [hv]
  exact h h' tk fun c o e => hk' c o (kp c o e)
end W
end PySem
namespace Z
open PySem PySem.Spec PyProof.Rows L2 RZ
section
variable {X : Cx}
def rTwoD (K : PySem.W.Frag) (sw : PyData → PyData → Bool) : List V → Hp → VK → Prop := fun vs H Q => ∃ v u d e, vs = [v, u] ∧ RepD K H d v ∧ RepD K H e u ∧ PySem.W.AlikeAll [py d, py e] ∧ (py d).depth ≤ 50 ∧ (py e).depth ≤ 50 ∧ Q (if sw (py d) (py e) then u else v) H
theorem two_depth {x y : PyData} (h1 : x.depth ≤ 50) (h2 : y.depth ≤ 50) : PyData.depthAll [x, y] ≤ 50 := by
  simp only [PyData.depthAll]; omega
theorem cr_min2D (hc : X.calm = true) (hu : X.A.units + 64 < cLine) : CallR X (.builtin "min") (rTwoD X.K fun d e => PySem.W.dataLt e d) := by
  intro pins s σ H vs us Q I r h
  obtain ⟨v, u, d, e, rfl, hd, he, ha, d1, d2, q⟩ := h
  obtain ⟨v', u', rfl, r1, r2⟩ := vals2 r
  obtain ⟨as, q1⟩ := Dp.reads I (py d) v v' (RepD.dp d v hd) r1
  obtain ⟨bs, q2⟩ := Dp.reads I (py e) u u' (RepD.dp e u he) r2
  have dd := two_depth d1 d2
  refine PySem.W.min_two_data (I.ok.hd hc) q1 q2 ha (by omega) fun h' tk k => ⟨_, H, I.kept k, ?_, q⟩
  show L2.RelV (if PySem.W.dataLt (py e) (py d) = true then u else v) (if PySem.W.dataLt (py e) (py d) = true then u' else v')
  cases PySem.W.dataLt (py e) (py d)
  · exact r1
  · exact r2
theorem cr_max2D (hc : X.calm = true) (hu : X.A.units + 64 < cLine) : CallR X (.builtin "max") (rTwoD X.K fun d e => PySem.W.dataLt d e) := by
  intro pins s σ H vs us Q I r h
  obtain ⟨v, u, d, e, rfl, hd, he, ha, d1, d2, q⟩ := h
  obtain ⟨v', u', rfl, r1, r2⟩ := vals2 r
  obtain ⟨as, q1⟩ := Dp.reads I (py d) v v' (RepD.dp d v hd) r1
  obtain ⟨bs, q2⟩ := Dp.reads I (py e) u u' (RepD.dp e u he) r2
  have dd := two_depth d1 d2
  refine PySem.W.max_two_data (I.ok.hd hc) q1 q2 ha (by omega) fun h' tk k => ⟨_, H, I.kept k, ?_, q⟩
  show L2.RelV (if PySem.W.dataLt (py d) (py e) = true then u else v) (if PySem.W.dataLt (py d) (py e) = true then u' else v')
  cases PySem.W.dataLt (py d) (py e)
  · exact r1
  · exact r2
abbrev fMin2D : PF := fun xs S W => match xs with
  | [.r (.d d), .r (.d e)] => (PySem.W.AlikeAll [py d, py e] ∧ (py d).depth ≤ 50 ∧ (py e).depth ≤ 50) ∧ W (.r (.d (if PySem.W.dataLt (py e) (py d) then e else d))) S
  | _ => False
abbrev fMax2D : PF := fun xs S W => match xs with
  | [.r (.d d), .r (.d e)] => (PySem.W.AlikeAll [py d, py e] ∧ (py d).depth ≤ 50 ∧ (py e).depth ≤ 50) ∧ W (.r (.d (if PySem.W.dataLt (py d) (py e) then e else d))) S
  | _ => False
theorem f_min2D (hc : X.calm = true) (hu : X.A.units + 64 < cLine) : FnP X (.builtin "min") fMin2D := by
  refine ⟨_, cr_min2D hc hu, fun xs S W vs m H H0 Q r q w f => ?_⟩
  unfold fMin2D at w
  split at w
  · rename_i d e
    obtain ⟨v, u, rfl, q1, q2⟩ := q.two
    refine ⟨v, u, d, e, rfl, q1, q2, w.1.1, w.1.2.1, w.1.2.2, ?_⟩
    have w2 := w.2
    show Q (if PySem.W.dataLt (py e) (py d) = true then u else v) H
    cases hq : PySem.W.dataLt (py e) (py d) <;> rw [hq] at w2
    · exact f.here r (x := .r (.d d)) (v := v) q1 w2
    · exact f.here r (x := .r (.d e)) (v := u) q2 w2
  · exact w.elim
theorem f_max2D (hc : X.calm = true) (hu : X.A.units + 64 < cLine) : FnP X (.builtin "max") fMax2D := by
  refine ⟨_, cr_max2D hc hu, fun xs S W vs m H H0 Q r q w f => ?_⟩
  unfold fMax2D at w
  split at w
  · rename_i d e
    obtain ⟨v, u, rfl, q1, q2⟩ := q.two
    refine ⟨v, u, d, e, rfl, q1, q2, w.1.1, w.1.2.1, w.1.2.2, ?_⟩
    have w2 := w.2
    show Q (if PySem.W.dataLt (py d) (py e) = true then u else v) H
    cases hq : PySem.W.dataLt (py d) (py e) <;> rw [hq] at w2
    · exact f.here r (x := .r (.d d)) (v := v) q1 w2
    · exact f.here r (x := .r (.d e)) (v := u) q2 w2
  · exact w.elim
end
end Z

set_option Elab.async false
set_option linter.all false
set_option maxRecDepth 100000
set_option exponentiation.threshold 20000
/-! R34: the other settings. -/
namespace Z
open PySem PySem.Spec PyProof.Rows L2 RZ
/-- the middle setting beside -/
def bsK (a c : Nat) (k l : Int) : Int := if a = c then -k else l
def bsL (a c : Nat) (k l : Int) : Int := if a = c then l else k
theorem bs_nz {a c : Nat} {k l : Int} (h : Nz2 k l) : Nz2 (bsK a c k l) (bsL a c k l) := by
  unfold bsK bsL
  split
  · exact h.neg1
  · obtain ⟨n, hm, h0⟩ := h
    exact ⟨n, by simp only [List.mem_cons, List.not_mem_nil, or_false] at hm ⊢; exact hm.symm, h0⟩
theorem turn_nz {k l : Int} (h : Nz2 k l) : Nz2 l (-k) := by
  obtain ⟨n, hm, h0⟩ := h
  simp only [List.mem_cons, List.not_mem_nil, or_false] at hm
  rcases hm with rfl | rfl
  · exact ⟨-n, by simp, by omega⟩
  · exact ⟨n, by simp, h0⟩
theorem beside_hng {a b c : Nat} (h : IsHg a b c) (k1 l1 k2 l2 k3 l3 : Int) :
    hng a b c l1 (-k1) (bsK a c k2 l2) (bsL a c k2 l2) l3 (-k3) = (hng a b c k1 l1 k2 l2 k3 l3).map ((if a = c then -1 else -(hnd a b)) * ·) := by
  obtain ⟨h1, h2, h3, h4, h5⟩ := h
  rcases (by omega : a = 0 ∨ a = 1 ∨ a = 2) with rfl | rfl | rfl <;> rcases (by omega : b = 0 ∨ b = 1 ∨ b = 2) with rfl | rfl | rfl <;> rcases (by omega : c = 0 ∨ c = 1 ∨ c = 2) with rfl | rfl | rfl <;>
    first
    | exact absurd rfl h4
    | exact absurd rfl h5
    | (simp [hng, lt, abt, uw, qmul, hnd, bsK, bsL]; try grind)
theorem beside_pln {a b c : Nat} (h : IsHg a b c) {k1 l1 k2 l2 k3 l3 : Int} (z1 : Nz2 k1 l1) (z2 : Nz2 k2 l2) (z3 : Nz2 k3 l3) :
    pln (hng a b c l1 (-k1) (bsK a c k2 l2) (bsL a c k2 l2) l3 (-k3)) = pln (hng a b c k1 l1 k2 l2 k3 l3) := by
  rw [beside_hng h]
  refine pln_smul ?_ (hngz h z1 z2 z3)
  split
  · decide
  · unfold hnd; split <;> decide
theorem lt_asym {x y : PyData} (h : PySem.W.dataLt x y = true) : PySem.W.dataLt y x = false := by
  cases q : PySem.W.dataLt y x
  · rfl
  · have := PyProof.Rows.lex_trans _ _ _ h q
    rw [PyProof.Rows.lex_irrefl] at this
    exact absurd this (by decide)
theorem st_alike (k1 l1 k2 l2 k3 l3 m1 n1 m2 n2 m3 n3 : Int) : PySem.W.AlikeAll [py (stT k1 l1 k2 l2 k3 l3), py (stT m1 n1 m2 n2 m3 n3)] := by
  refine PySem.W.two_alike ?_ ?_ ?_ ?_ (by simp [py]) (by simp [py]) <;> simp [py, pys, PySem.W.alike, PySem.W.alikeAll]
/-- the two that are told are the two in order -/
theorem beside_two {a b c : Nat} (o : IsHg a b c) {q : List Int} (ql : q.length = 4) (qz : ∃ n ∈ q, n ≠ 0) (qb : ∀ n ∈ q, Bd 200 n) {k1 l1 k2 l2 k3 l3 : Int} (z1 : Nz2 k1 l1) (z2 : Nz2 k2 l2) (z3 : Nz2 k3 l3)
    (h : pln (hng a b c k1 l1 k2 l2 k3 l3) = pln q) :
    (∃ m n u v w, soD a b c q = .tup [sLock, psD m n, w, psD u v] ∧ Lock a b c q m n u v w) ∨
    soD a b c q = .tup [sSet, if PySem.W.dataLt (py (.tup [psD l1 (-k1), psD (bsK a c k2 l2) (bsL a c k2 l2), psD l3 (-k3)])) (py (.tup [psD k1 l1, psD k2 l2, psD k3 l3])) then .tup [psD l1 (-k1), psD (bsK a c k2 l2) (bsL a c k2 l2), psD l3 (-k3)] else .tup [psD k1 l1, psD k2 l2, psD k3 l3],
      if PySem.W.dataLt (py (.tup [psD k1 l1, psD k2 l2, psD k3 l3])) (py (.tup [psD l1 (-k1), psD (bsK a c k2 l2) (bsL a c k2 l2), psD l3 (-k3)])) then .tup [psD l1 (-k1), psD (bsK a c k2 l2) (bsL a c k2 l2), psD l3 (-k3)] else .tup [psD k1 l1, psD k2 l2, psD k3 l3]] := by
  have t1 := so_told2 o ql qz qb z1 z2 z3 h
  have t2 := so_told2 o ql qz qb (turn_nz z1) (bs_nz (a := a) (c := c) z2) (turn_nz z3) (by rw [beside_pln o z1 z2 z3]; exact h)
  have ne : (D.tup [psD k1 l1, psD k2 l2, psD k3 l3]) ≠ .tup [psD l1 (-k1), psD (bsK a c k2 l2) (bsL a c k2 l2), psD l3 (-k3)] := fun e => by
    simp only [D.tup.injEq, List.cons.injEq, and_true] at e
    have := psD_cross' z1 (turn_nz z1) (by rw [psD, psD, stD, stD, D.tup.injEq, List.cons.injEq, List.cons.injEq]; exact ⟨e.1.1, e.1.2, rfl⟩)
    have p := nz2_sq z1
    rw [Int.mul_neg] at this
    omega
  have cs := so_cases o ql qz qb
  rcases t1 with ⟨_, n0, _⟩ | ⟨_, n0, u, v, e, _, _, hlt, huv⟩
  · left
    rcases cs with ⟨_, m, n, u, v, w, e, L⟩ | ⟨n1, _⟩ | ⟨n1, _⟩
    · exact ⟨m, n, u, v, w, e, L⟩
    · exact absurd n0 n1
    · exact absurd n0 n1
  · right
    rcases t2 with ⟨_, n1, _⟩ | ⟨_, _, u', v', e', _, _, _, huv'⟩
    · exact absurd n1 n0
    rw [e] at e'
    simp only [D.tup.injEq, List.cons.injEq, and_true, true_and] at e'
    obtain ⟨rfl, rfl⟩ := e'
    rw [e]
    generalize (D.tup [psD k1 l1, psD k2 l2, psD k3 l3]) = x at *
    generalize (D.tup [psD l1 (-k1), psD (bsK a c k2 l2) (bsL a c k2 l2), psD l3 (-k3)]) = y at *
    have as := lt_asym hlt
    rcases huv with rfl | rfl <;> rcases huv' with rfl | rfl
    · exact absurd rfl ne
    · rw [hlt, as]; simp
    · rw [hlt, as]; simp
    · exact absurd rfl ne
end Z

set_option Elab.async false
set_option linter.all false
set_option maxRecDepth 100000
/-! Z14: a written dict of texts, read at once: {"x": "y", ..}[e]. -/
namespace Z
open PySem PySem.Spec PyProof.Rows L2 RZ
/-- what is written: texts by texts -/
abbrev SVs := List (Str × Str)
abbrev trsS (kvs : SVs) : List (TE × TE) := kvs.map fun kv => (tC (.str kv.1), tC (.str kv.2))
abbrev kvsS (kvs : SVs) : List (Key × V) := kvs.map fun kv => (Sum.inr kv.1, V.str kv.2)
def svLook (kvs : SVs) (k : Str) (o : Option Str) : Option Str := kvs.foldl (fun o kv => if k = kv.1 then some kv.2 else o) o
theorem svLook_v (k : Str) : ∀ (more : SVs) (acc : List (Key × V)) (o : Option Str), valV acc (Sum.inr k) = o.map V.str → valV (mergeK acc (kvsS more)) (Sum.inr k) = (svLook more k o).map V.str
  | [], _, _, h => h
  | kv :: more, acc, o, h => by
    refine svLook_v k more (putK acc (Sum.inr kv.1) (V.str kv.2)) _ ?_
    rw [valV_put]
    show _ = ((if k = kv.1 then some kv.2 else o) : Option Str).map V.str
    by_cases e : k = kv.1
    · rw [if_pos (by rw [e]), if_pos e]; rfl
    · rw [if_neg (fun q => e (Sum.inr.inj q)), if_neg e]; exact h
theorem pairs_S : ∀ (kvs : SVs) (σ : L2.St) (H : Hp) (Q : List (V × V) → Hp → Prop), Q (kvs.map fun kv => (V.str kv.1, V.str kv.2)) H → tPairs (trsS kvs) σ H Q
  | [], _, _, _, h => h
  | kv :: kvs, σ, H, Q, h => pairs_S kvs σ H _ h
/-- {"x": "y", ..}[e] -/
abbrev wDIx (kvs : SVs) (we : PE1) : PE1 := fun r S W => we r S fun y S1 => match y with
  | .r (.d (.str k)) => match svLook kvs k none with
    | some v => W (.r (.d (.str v))) S1
    | none => False
  | _ => False
section
variable {X : Cx} {pos : Pos}
theorem we_dix {e : Expr} {we : PE1} {keys : List (Option Expr)} {values : List Expr} {kvs : SVs} {pd : Pos} (h : PPs X pd keys values (trsS kvs)) (hall : keys.all (·.isSome) = true) (hl : keys.length = values.length) (h0 : keys ≠ []) (h15 : keys.length ≤ 15) (hk : kvs.length ≤ 15)
    (he : WE X e we) (hu : X.A.units + 1 < cLine) (hs : NoSl e) : WE X (.Subscript (.Dict keys values pd) e pos) (wDIx kvs we) := by
  refine ⟨peImp (pe_dget hu (pe_disp h hall hl h0 h15) he.pe hs) fun s H Q ⟨m0, r, S, W, hE, hS, hw, hf⟩ => ?_⟩
  intro p hp
  refine pairs_S kvs s _ _ ⟨upd_same, kvsS kvs, by rw [List.map_map]; rfl, by rw [List.length_map]; exact hk, ?_⟩
  have ext : Ext H (upd (upd H p (.dK [])) p (.dK (mergeK [] (kvsS kvs)))) := fun b o e => by
    rw [upd_ne (ne_of_none e hp), upd_ne (ne_of_none e hp)]; exact e
  have hdt : (upd (upd H p (.dK [])) p (.dK (mergeK [] (kvsS kvs)))) p = some (.dK (mergeK [] (kvsS kvs))) := upd_same
  generalize upd (upd H p (.dK [])) p (.dK (mergeK [] (kvsS kvs))) = H2 at *
  have g : Grow m0 H m0 H2 := Grow.ext ext
  have hS2 : RepS X.K m0 H2 S := hS.ext ext g
  refine ⟨m0, r, S, _, hE.grow g, hS2, hw, fun y S1 v m1 H1 h1 g1 r1 q1 => ?_⟩
  split at h1
  · rename_i k
    obtain rfl : v = V.str k := q1
    split at h1
    · rename_i vv ek
      have pn : p ∉ m0 := hS.notmem hp
      have hd1 : H1 p = some (.dK (mergeK [] (kvsS kvs))) := g1.frame p _ hdt pn
      have ev := svLook_v k kvs [] none rfl
      rw [ek] at ev
      have dg := DGet.k (k := Sum.inr k) hd1
      rw [ev] at dg
      exact ⟨p, V.str vv, rfl, dg, hf _ S1 _ m1 H1 h1 (g.trans g1) r1 (show RepR _ _ _ _ _ from rfl)⟩
    · exact h1.elim
  · exact h1.elim
end
end Z

set_option Elab.async false
set_option linter.all false
set_option maxRecDepth 100000
/-! Z15: x[::-1] of texts and tuples, the least and the greatest of a list of data. -/
namespace HT
open PySem PySem.Spec PyProof.Rows
section
variable {prog : Program} {w : World} {A : Around} {E : Value → Shared → Prop} {s : Shared}
theorem places_rev (n : Nat) : Builtin.Slice.slicePlaces ((n : Int) - 1) (-1) (-1) = n := by
  unfold Builtin.Slice.slicePlaces
  have h1 : ¬((-1 : Int) > 0) := by decide
  simp only [h1, if_false]
  have e : (- -1 : Int) = 1 := by decide
  rw [e, Int.ediv_one]
  split <;> omega
theorem sliceApplied_rev {sl : Addr} {v : Value} {n : Nat} {Q : Int × Int × Nat → Shared → Prop} (hs : s.heap.IsSliceOf sl .none .none v) (pv : IsPart v (some (-1))) (h : Q (((n : Int) - 1), -1, n) s) :
    wpAny (model prog w) A (Builtin.Slice.sliceApplied (.ref sl) (pure (n : Int))) Q E s := by
  obtain ⟨os, hos, hcs, hds⟩ := id hs
  unfold Builtin.Slice.sliceApplied Builtin.Slice.sliceFields
  refine wpAny_bind (wpAny_bind (wpAny_field hos hds (x := .none) rfl (wpAny_bind (wpAny_field hos hds (x := .none) rfl (wpAny_bind (wpAny_field hos hds (x := v) rfl (wpAny_pure ?_)))))))
  refine wpAny_bind (slicePart_ pv ?_)
  show wpAny _ _ (if ((-1 : Int) == 0) = true then _ else _) _ _ s
  rw [if_neg (by decide)]
  refine wpAny_bind (slicePart_none (wpAny_bind (slicePart_none (wpAny_bind (wpAny_pure ?_)))))
  show wpAny _ _ (pure (((n : Int) - 1), (-1 : Int), Builtin.Slice.slicePlaces ((n : Int) - 1) (-1) (-1))) _ _ s
  rw [places_rev]
  exact wpAny_pure h
theorem fm_congr {α β : Type} {f g : α → Option β} : ∀ {l : List α}, (∀ x ∈ l, f x = g x) → l.filterMap f = l.filterMap g
  | [], _ => rfl
  | a :: l, h => by
    rw [List.filterMap_cons, List.filterMap_cons, h a List.mem_cons_self, fm_congr fun x hx => h x (List.mem_cons_of_mem _ hx)]
theorem pick_rev (xs : Array Value) : ((List.range xs.size).filterMap fun (m : Nat) => xs[(((xs.size : Int) - 1) + (m : Int) * (-1)).toNat]?).toArray = xs.toList.reverse.toArray := by
  have e : (List.range xs.size).filterMap (fun (m : Nat) => xs[(((xs.size : Int) - 1) + (m : Int) * (-1)).toNat]?) = ((List.range xs.size).map fun k => xs.size - 1 - k).filterMap (xs[·]?) := by
    rw [List.filterMap_map]
    refine fm_congr fun m hm => ?_
    have := List.mem_range.mp hm
    show xs[(((xs.size : Int) - 1) + (m : Int) * (-1)).toNat]? = xs[xs.size - 1 - m]?
    congr 1
    omega
  rw [e, PySem.W.krv_range, List.filterMap_reverse, PySem.W.krv_all]
theorem getItem_tuple_rev {t sl : Addr} {items : Array Value} {v : Value} {Q : Value → Shared → Prop} (ht : IsTup s.heap t items) (hs : s.heap.IsSliceOf sl .none .none v) (pv : IsPart v (some (-1)))
    (h : Q (.ref s.heap.objs.size) { s with heap := s.heap.push { cls := .type "tuple", data := .seq items.toList.reverse.toArray } }) (hsz : items.size ≤ sizeLine) : wpAny (model prog w) A (getItem (.ref t) (.ref sl)) Q E s := by
  have htake : sizeOk (.seq items.toList.reverse.toArray) := by
    show items.toList.reverse.toArray.size ≤ sizeLine
    rw [List.size_toArray, List.length_reverse, Array.length_toList]
    exact hsz
  obtain ⟨os, hos, hcs, hds⟩ := id hs
  have hTs : s.TypeIs (.ref sl) "slice" := ⟨os, hos, hcs⟩
  unfold getItem
  try with_reducible refine wpAny_holding ?_
  first | refine wpAny_bind (wpAny_pure ?_) | skip
  refine wpAny_bind (wpAny_sequenceKey ht.typeIs (by decide) ?_)
  refine wpAny_bind (wpAny_callSpecial?_slot (name := Str.ofString "__getitem__") ht.typeIs PyProof.Rows.slot_tuple_getitem
    (wpAny_call_entry PyProof.Rows.slot_tuple_getitem ht.typeIs entry_tuple_getitem ?_ (args_tuple_getitem _ _)))
  show wpAny _ _ (Builtin.Tuple.tupleItemsOf (.ref t) >>= _) _ _ s
  refine wpAny_bind (tupleItemsOf_ ht ?_)
  refine wpAny_bind (wpAny_typeOf hTs ?_)
  rw [if_pos (by decide)]
  refine wpAny_bind (sliceApplied_rev hs pv ?_)
  have hno : ¬ ((((items.size : Int) - 1) == 0 && (-1 : Int) == 1 && items.size == items.size) = true) := by
    intro q
    rw [Bool.and_eq_true, Bool.and_eq_true] at q
    exact absurd (eq_of_beq q.1.2) (by decide)
  show wpAny _ _ (if ((((items.size : Int) - 1)) == 0 && (-1 : Int) == 1 && items.size == items.size) = true then _ else _) _ _ s
  rw [if_neg hno, pick_rev]
  first
    | exact wpAny_bind (m := Builtin.Tuple.tupleExact _) (wpAny_newObj_type (wpAny_pure ⟨_, rfl, wpAny_pure h⟩) htake)
    | exact wpAny_bind (m := Builtin.Tuple.tupleExact _) (wpAny_newObj_type (wpAny_bind (wpAny_pure (wpAny_pure ⟨_, rfl, wpAny_pure h⟩))) htake)
    | exact wpAny_bind (wpAny_bind (m := Builtin.Tuple.tupleExact _) (wpAny_newObj_type (wpAny_pure (wpAny_pure ⟨_, rfl, wpAny_pure h⟩)) htake))
    | exact wpAny_bind (wpAny_bind (m := Builtin.Tuple.tupleExact _) (wpAny_newObj_type (wpAny_pure ⟨_, rfl, wpAny_pure h⟩) htake))
end
end HT
namespace PySem.W
/-- min of a list of two -/
theorem min_list_two {prog : Program} {w : World} {A : Around} {E : Value → Shared → Prop} {s : Shared} {l : Addr} {a b : Value} {x y : PyData} {as : List Addr} {Q : Value → Shared → Prop} (hh : A.handled = none) (hl : s.heap.IsList l #[a, b]) (rr : ReadsAll s.heap [a, b] [x, y] as) (ha : AlikeAll [x, y])
    (hu : A.units + 1 + PyData.depthAll [x, y] < cLine) (h : ∀ h' tk, (∀ c o, s.heap.get? c = some o → h'.get? c = some o) → Q (if dataLt y x then b else a) { s with heap := h', toks := tk }) :
    wpAny (model prog w) A (call (.builtin "min") [.ref l]) Q E s := by
  refine call_min_walkH (iter_listW (A := A.in1) hh hl fun s₂ e W st hfp hw hk => ?_)
  refine ⟨_, _, _, _, _, _, _, s.heap, _, rfl, W, st, hfp, by simp, hw, hk, cmpIn_lt (A := A.in1) (vs := #[a, b]) rr ha (by show A.units + 1 + _ < _; exact hu), fun v s' hP m => ?_⟩
  obtain ⟨h', tk, rfl, hk'⟩ := moved_old e rfl m
  have hv : v = if dataLt y x then b else a := by
    cases hc : dataLt y x <;> simp [argBest, hc] at hP <;> simp [hP]
  rw [hv]
  exact h h' tk hk'
theorem max_list_two {prog : Program} {w : World} {A : Around} {E : Value → Shared → Prop} {s : Shared} {l : Addr} {a b : Value} {x y : PyData} {as : List Addr} {Q : Value → Shared → Prop} (hh : A.handled = none) (hl : s.heap.IsList l #[a, b]) (rr : ReadsAll s.heap [a, b] [x, y] as) (ha : AlikeAll [x, y])
    (hu : A.units + 1 + PyData.depthAll [x, y] < cLine) (h : ∀ h' tk, (∀ c o, s.heap.get? c = some o → h'.get? c = some o) → Q (if dataLt x y then b else a) { s with heap := h', toks := tk }) :
    wpAny (model prog w) A (call (.builtin "max") [.ref l]) Q E s := by
  refine call_max_walkH (iter_listW (A := A.in1) hh hl fun s₂ e W st hfp hw hk => ?_)
  refine ⟨_, _, _, _, _, _, _, s.heap, _, rfl, W, st, hfp, by simp, hw, hk, cmpIn_gt (A := A.in1) (vs := #[a, b]) rr ha (by show A.units + 1 + _ < _; exact hu), fun v s' hP m => ?_⟩
  obtain ⟨h', tk, rfl, hk'⟩ := moved_old e rfl m
  have hv : v = if dataLt x y then b else a := by
    cases hc : dataLt x y <;> simp [argBest, hc] at hP <;> simp [hP]
  rw [hv]
  exact h h' tk hk'
end PySem.W
namespace Z
open PySem PySem.Spec PyProof.Rows L2 RZ
/-- a text the other way about -/
def revS (x : Str) : Str := ⟨x.cps.toList.reverse.toArray⟩
theorem all_cps {α : Type} (xs : Array α) : (List.range xs.size).filterMap (xs[·]?) = xs.toList := PySem.W.krv_all xs
theorem slicePicked_rev (x : Str) (u : Tok) : slicePicked x none none (some (-1, u)) = (List.range x.length).reverse := by
  show Builtin.Str.strSliceIndices none none (-1) x.length = _
  unfold Builtin.Str.strSliceIndices
  show sliceRange ((x.length : Int) - 1) (-1) (-1) = _
  rw [PySem.W.krv_sliceRange, PySem.W.krv_range]
theorem revS_eq (x : Str) (u : Tok) : (⟨((slicePicked x none none (some (-1, u))).filterMap (x.cps[·]?)).toArray⟩ : Str) = revS x := by
  rw [slicePicked_rev, List.filterMap_reverse]
  show (⟨((List.range x.cps.size).filterMap (x.cps[·]?)).reverse.toArray⟩ : Str) = _
  rw [all_cps]; rfl
section
variable {X : Cx}
/-- x[::-1] of a text or a tuple -/
abbrev wRvX (w : PE1) : PE1 := fun r S W => w r S fun x S1 => match x with
  | .r (.d (.tup xs)) => W (.r (.d (.tup xs.reverse))) S1
  | .r (.d (.str z)) => z.length ≤ 16777216 ∧ W (.r (.d (.str (revS z)))) S1
  | _ => False
def tRevX (K : PySem.W.Frag) (te : TE) : TE := fun σ H Q => te σ H fun x H1 => (∃ a xs, x = .ref a ∧ SqT K H1 a xs ∧ ∀ p, H1 p = none → Q (.ref p) (upd H1 p (.tup xs.reverse))) ∨ ∃ z, x = .str z ∧ z.length ≤ sizeLine ∧ Q (.str (revS z)) H1
theorem pe_revX {e : Expr} {te : TE} {k : Nat} {p1 p2 p3 pos : Pos} (he : PE X e te) : PE X (.Subscript e (.Slice none none (some (.UnaryOp .USub (.Constant (.int 1) k p1) p2)) p3) pos) (tRevX X.K te) := by
  refine ⟨fun pins s σ H Q I h => ?_⟩
  refine Subscript_ (thn (he.run pins s σ H _ I h) fun v s1 ⟨x, H1, I1, r1, q1⟩ => ?_)
  have hst : PO X (some (.UnaryOp .USub (.Constant (.int 1) k p1) p2)) (tPart (tUn (rU fun i => .int (-i)) (tC (.int 1)))) := po_some (pe_un un_neg pe_int)
  refine wpAny_Slice (thn (po_none.run pins s1 σ H1 (fun o H2 => o = none ∧ H2 = H1) I1 ⟨rfl, rfl⟩) fun vl s2 ⟨l, H2, I2, pl, el, e2⟩ => ?_)
  subst el e2
  refine thn (po_none.run pins s2 σ H2 (fun o H3 => o = none ∧ H3 = H2) I2 ⟨rfl, rfl⟩) fun vu s3 ⟨u, H3, I3, pu, eu, e3⟩ => ?_
  subst eu e3
  refine thn (hst.run pins s3 σ H3 (fun o H4 => o = some (-1) ∧ H4 = H3) I3 ⟨1, rfl, -1, rfl, rfl, rfl⟩) fun vs s4 ⟨o, H4, I4, ps, eo, e4⟩ => ?_
  subst eo e4
  have I5 : Inv X pins σ H4 { s4 with heap := s4.heap.push { cls := .type "slice", data := .fields #[vl, vu, vs] } } := I4.kept (t' := s4.toks) fun b ob q => Heap.get?_push_of_some _ q
  show wpAny (model X.prog X.w) X.A (subscriptTail e (.Slice none none (some (.UnaryOp .USub (.Constant (.int 1) k p1) p2)) p3) v (.ref s4.heap.objs.size)) (EP X pins σ Q) X.xe { s4 with heap := s4.heap.push { cls := .type "slice", data := .fields #[vl, vu, vs] } }
  cases pl
  cases pu
  rcases q1 with ⟨a, xs, ex, hx, q⟩ | ⟨z, ex, hz, q⟩
  · subst ex
    cases r1
    obtain ⟨its, r, ht, hz⟩ := I5.tuple hx
    have hlen := r.length
    refine tail_any (ops := [.ref a, .ref s4.heap.objs.size]) ht.typeIs PyProof.Rows.slot_tuple_getitem.lookup ?_ (by with_unfolding_all rfl)
    refine HT.getItem_tuple_rev ht (Heap.IsSliceOf.new _ .none .none vs) ps ?_ (by rw [List.size_toArray]; omega)
    refine ⟨.ref _, _, I5.laid (t' := s4.toks) (o := .tup xs.reverse) (fun b ob q => Heap.get?_push_of_some _ q) (Nat.le_refl _) ?_, rfl, q _ (I5.hok.fresh (Nat.le_refl _))⟩
    exact ⟨by rw [List.length_reverse]; exact hz, _, r.reverse, IsTup.new _ _⟩
  · subst ex
    obtain ⟨t, rfl⟩ := r1
    obtain ⟨st, rfl, e1⟩ := IsPart.raw ps
    refine tail_any (ops := [.str z t, .ref s4.heap.objs.size]) (typeIs_str _ _ _) F.slot_str_getitem.lookup ?_ (by with_unfolding_all rfl)
    obtain ⟨⟨i, uk⟩, rfl⟩ : ∃ y, st = some y := by cases st with
      | none => cases e1
      | some y => exact ⟨y, rfl⟩
    simp only [Option.map_some, Option.some.injEq] at e1
    subst e1
    refine wpAny_getItem_str_slice (l := none) (u := none) (st := some (-1, uk)) ⟨_, Heap.get?_push_size _ rfl, rfl, rfl⟩ rfl ?_
    show Made.post (if ((-1 : Int) == 1 && _) = true then Made.val (.str z t) else Made.str _) _ _
    have hno : ((-1 : Int) == 1) = false := by decide
    rw [hno, Bool.false_and, if_neg (by decide), revS_eq]
    refine ⟨by show z.cps.toList.reverse.toArray.size ≤ sizeLine; rw [List.size_toArray, List.length_reverse, Array.length_toList]; exact hz, .str (revS z), H4, I5.tok _, ⟨_, rfl⟩, q⟩
theorem RepDs.rev {K : PySem.W.Frag} {H : Hp} : ∀ {ds : List D} {vs : List V}, RepDs K H ds vs → RepDs K H ds.reverse vs.reverse
  | [], _, h => by cases h; exact rfl
  | d :: ds, _, ⟨v, r, e, h, t⟩ => by
    subst e
    rw [List.reverse_cons, List.reverse_cons]
    exact RepDs.app (RepDs.rev t) ⟨v, [], rfl, h, rfl⟩
theorem we_rvX {e : Expr} {w : PE1} {k : Nat} {p1 p2 p3 pos : Pos} (he : WE X e w) : WE X (.Subscript e (.Slice none none (some (.UnaryOp .USub (.Constant (.int 1) k p1) p2)) p3) pos) (wRvX w) :=
  ⟨peImp (pe_revX he.pe) fun s H Q ⟨m, r, S, W, hE, hS, hw, hf⟩ => up1 hE hS hw fun x S1 v m1 H1 h1 g1 r1 q1 => by
    split at h1
    · rename_i xs
      obtain ⟨a, vs, rfl, k1, k2⟩ := q1
      exact .inl ⟨a, vs, rfl, k1, (hf.later g1 r1).tup r1 k2.rev h1⟩
    · rename_i z
      obtain rfl : v = V.str z := q1
      exact .inr ⟨z, rfl, h1.1, hf _ _ _ m1 _ h1.2 g1 r1 (show RepR _ _ _ _ _ from rfl)⟩
    · exact h1.elim⟩
def rTwoL (K : PySem.W.Frag) (sw : PyData → PyData → Bool) : List V → Hp → VK → Prop := fun vs H Q => ∃ a v u d e, vs = [.ref a] ∧ SqL K H a [v, u] ∧ RepD K H d v ∧ RepD K H e u ∧ PySem.W.AlikeAll [py d, py e] ∧ (py d).depth ≤ 50 ∧ (py e).depth ≤ 50 ∧ Q (if sw (py d) (py e) = true then u else v) H
theorem two_its {v u : V} {its : List Value} (r : Vals [v, u] its) : ∃ v' u', its = [v', u'] ∧ RelV v v' ∧ RelV u u' := vals2 r
theorem cr_min1D (hc : X.calm = true) (hu : X.A.units + 64 < cLine) : CallR X (.builtin "min") (rTwoL X.K fun d e => PySem.W.dataLt e d) := by
  intro pins s σ H vs us Q I r h
  obtain ⟨a, v, u, d, e, rfl, hs, hd, he, ha, d1, d2, q⟩ := h
  obtain ⟨w, rfl, rw1⟩ := vals1 r
  obtain rfl : w = Value.ref a := rw1
  obtain ⟨its, rv, hl, hz⟩ := I.list hs
  obtain ⟨v', u', rfl, r1, r2⟩ := two_its rv
  obtain ⟨as, q1⟩ := Dp.reads I (py d) v v' (RepD.dp d v hd) r1
  obtain ⟨bs, q2⟩ := Dp.reads I (py e) u u' (RepD.dp e u he) r2
  have dd := two_depth d1 d2
  obtain ⟨cs, rr⟩ := PySem.W.two_reads q1 q2
  refine PySem.W.min_list_two (I.ok.hd hc) hl.isList rr ha (by omega) fun h' tk k => ⟨_, H, I.kept k, ?_, q⟩
  show L2.RelV (if PySem.W.dataLt (py e) (py d) = true then u else v) (if PySem.W.dataLt (py e) (py d) = true then u' else v')
  cases PySem.W.dataLt (py e) (py d)
  · exact r1
  · exact r2
theorem cr_max1D (hc : X.calm = true) (hu : X.A.units + 64 < cLine) : CallR X (.builtin "max") (rTwoL X.K fun d e => PySem.W.dataLt d e) := by
  intro pins s σ H vs us Q I r h
  obtain ⟨a, v, u, d, e, rfl, hs, hd, he, ha, d1, d2, q⟩ := h
  obtain ⟨w, rfl, rw1⟩ := vals1 r
  obtain rfl : w = Value.ref a := rw1
  obtain ⟨its, rv, hl, hz⟩ := I.list hs
  obtain ⟨v', u', rfl, r1, r2⟩ := two_its rv
  obtain ⟨as, q1⟩ := Dp.reads I (py d) v v' (RepD.dp d v hd) r1
  obtain ⟨bs, q2⟩ := Dp.reads I (py e) u u' (RepD.dp e u he) r2
  have dd := two_depth d1 d2
  obtain ⟨cs, rr⟩ := PySem.W.two_reads q1 q2
  refine PySem.W.max_list_two (I.ok.hd hc) hl.isList rr ha (by omega) fun h' tk k => ⟨_, H, I.kept k, ?_, q⟩
  show L2.RelV (if PySem.W.dataLt (py d) (py e) = true then u else v) (if PySem.W.dataLt (py d) (py e) = true then u' else v')
  cases PySem.W.dataLt (py d) (py e)
  · exact r1
  · exact r2
/-- min of a list of two data -/
abbrev fMin1D : PF := fun xs S W => match xs with
  | [x] => match isLst x, seqOf S x with
    | true, some [d, e] => (PySem.W.AlikeAll [py d, py e] ∧ (py d).depth ≤ 50 ∧ (py e).depth ≤ 50) ∧ W (.r (.d (if PySem.W.dataLt (py e) (py d) then e else d))) S
    | _, _ => False
  | _ => False
abbrev fMax1D : PF := fun xs S W => match xs with
  | [x] => match isLst x, seqOf S x with
    | true, some [d, e] => (PySem.W.AlikeAll [py d, py e] ∧ (py d).depth ≤ 50 ∧ (py e).depth ≤ 50) ∧ W (.r (.d (if PySem.W.dataLt (py d) (py e) then e else d))) S
    | _, _ => False
  | _ => False
theorem reps_two {K : PySem.W.Frag} {H : Hp} {d e : D} {vs : List V} (h : RepDs K H [d, e] vs) : ∃ v u, vs = [v, u] ∧ RepD K H d v ∧ RepD K H e u := by
  obtain ⟨v, r, rfl, h1, h2⟩ := h
  obtain ⟨u, r2, rfl, h3, h4⟩ := h2
  cases h4
  exact ⟨v, u, rfl, h1, h3⟩
theorem f_min1D (hc : X.calm = true) (hu : X.A.units + 64 < cLine) : FnP X (.builtin "min") fMin1D := by
  refine ⟨_, cr_min1D hc hu, fun xs S W vs m H H0 Q r q w f => ?_⟩
  unfold fMin1D at w
  split at w
  · rename_i x
    obtain ⟨v, rfl, q1⟩ := q.one
    split at w
    · rename_i d e hl es
      obtain ⟨p, us, rfl, h1, h2⟩ := q1.seq r es
      rw [if_pos hl] at h2
      obtain ⟨v, u, rfl, rd, re⟩ := reps_two h1
      refine ⟨p, v, u, d, e, rfl, h2, rd, re, w.1.1, w.1.2.1, w.1.2.2, ?_⟩
      have w2 := w.2
      show Q (if PySem.W.dataLt (py e) (py d) = true then u else v) H
      cases hq : PySem.W.dataLt (py e) (py d) <;> rw [hq] at w2
      · exact f.here r (x := .r (.d d)) (v := v) rd w2
      · exact f.here r (x := .r (.d e)) (v := u) re w2
    · exact w.elim
  · exact w.elim
theorem f_max1D (hc : X.calm = true) (hu : X.A.units + 64 < cLine) : FnP X (.builtin "max") fMax1D := by
  refine ⟨_, cr_max1D hc hu, fun xs S W vs m H H0 Q r q w f => ?_⟩
  unfold fMax1D at w
  split at w
  · rename_i x
    obtain ⟨v, rfl, q1⟩ := q.one
    split at w
    · rename_i d e hl es
      obtain ⟨p, us, rfl, h1, h2⟩ := q1.seq r es
      rw [if_pos hl] at h2
      obtain ⟨v, u, rfl, rd, re⟩ := reps_two h1
      refine ⟨p, v, u, d, e, rfl, h2, rd, re, w.1.1, w.1.2.1, w.1.2.2, ?_⟩
      have w2 := w.2
      show Q (if PySem.W.dataLt (py d) (py e) = true then u else v) H
      cases hq : PySem.W.dataLt (py d) (py e) <;> rw [hq] at w2
      · exact f.here r (x := .r (.d d)) (v := v) rd w2
      · exact f.here r (x := .r (.d e)) (v := u) re w2
    · exact w.elim
  · exact w.elim
end
end Z

set_option Elab.async false
set_option linter.all false
set_option maxRecDepth 100000
/-! Z16: exceptions of the program's own classes: raised, let out of a def, caught and kept. -/
namespace L2
open PySem PySem.Spec PyProof.Rows
/-- a caught exception, tracked -/
def XOv (cls : Value) (d : Option Addr) (a : Addr) : HO := .ext fun h => ∃ (oe : Obj), h.get? a = some oe ∧ Zc cls d oe ∧ ∃ vs, oe.data = .fields vs
theorem xov_ok {P : Program} {w : World} {H : Hp} {h : Heap} {a : Addr} {cls : Value} {d : Option Addr} {oe : Obj} {vs : Array Value} (e : h.get? a = some oe) (z : Zc cls d oe) (dd : oe.data = .fields vs) : ObjOk P w H h a (XOv cls d a) :=
  ⟨⟨oe, e, z, vs, dd⟩, ⟨oe, e⟩, fun _ _ ⟨o, q, r⟩ k => ⟨o, k o q, r⟩⟩
/-- 'except x as n': the exception is tracked in the suite -/
def wAsK (K : PySem.W.Frag) (c : Value) (i : Nat) (ts : Addr → Value → Option Addr → TS) (Wout : WX) (D : Ends) : WX := fun cls d σ H =>
  ∃ b, PySem.W.exmOne K cls c = some b ∧ (b = true → ∀ a, H a = none → ts a cls d { nx := fun σ' H' => D.nx (σ'.set i none) H', rt := D.rt, bk := fun σ' H' => D.bk (σ'.set i none) H', ct := fun σ' H' => D.ct (σ'.set i none) H' } (σ.set i (some (.ref a))) (upd H a (XOv cls d a))) ∧
    (b = false → Wout cls d σ H)
section
variable {X : Cx} {pins : List (Addr × Obj)} {σ : St} {H : Hp} {s : Shared}
theorem Inv.suiteK (I : Inv X pins σ H s) (a : Addr) : Inv (X.suite a (X.pn ++ pins)) [] σ H s :=
  ⟨I.ok.suite _ _, I.os, I.bare, I.base, I.loc, I.cell, I.free, I.freeC, fun p hp => I.pin p (by rw [List.append_nil] at hp; exact hp), I.hok, I.len⟩
theorem Inv.unsuiteK {a : Addr} {pn' : List (Addr × Obj)} (I : Inv (X.suite a (X.pn ++ pins)) pn' σ H s) (ok : X.Ok) : Inv X pins σ H s :=
  ⟨ok, I.os, I.bare, I.base, I.loc, I.cell, I.free, I.freeC, fun p hp => I.pin p (List.mem_append_left _ hp), I.hok, I.len⟩
end
section
variable {X : Cx} {x n : Str} {c : Value} {i : Nat} {body suite : List Stmt} {b₀ : Stmt} {np pos pos' : Pos} {tb : WX → TS} {ts : Addr → Value → Option Addr → TS} {Wout : WX}
theorem ps_try_asK (hs : X.stack = X.env :: X.outer) (hf : X.env.frame = some X.env.locals) (hN : X.N.Nodup) (hi : X.N[i]? = some n) (hln : X.env.kindOf n = some .local) (hc : Names X x c) (tk : Takes X Wout)
    (hb : ∀ (W : WX) (pn : List (Addr × Obj)) (xe : Value → Shared → Prop), Takes (X.tr pn xe) W → PassesOwn (model X.prog X.w) X.A X.env xe → PSs (X.tr pn xe) body (tb W))
    (hsu : ∀ (a : Addr) (cls : Value) (d : Option Addr) (pn : List (Addr × Obj)), PSs (X.suite a pn) (b₀ :: suite) (ts a cls d)) :
    PS X (.Try body [.ExceptHandler (some (.Name x np)) (some n) (b₀ :: suite) pos'] [] [] pos) (fun D σ H => tb (wAsK X.K c i ts Wout D) D σ H) := by
  refine ⟨fun pins s σ H D I h => ?_⟩
  have ok := I.ok
  have hfr : X.A.frames = some (X.env :: X.outer) := by rw [ok.frames, hs]
  have hloc : Loc X.env.scope n := .inl hln
  refine wpAny_Try_except ?_
  refine wpAny_mono ((hb (wAsK X.K c i ts Wout D) (X.pn ++ pins) (fun e s₁ => wpAny (model X.prog X.w) X.A (noteFrame e X.env) (fun _ s₂ => wpAny (model X.prog X.w) X.A (setFlight e none) (fun _ s₃ =>
    wpAny (model X.prog X.w) X.A (handleBy e X.env [.ExceptHandler (some (.Name x np)) (some n) (b₀ :: suite) pos']) (SP X pins D) X.xe s₃) X.xe s₂) X.xe s₁) (fun u s' xx => ?_) PassesOwn.looking).run [] s σ H D (I.toTry _) h) (fun f s1 hsp => ?_) (fun e s1 he => he)
  · -- the catch
    obtain ⟨a, B, sI, pins', σ', H', cls, d, rfl, J', nb, up, sky, na, os, ag, b, hb1, hyes, hno⟩ := xx
    have J : Inv X pins σ' H' sI := J'.ofTry ok
    have sky' : Sky B (X.env :: X.outer) a (Zc cls d) X.env.locals s'.heap := by rw [← hs]; exact sky
    show wpAny (model X.prog X.w) X.A (noteFrame (.ref a) X.env) _ _ _
    refine Sky.land Zc.steady hfr hf sky' fun h3 fl3 up3 => ?_
    have J3 : Inv X pins σ' H' { s' with heap := h3 } := J.landed nb fl3.1 (up.trans up3) os ag
    obtain ⟨oe3, vs3, he3, hz3, hd3⟩ := fl3.there
    have notFr : ∀ {h : Heap} {o : Obj} {vs : Array Value}, h.FunFrames B (X.env :: X.outer) → h.get? a = some o → o.data = .fields vs → a ∉ frs (X.env :: X.outer) := fun {h o vs} ff e dd hm => by
      obtain ⟨_, o', e', hnf⟩ := ff.mem hm
      rw [e] at e'; cases e'
      exact hnf _ dd
    have nfr := notFr fl3.2.2.1 he3 hd3
    have nL : a ≠ X.env.locals := fun z => nfr (List.mem_filterMap.mpr ⟨X.env, List.mem_cons_self, by rw [hf, z]⟩)
    have nF : a ∉ X.fs := fun hm => by
      obtain ⟨e, he, q⟩ := List.mem_filterMap.mp hm
      exact nfr (List.mem_filterMap.mpr ⟨e, List.mem_cons_of_mem _ he, q⟩)
    have S3 := J3.suite he3 hd3 na nL nF
    refine wpAny_handleBy_cons (codeAny_handlers_test ?_) (by intro q; cases q)
    have LT : PySem.W.Looks (model X.prog X.w) h3 (typeOf (.ref a)) cls := fun A Q E s k q => wpAny_typeOf_ref (k _ _ he3) (by rw [hz3.1]; exact q)
    have LM := PySem.W.exm_one (M := model X.prog X.w) (J3.kIn) LT hb1
    have test : ∀ {Q : Value → Shared → Prop} {E : Value → Shared → Prop}, Q c { s' with heap := h3 } → wpAny (model X.prog X.w) (X.A.mark (some (.ref a))) (eval (.Name x np) X.env) Q E { s' with heap := h3 } := fun {Q E} q => by
      obtain ⟨hg, hdbg, hm | ⟨hm, hv, hnn⟩⟩ := hc
      · exact ld_glob (X := X.suite a ((a, oe3) :: (X.pn ++ pins))) S3 hg hm q hdbg
      · exact ld_blt (X := X.suite a ((a, oe3) :: (X.pn ++ pins))) S3 hg hm hv q hnn hdbg
    refine test (LM.here ?_)
    cases b with
    | true =>
      refine codeAny_handlers_suite_as ?_
      refine HandSPX.lands_againZ fl3 fun h4 fl4 up4 => ?_
      obtain ⟨oe4, vs4, he4, hz4, hd4⟩ := fl4.there
      -- the heap without the exception
      obtain ⟨G, g1, g2⟩ := restrict h4 fun b => decide (b ≠ a)
      have ga : G.get? a = none := g2 a (decide_eq_false fun z => z rfl)
      have gk : ∀ b o, b ≠ a → h4.get? b = some o → G.get? b = some o := fun b o hb e => by
        rw [g1 b (decide_eq_true hb)]
        exact e
      have gs : ∀ b o, G.get? b = some o → h4.get? b = some o := fun b o e => by
        by_cases hb : b = a
        · rw [hb, ga] at e
          cases e
        · rw [← g1 b (decide_eq_true hb)]
          exact e
      have hBa : B.get? a = none := fl4.2.1
      have hIa : sI.heap.get? a = none := by
        cases e : sI.heap.get? a with
        | none => rfl
        | some o =>
          have := nb a o e (by rw [hs]; exact nfr)
          rw [hBa] at this
          cases this
      have stG : B.StaysIn G := fun b o e => gk b o (fun z => by rw [z, hBa] at e; cases e) (fl4.1 b o e)
      have upG : sI.heap.UpToSlots G := fun b o e hnf => by
        obtain ⟨sl, q⟩ := ((up.trans up3).trans up4) b o e hnf
        exact ⟨sl, gk b _ (fun z => by rw [z, hIa] at e; cases e) q⟩
      have JG : Inv X pins σ' H' { s' with heap := G } := J.landed nb stG upG os ag
      have J4 : Inv X pins σ' (upd H' a (XOv cls d a)) { s' with heap := h4 } := JG.laidN (t' := s'.toks) gs ga na (xov_ok he4 hz4 hd4)
      have S4 := J4.suiteK a
      refine store_ok (X := X.suite a (X.pn ++ pins)) (v := .ref a) S4 hN hi hloc rfl (fun s5 S5 => ?_) (.inr hln)
      refine wpAny_mono ((hsu a cls d (X.pn ++ pins)).run [] s5 _ _ _ S5 (hyes rfl a na)) (fun f s6 hsp => ?_) (fun _ _ z => False.elim z)
      have end_ : ∀ {σ6 : St} {H6 : Hp} {Q : Shared → Prop}, Inv (X.suite a (X.pn ++ pins)) [] σ6 H6 s6 → (∀ s7, Inv X pins (σ6.set i none) H6 s7 → Q s7) →
          wpAny (model X.prog X.w) X.A (do bindName X.env n .none; unbindBehindTheSuite X.env n pos') (fun _ s7 => Q s7) X.xe s6 := fun {σ6 H6 Q} S6 hq => gone_ok (S6.unsuiteK ok) hN hi hln hq
      cases f with
      | next =>
        obtain ⟨σ6, H6, S6, q6⟩ := hsp
        exact end_ S6 fun s7 J7 => ⟨_, _, J7, q6⟩
      | brk =>
        obtain ⟨σ6, H6, S6, q6⟩ := hsp
        exact end_ S6 fun s7 J7 => ⟨_, _, J7, q6⟩
      | cont =>
        obtain ⟨σ6, H6, S6, q6⟩ := hsp
        exact end_ S6 fun s7 J7 => ⟨_, _, J7, q6⟩
      | ret u =>
        obtain ⟨v6, σ6, H6, S6, r6, q6⟩ := hsp
        exact end_ S6 fun s7 J7 => ⟨_, _, _, J7, r6, q6⟩
    | false =>
      show wpAny _ X.A (handleBy (.ref a) X.env []) _ _ _
      refine wpAny_handleBy_nil ?_
      obtain ⟨k1, k2, k3, oe, vs, T, oT, ts', he, hz, hd, h1, hr⟩ := id fl3
      unfold PySem.passOn
      refine wpAny_bind (wpAny_field he hd h1 ?_)
      rw [if_neg (show ¬ ((Value.ref T == Value.none) = true) from by simp)]
      have fin : wpAny (model X.prog X.w) X.A (setFlight (.ref a) X.env.frame) (fun _ s4 => wpAny (model X.prog X.w) X.A (throw (.ref a) : Sem Flow) (SP X pins D) X.xe s4) X.xe { s' with heap := h3 } := by
        rw [hf]
        refine HandSPX.setFlight_upZ fl3 fun h4 hh4 up4 => wpAny_throw (tk _ _ ?_)
        exact ⟨a, B, sI, pins, σ', H', cls, d, rfl, J, nb, (up.trans up3).trans up4, .inr (.inr (by rw [hs]; exact hh4)), na, os, ag, hno rfl⟩
      first
        | exact wpAny_bind (wpAny_pure (wpAny_bind fin))
        | exact wpAny_bind fin
  · cases f with
    | next =>
      obtain ⟨σ', H', J', q⟩ := hsp
      exact wpAny_execs_nil ⟨σ', H', J'.ofTry ok, q⟩
    | brk =>
      obtain ⟨σ', H', J', q⟩ := hsp
      exact ⟨σ', H', J'.ofTry ok, q⟩
    | cont =>
      obtain ⟨σ', H', J', q⟩ := hsp
      exact ⟨σ', H', J'.ofTry ok, q⟩
    | ret u =>
      obtain ⟨v, σ', H', J', r, q⟩ := hsp
      exact ⟨v, σ', H', J'.ofTry ok, r, q⟩
end
/-- isinstance(e, c), e a kept exception of the class at D -/
def rIsK (K : PySem.W.Frag) : List V → Hp → VK → Prop := fun xs H Q => ∃ (a D : Addr) (c : V) (cv : Value) (b : Bool), xs = [.ref a, c] ∧ H a = some (XOv (.ref D) none a) ∧ ExcC K D ∧ (∀ u, RelV c u → u = cv) ∧ PySem.W.kitOne K (.ref D) cv = some b ∧ Q (.bl b) H
theorem call_isK {X : Cx} : CallR X (.builtin "isinstance") (rIsK X.K) := by
  intro pins s σ H xs us Q I r h
  obtain ⟨a, D, c, cv, b, rfl, ha, C, hcv, e, q⟩ := h
  cases r with
  | cons rx rr =>
    cases rr with
    | cons rt rr =>
      cases rr
      cases rx
      have ec := hcv _ rt
      subst ec
      obtain ⟨⟨oe, hget, hz, vs, hv⟩, _, _⟩ := I.hok a _ ha
      have J : PySem.W.InstAt s.heap a oe D none := by
        obtain ⟨oc, od, oda, osl⟩ := oe
        obtain ⟨h1, h2⟩ := hz
        dsimp only at h1 h2 hv
        subst h1 h2 hv
        exact ⟨hget, rfl, rfl, trivial⟩
      exact PySem.W.kia_one (PySem.W.handS_kitx_exc C.hg C.hk C.hs C.hd C.ha C.hn C.ht C.hm) I.kIn J e (fun z => nomatch z) fun tk => ⟨.bl b, H, I.kept (t' := tk) fun _ _ z => z, rfl, q⟩
end L2

set_option Elab.async false
set_option linter.all false
set_option maxRecDepth 100000
/-! Z27: defs over the whole store, that may raise: statements, expressions, calls, try .. except T as n: k = n; isinstance of what was kept. -/
namespace Z
open PySem PySem.Spec PyProof.Rows L2 RZ
/-- what stands behind a statement that may raise -/
structure EX where
  n : En
  ex : Str → Rho → Sto → Prop
abbrev PX1 := EX → Rho → Sto → Prop
abbrev veMro : List Value := [.type "ValueError", .type "Exception", .type "BaseException", .type "object"]
def ClsN (K : PySem.W.Frag) (x : Str) (C : Addr) : Prop := PySem.W.nsIn K mainGlobals x = some (some (.ref C))
theorem ClsN.uniq {K : PySem.W.Frag} {x : Str} {C D : Addr} (h : ClsN K x C) (k : ClsN K x D) : C = D := by
  unfold ClsN at h k
  rw [h] at k
  cases k; rfl
/-- an own class of exceptions -/
structure ClsX (K : PySem.W.Frag) (mg : Str → Option Value) (x : Str) : Prop where
  ex : ∃ C, ClsN K x C ∧ mg x = some (.ref C) ∧ PySem.W.keepIn K (.ref C) = true ∧ PySem.W.excIn K C veMro "ValueError.__new__" = true ∧ PySem.W.subIn K (.ref C) (.type "BaseException") = some true ∧ PySem.W.typeIn K (.ref C) = some (.type "type") ∧ ExcC K C
/-- the table of what is a what -/
def subX (x c : Str) : Bool := x == c || c == "TurnError" || c == "ValueError"
/-- isinstance(e, c), e of a known class, c an own class -/
structure XI (K : PySem.W.Frag) (mg : Str → Option Value) (known : List Str) (c : Str) : Prop where
  ex : ∃ D, mg c = some (.ref D) ∧ ∀ x ∈ known, ∃ C, ClsN K x C ∧ ExcC K C ∧ PySem.W.kitOne K (.ref C) (.ref D) = some (subX x c)
/-- .. of ValueError -/
structure XV (K : PySem.W.Frag) (known : List Str) : Prop where
  ex : ∀ x ∈ known, ∃ C, ClsN K x C ∧ ExcC K C ∧ PySem.W.kitOne K (.ref C) (.type "ValueError") = some true
/-- the clause of the class c takes all known -/
structure XC (K : PySem.W.Frag) (mg : Str → Option Value) (known : List Str) (c : Str) : Prop where
  ex : ∃ D, mg c = some (.ref D) ∧ ∀ x ∈ known, ∃ C, ClsN K x C ∧ PySem.W.exmOne K (.ref C) (.ref D) = some true
theorem kit_own {K : PySem.W.Frag} {A C : Addr} {b : Bool} (p : PySem.W.isClsIn K C = true) (t : PySem.W.typeIn K (.ref C) = some (.type "type")) (r : PySem.W.subIn K (.ref A) (.ref A) = some true) (s : PySem.W.subIn K (.ref A) (.ref C) = some b) :
    PySem.W.kitOne K (.ref A) (.ref C) = some b := by
  have e2 : ((PySem.W.clsIn K C).isSome && PySem.W.typeIn K (.ref C) == some (.type "type")) = true := by
    have h2' : (PySem.W.clsIn K C).isSome = true := p
    rw [h2', t] <;> rfl
  unfold PySem.W.kitOne
  split
  · rename_i h
    have : A = C := by simpa using h
    subst this
    rw [r] at s
    exact s
  · show (if ((PySem.W.clsIn K C).isSome && PySem.W.typeIn K (.ref C) == some (.type "type")) = true then PySem.W.subIn K (.ref A) (.ref C) else none) = some b
    rw [if_pos e2]
    exact s
theorem kit_ve {K : PySem.W.Frag} {A : Addr} (s : PySem.W.subIn K (.ref A) (.type "ValueError") = some true) : PySem.W.kitOne K (.ref A) (.type "ValueError") = some true := by
  unfold PySem.W.kitOne
  split
  · rfl
  · show (if PySem.W.kitMeta "ValueError" = true then PySem.W.subIn K (.ref A) (.type "ValueError") else none) = some true
    rw [if_pos (by decide +kernel)]
    exact s
theorem exm_own {K : PySem.W.Frag} {A C : Addr} {b : Bool} (h1 : PySem.W.subIn K (.ref C) (.type "BaseException") = some true) (p : PySem.W.isClsIn K C = true) (t : PySem.W.typeIn K (.ref C) = some (.type "type")) (s : PySem.W.subIn K (.ref A) (.ref C) = some b) :
    PySem.W.exmOne K (.ref A) (.ref C) = some b := by
  have e1 : (PySem.W.subIn K (.ref C) (.type "BaseException") == some true) = true := by rw [h1] <;> rfl
  have e2 : ((PySem.W.clsIn K C).isSome && PySem.W.typeIn K (.ref C) == some (.type "type")) = true := by
    have h2' : (PySem.W.clsIn K C).isSome = true := p
    rw [h2', t] <;> rfl
  show (if (PySem.W.subIn K (.ref C) (.type "BaseException") == some true) = true then (if ((PySem.W.clsIn K C).isSome && PySem.W.typeIn K (.ref C) == some (.type "type")) = true then PySem.W.subIn K (.ref A) (.ref C) else none) else none) = some b
  rw [if_pos e1, if_pos e2]
  exact s
section
variable {K : PySem.W.Frag}
def FinX (K : PySem.W.Frag) (m : List Addr) (H : Hp) (ex : Str → Rho → Sto → Prop) (Wx : WX) : Prop :=
  ∀ x C r' S' m' H' s', ex x r' S' → ClsN K x C → Grow m H m' H' → RepE K m' H' r' s' → RepS K m' H' S' → Wx (.ref C) none s' H'
theorem FinX.later {m m1 : List Addr} {H H1 : Hp} {ex : Str → Rho → Sto → Prop} {Wx : WX} (f : FinX K m H ex Wx) (g : Grow m H m1 H1) : FinX K m1 H1 ex Wx :=
  fun x C r' S' m' H' s' h c g' e q => f x C r' S' m' H' s' h c (g.trans g') e q
def upX (K : PySem.W.Frag) (Wx : WX) (w : PX1) : TS := fun D s H => ∃ m r S N, RepE K m H r s ∧ RepS K m H S ∧ w N r S ∧ Fins K m H N.n D ∧ FinX K m H N.ex Wx
structure WX1 (X : Cx) (Wx : WX) (st : Stmt) (w : PX1) : Prop where
  ps : PS X st (upX X.K Wx w)
structure WXs (X : Cx) (Wx : WX) (sts : List Stmt) (w : PX1) : Prop where
  pss : PSs X sts (upX X.K Wx w)
/-- an expression that may raise -/
abbrev PXK := Str → Sto → Prop
abbrev PEX := Rho → Sto → PK1 → PXK → Prop
def FinE (K : PySem.W.Frag) (m : List Addr) (H : Hp) (XW : PXK) (Wx : WX) (s : L2.St) : Prop :=
  ∀ x C S' m' H', XW x S' → ClsN K x C → Grow m H m' H' → RepS K m' H' S' → Wx (.ref C) none s H'
theorem FinE.later {m m1 : List Addr} {H H1 : Hp} {XW : PXK} {Wx : WX} {s : L2.St} (f : FinE K m H XW Wx s) (g : Grow m H m1 H1) : FinE K m1 H1 XW Wx s :=
  fun x C S' m' H' h c g' r => f x C S' m' H' h c (g.trans g') r
def upEX (K : PySem.W.Frag) (Wx : WX) (w : PEX) : TE := fun s H Q => ∃ m r S W XW, RepE K m H r s ∧ RepS K m H S ∧ w r S W XW ∧ Fin K m H W Q ∧ FinE K m H XW Wx s
structure WEX (X : Cx) (Wx : WX) (e : Expr) (w : PEX) : Prop where
  pe : PE X e (upEX X.K Wx w)
/-- a row of expressions that may raise -/
abbrev PAX := Rho → Sto → (List SV → Sto → Prop) → PXK → Prop
def upAX (K : PySem.W.Frag) (Wx : WX) (w : PAX) : TA := fun s H Q => ∃ m r S W XW, RepE K m H r s ∧ RepS K m H S ∧ w r S W XW ∧ (∀ xs S' vs m' H', W xs S' → Grow m H m' H' → RepS K m' H' S' → RepVs K m' H' H xs vs → Q vs H') ∧ FinE K m H XW Wx s
structure WAX (X : Cx) (Wx : WX) (es : List Expr) (w : PAX) : Prop where
  pa : PA X es (upAX X.K Wx w)
end
section
variable {X : Cx} {Wx : WX} {st : Stmt} {rest : List Stmt} {e : Expr} {es : List Expr} {pos : Pos}
/-! ### statements -/
abbrev xL (w : PS1) : PX1 := fun N r S => w N.n r S
theorem xs_l {w : PS1} (h : WS X st w) : WX1 X Wx st (xL w) := ⟨psImp h.ps fun D s H ⟨m, r, S, N, hE, hS, hw, hf, _⟩ => ⟨m, r, S, N.n, hE, hS, hw, hf⟩⟩
abbrev xNext : PX1 := fun N r S => N.n.nx r S
theorem xs_nil : WXs X Wx [] xNext := ⟨pssImp pss_nil fun D s H ⟨m, r, S, N, hE, hS, hw, hf, _⟩ => hf.nx r S s m H hw Grow.refl hE hS⟩
abbrev xSeq (t u : PX1) : PX1 := fun N r S => t { N with n := { N.n with nx := u N } } r S
theorem xs_cons {t u : PX1} (h1 : WX1 X Wx st t) (h2 : WXs X Wx rest u) : WXs X Wx (st :: rest) (xSeq t u) :=
  ⟨pssImp (pss_cons h1.ps h2.pss) fun D s H ⟨m, r, S, N, hE, hS, hw, hf, hx⟩ => ⟨m, r, S, _, hE, hS, hw, ⟨fun r' S' s' m' H' n g e q => ⟨m', r', S', N, e, q, n, hf.later g, hx.later g⟩, hf.rt, hf.bk, hf.ct⟩, hx⟩⟩
theorem xs_one {t : PX1} (h1 : WX1 X Wx st t) : WXs X Wx [st] t := ⟨pss_one h1.ps⟩
abbrev xIf (c : PT1) (t u : PX1) : PX1 := fun N r S => c r S fun b S1 => if b = true then t N r S1 else u N r S1
theorem xs_if {c : Expr} {tc : PT1} {t u : PX1} {p q : List Stmt} (hc : WT X c tc) (ha : WXs X Wx p t) (hb : WXs X Wx q u) : WX1 X Wx (.If c p q pos) (xIf tc t u) := ⟨psImp (ps_if hc.pt ha.pss hb.pss) fun D s H ⟨m, r, S, N, hE, hS, hw, hf, hx⟩ => ⟨m, r, S, _, hE, hS, hw, fun b S1 m1 H1 h1 g1 r1 => by
  cases b with
  | true => exact ⟨m1, r, S1, N, hE.grow g1, r1, h1, hf.later g1, hx.later g1⟩
  | false => exact ⟨m1, r, S1, N, hE.grow g1, r1, h1, hf.later g1, hx.later g1⟩⟩⟩
/-- raise X("..") -/
abbrev xRaise (x : Str) : PX1 := fun N r S => N.ex x r S
theorem xs_raise {x m : Str} {j : Nat} {p p2 p3 : Pos} (hc : X.calm = true) (tk : Takes X Wx) (c : ClsX X.K X.mg x) (hg : Gl X x) (hdb : (x == ("__debug__" : Str)) = false := by decide) :
    WX1 X Wx (.Raise (some (.Call (.Name x p) [.Constant (.str m) j p2] [] p3)) none pos) (xRaise x) := by
  obtain ⟨C, cN, gC, kC, xC, bC, tC, eC⟩ := c.ex
  exact ⟨psImp (ps_raise hc tk (pmk_own PySem.F.excBase_ValueError xC gC kC (raises_own bC tC) hg hdb)) fun D s H ⟨m, r, S, N, hE, hS, hw, hf, hx⟩ => hx x C r S m H s hw cN Grow.refl hE hS⟩
/-- f(..) as a statement -/
abbrev xDrop (w : PEX) : PX1 := fun N r S => w r S (fun _ S1 => N.n.nx r S1) (fun x S1 => N.ex x r S1)
theorem xs_drop {w : PEX} (h : WEX X Wx e w) (hs : swapsWith e none pos.line X.env = pure false := by rfl) : WX1 X Wx (.Expr e pos) (xDrop w) := ⟨psImp (ps_expr h.pe hs) fun D s H ⟨m, r, S, N, hE, hS, hw, hf, hx⟩ =>
  ⟨m, r, S, _, _, hE, hS, hw, fun x S1 v m1 H1 h1 g1 r1 q1 => hf.nx r S1 s m1 H1 h1 g1 (hE.grow g1) r1, fun x C S1 m1 H1 h1 c g1 r1 => hx x C r S1 m1 H1 s h1 c g1 (hE.grow g1) r1⟩⟩
/-- y = f(..) -/
abbrev xSet (i : Nat) (w : PEX) : PX1 := fun N r S => w r S (fun x S1 => bindV x S1 fun y S2 => N.n.nx (r.set i (some y)) S2) (fun x S1 => N.ex x r S1)
theorem xs_set {w : PEX} {i : Nat} {x : Str} {pos' : Pos} (hN : X.N.Nodup) (hi : X.N[i]? = some x) (hx : Loc X.env.scope x) (he : WEX X Wx e w) (hs : swapsWith e (some (.Name x pos')) pos.line X.env = pure false := by rfl) (hf : X.fn x = true ∨ X.env.scope.names.lookup x = some .local := by first | exact .inl rfl | exact .inr rfl | assumption) :
    WX1 X Wx (.Assign [.Name x pos'] e pos) (xSet i w) := ⟨psImp (ps_set hN hi hx he.pe hs hf) fun D s H ⟨m, r, S, N, hE, hS, hw, hff, hxx⟩ => by
  refine ⟨m, r, S, _, _, hE, hS, hw, fun x S1 v m1 H1 h1 g1 r1 q1 => ?_, fun x C S1 m1 H1 h1 c g1 r1 => hxx x C r S1 m1 H1 s h1 c g1 (hE.grow g1) r1⟩
  obtain ⟨y, S2, m2, w2, g2, r2, q2, _⟩ := bindV_ok g1 r1 q1 h1
  exact hff.nx _ S2 _ m2 H1 w2 g2 ((hE.grow g2).set q2) r2⟩
/-- return f(..) -/
abbrev xRet (w : PEX) : PX1 := fun N r S => w r S (fun x S1 => bindV x S1 N.n.rt) (fun x S1 => N.ex x r S1)
theorem xs_ret {w : PEX} (h : WEX X Wx e w) : WX1 X Wx (.Return (some e) pos) (xRet w) := ⟨psImp (ps_ret h.pe) fun D s H ⟨m, r, S, N, hE, hS, hw, hf, hxx⟩ => ⟨m, r, S, _, _, hE, hS, hw, fun x S1 v m1 H1 h1 g1 r1 q1 => (by
  obtain ⟨y, S2, m2, w2, g2, r2, q2, _⟩ := bindV_ok g1 r1 q1 h1
  exact hf.rt y S2 v m2 H1 w2 g2 r2 q2), fun x C S1 m1 H1 h1 c g1 r1 => hxx x C r S1 m1 H1 s h1 c g1 (hE.grow g1) r1⟩⟩
/-! ### expressions -/
/-- an expression that can't raise -/
abbrev xE (w : PE1) : PEX := fun r S W _ => w r S W
theorem wex_l {w : PE1} (h : WE X e w) : WEX X Wx e (xE w) := ⟨peImp h.pe fun s H Q ⟨m, r, S, W, XW, hE, hS, hw, hf, _⟩ => ⟨m, r, S, W, hE, hS, hw, hf⟩⟩
abbrev xaL (w : PA1) : PAX := fun r S W _ => w r S W
theorem wax_l {w : PA1} (h : WA X es w) : WAX X Wx es (xaL w) := ⟨paImp h.pa fun s H Q ⟨m, r, S, W, XW, hE, hS, hw, hf, _⟩ => ⟨m, r, S, W, hE, hS, hw, hf⟩⟩
abbrev xaCons (wa : PEX) (ws : PAX) : PAX := fun r S W XW => wa r S (fun x S1 => ws r S1 (fun xs S2 => W (x :: xs) S2) XW) XW
theorem wax_cons {wa : PEX} {was : PAX} (ha : WEX X Wx e wa) (hr : WAX X Wx es was) (hs : starEach (e :: es) X.env = (false, eval e X.env) :: starEach es X.env := by rfl) : WAX X Wx (e :: es) (xaCons wa was) :=
  ⟨paImp (pa_cons ha.pe hr.pa hs) fun s H Q ⟨m, r, S, W, XW, hE, hS, hw, hf, hx⟩ => ⟨m, r, S, _, XW, hE, hS, hw, fun x S1 v m1 H1 h1 g1 r1 q1 =>
    ⟨m1, r, S1, _, XW, hE.grow g1, r1, h1, fun xs S2 vs m2 H2 h2 g2 r2 q2 => hf _ S2 _ m2 H2 h2 (g1.trans g2) r2 ⟨v, vs, rfl, q1.grow g2, (by
      have back : ∀ {xs : List SV} {vs : List V}, RepVs X.K m2 H2 H1 xs vs → RepVs X.K m2 H2 H xs vs := by
        intro xs
        induction xs with
        | nil => intro vs h; exact h
        | cons y ys ih => intro vs ⟨v, r, e, h, t⟩; exact ⟨v, r, e, h.back g1 r1, ih t⟩
      exact back q2)⟩, hx.later g1⟩, hx⟩⟩
/-- a tuple, of things some of which may raise -/
abbrev xTup (ws : PAX) : PEX := fun r S W XW => ws r S (fun xs S1 => match dataOf xs with
  | some ds => ds.length ≤ 16777216 ∧ W (.r (.d (.tup ds))) S1
  | none => False) XW
theorem wex_tup {was : PAX} {x1} (h : WAX X Wx es was) : WEX X Wx (.Tuple es x1 pos) (xTup was) :=
  ⟨peImp (pe_tup h.pa) fun s H Q ⟨m, r, S, W, XW, hE, hS, hw, hf, hx⟩ => ⟨m, r, S, _, XW, hE, hS, hw, fun xs S1 vs m1 H1 h1 g1 r1 q1 => (by
    split at h1
    · rename_i ds e
      have q := q1.data e
      exact ⟨by rw [q.len, sizeLine_eq]; exact h1.1, (hf.later g1 r1).tup r1 q h1.2⟩
    · exact h1.elim), hx⟩⟩
/-! ### defs over the whole store -/
abbrev SpW := List R → Sto → (R → Sto → Prop) → PXK → Prop
def liftW (K : PySem.W.Frag) (n : Nat) (sp : SpW) : Sp := fun vs H Q E => ∃ m rs S W XW, rs.length = n ∧ RepRs K m H rs vs ∧ RepS K m H S ∧ sp rs S W XW ∧ (∀ x S' v m' H', W x S' → Grow m H m' H' → RepS K m' H' S' → RepR K m' H' x v → Q v H') ∧
  ∀ x C S' m' H', XW x S' → ClsN K x C → Grow m H m' H' → RepS K m' H' S' → E (.ref C) none H'
structure FnW (P : Program) (w : World) (K : PySem.W.Frag) (mg : Str → Option Value) (base : Heap) (k : Nat) (x : Str) (n : Nat) (sp : SpW) : Prop where
  ok : ∃ f fd ps, ps.length = n ∧ mg x = some (.ref f) ∧ PySem.W.keepIn K (.ref f) = true ∧ Binds K fd ps [] ∧ FnOk P w K mg base (L2.CX P w) k f fd ps (liftW K n sp)
theorem FnW.mono {P : Program} {w : World} {K : PySem.W.Frag} {mg : Str → Option Value} {base : Heap} {j k : Nat} {x : Str} {n : Nat} {sp : SpW} (F : FnW P w K mg base j x n sp) (h : j ≤ k) : FnW P w K mg base k x n sp := by
  obtain ⟨f, fd, ps, h1, h2, h3, h4, h5⟩ := F.ok
  exact ⟨f, fd, ps, h1, h2, h3, h4, h5.mono h⟩
abbrev wxCall (sp : SpW) (n : Nat) (ws : PA1) : PEX := fun r S W XW => ws r S fun xs S1 => bindVs xs S1 fun rs S2 => rs.length = n ∧ sp rs S2 (fun x T => W (.r x) T) XW
theorem liftW_ok {K : PySem.W.Frag} {n : Nat} {sp : SpW} {m0 m : List Addr} {H0 H : Hp} {S : Sto} {rs : List R} {vs : List V} {W : PK1} {XW : PXK} {Q : VK} {Wx : WX} {s : L2.St} (g : Grow m0 H0 m H) (r : RepS K m H S) (q : RepRs K m H rs vs)
    (w : rs.length = n ∧ sp rs S (fun x T => W (.r x) T) XW) (f : Fin K m0 H0 W Q) (fx : FinE K m0 H0 XW Wx s) : liftW K n sp vs H Q (L2.WE Wx s) :=
  ⟨m, rs, S, _, XW, w.1, q, r, w.2, fun x S' v m' H' h g' r' q' => f _ S' v m' H' h (g.trans g') r' q', fun x C S' m' H' h c g' r' => fx x C S' m' H' h c (g.trans g') r'⟩
theorem wex_call {k n : Nat} {x : Str} {p : Pos} {sp : SpW} {was : PA1} (F : FnW X.prog X.w X.K X.mg X.base k x n sp) (hr : Room k X.A) (tk : Takes X Wx) (hg : Gl X x) (ha : WA X (e :: es) was) (hdb : (x == ("__debug__" : Str)) = false := by decide)
    (he : starEach (e :: es) X.env = (false, eval e X.env) :: starEach es X.env := by rfl) (hpl : (backTo pos (starEach es X.env)).any (·.1) = false := by rfl) : WEX X Wx (.Call (.Name x p) (e :: es) [] pos) (wxCall sp n was) := by
  obtain ⟨f, fd, ps, h1, h2, h3, h4, h5⟩ := F.ok
  have hp := pe_callS (E := L2.WE Wx) (p := p) h5 hr hg h2 h3 h4 (fun σ => passAt tk σ) ha.pa hdb he hpl
  refine ⟨⟨fun pins s z H Q I ⟨m, r, S, W, XW, hE, hS, hw, hf, hx⟩ => hp.run pins s z H Q I ⟨m, r, S, _, hE, hS, hw, fun xs S1 vs m1 H1 k1 g1 r1 q1 => ?_⟩⟩⟩
  obtain ⟨rs, S2, m2, w2, g2, r2, q2, _⟩ := bindVs_ok g1 r1 q1 k1
  exact liftW_ok g2 r2 q2 w2 hf hx
/-- .. called where it raises nothing -/
abbrev wwCall (sp : SpW) (n : Nat) (ws : PA1) : PE1 := fun r S W => ws r S fun xs S1 => bindVs xs S1 fun rs S2 => rs.length = n ∧ sp rs S2 (fun x T => W (.r x) T) (fun _ _ => False)
theorem we_wcall {k n : Nat} {x : Str} {p : Pos} {sp : SpW} {was : PA1} (F : FnW X.prog X.w X.K X.mg X.base k x n sp) (hr : Room k X.A) (hg : Gl X x) (ha : WA X (e :: es) was) (hdb : (x == ("__debug__" : Str)) = false := by decide)
    (he : starEach (e :: es) X.env = (false, eval e X.env) :: starEach es X.env := by rfl) (hpl : (backTo pos (starEach es X.env)).any (·.1) = false := by rfl) : WE X (.Call (.Name x p) (e :: es) [] pos) (wwCall sp n was) :=
  ⟨peImp (wex_call (Wx := fun _ _ _ _ => False) F hr takes0 hg ha hdb he hpl).pe fun s H Q ⟨m, r, S, W, hE, hS, hw, hf⟩ => ⟨m, r, S, W, fun _ _ => False, hE, hS, hw, hf, fun _ _ _ _ _ h => h.elim⟩⟩
end
section
variable {P : Program} {w : World} {K : PySem.W.Frag} {mg : Str → Option Value} {base : Heap}
theorem fnw_ok {x : Str} {st : Stmt} {f : Addr} {fd : FuncData} {N ps : List Str} {k : Nat} {wb : PX1} {sp : SpW} (F : Fun K x x st f fd) (sc : FnScope N ps (defScope st))
    (hbody : ∀ (cdv : Value) (A : Around) (outer : List Env) (s : Shared) (H : Hp) (E : XK), Room k (A.deeper (envOfC x (defScope st) s.heap.objs.size f cdv)) →
      Takes (cxOf (L2.CX P w) P w K mg base N x (defScope st) f cdv A outer s H E) (fun cls d _ H => E cls d H) →
      PassesOwn (model P w) (A.deeper (envOfC x (defScope st) s.heap.objs.size f cdv)) (envOfC x (defScope st) s.heap.objs.size f cdv) (cxOf (L2.CX P w) P w K mg base N x (defScope st) f cdv A outer s H E).xe →
      WXs (cxOf (L2.CX P w) P w K mg base N x (defScope st) f cdv A outer s H E) (fun cls d _ H => E cls d H) (defBody st) wb)
    (hread : ∀ rs S W XW, rs.length = ps.length → sp rs S W XW → wb { n := { nx := fun _ S1 => W (.d .non) S1, rt := W }, ex := fun x _ S1 => XW x S1 } (start1 N.length rs) S) : FnOk P w K mg base (L2.CX P w) (k + 1) f fd ps (liftW K ps.length sp) := by
  refine F.okX sc (fun vs H Q E ⟨m, rs, S, W, XW, hl, q, _⟩ => (RepRs.len q).trans hl) fun cdv A outer s H vs Q E hr ⟨m, rs, S, W, XW, hl, q, hS, hsp, hf, hxx⟩ => ⟨_, (hbody cdv A outer s H E hr (takes_of rfl rfl rfl rfl) PassesOwn.leaving).pss, ?_⟩
  refine ⟨m, start1 N.length rs, S, _, ?_, hS, hread rs S W XW hl hsp, ⟨fun r' S' s' m' H' n g e q' => hf _ S' .non m' H' n g q' rfl, fun y S' v m' H' n g q' w' => hf y S' v m' H' n g q' w', fun _ _ _ _ _ n => n.elim, fun _ _ _ _ _ n => n.elim⟩, fun x C r' S' m' H' s' h c g e q' => hxx x C S' m' H' h c g q'⟩
  refine ⟨?_, fun i y e => ?_⟩
  · unfold L2.start Z.start1
    simp [RepRs.len q]
  · unfold start1 at e
    by_cases hi : i < rs.length
    · rw [List.getElem?_append_left (by simpa using hi), List.getElem?_map, Option.map_eq_some_iff] at e
      obtain ⟨z, e1, e2⟩ := e
      cases e2
      obtain ⟨v, h1, h2⟩ := RepRs.get q e1
      refine ⟨v, ?_, h2⟩
      unfold L2.start
      rw [List.getElem?_append_left (by rw [List.length_map, RepRs.len q]; exact hi), List.getElem?_map, h1]
      rfl
    · rw [List.getElem?_append_right (by simpa using hi)] at e
      rw [List.getElem?_replicate] at e
      split at e <;> cases e
theorem DefAt.fnw {x : Str} {st : Stmt} {N ps : List Str} {k : Nat} {wb : PX1} {sp : SpW} (d : DefAt K mg x st ps) (sc : FnScope N ps (defScope st))
    (hbody : ∀ (f : Addr) (cdv : Value) (A : Around) (outer : List Env) (s : Shared) (H : Hp) (E : XK), Room k (A.deeper (envOfC x (defScope st) s.heap.objs.size f cdv)) →
      Takes (cxOf (L2.CX P w) P w K mg base N x (defScope st) f cdv A outer s H E) (fun cls d _ H => E cls d H) →
      PassesOwn (model P w) (A.deeper (envOfC x (defScope st) s.heap.objs.size f cdv)) (envOfC x (defScope st) s.heap.objs.size f cdv) (cxOf (L2.CX P w) P w K mg base N x (defScope st) f cdv A outer s H E).xe →
      WXs (cxOf (L2.CX P w) P w K mg base N x (defScope st) f cdv A outer s H E) (fun cls d _ H => E cls d H) (defBody st) wb)
    (hread : ∀ rs S W XW, rs.length = ps.length → sp rs S W XW → wb { n := { nx := fun _ S1 => W (.d .non) S1, rt := W }, ex := fun x _ S1 => XW x S1 } (start1 N.length rs) S) : FnW P w K mg base (k + 1) x ps.length sp := by
  obtain ⟨f, fd, F, hm, hb⟩ := d.ex
  exact ⟨f, fd, ps, rfl, hm, F.kp, hb, fnw_ok F sc (hbody f) hread⟩
end
theorem take_ok {K : PySem.W.Frag} {m m' : List Addr} {H H' : Hp} {S' : Sto} {k : Nat} (hk : m.length = k) (g : Grow m H m' H') (r : RepS K m' H' S') : ∃ m2, Grow m H m2 H' ∧ RepS K m2 H' (S'.take k) := by
  obtain ⟨y, T, m2, h1, h2, h3, _⟩ := retN_ok (K := K) (x := .d .non) (v := .non) (W := fun _ T => T = S'.take k) hk g r rfl rfl
  subst h1
  exact ⟨m2, h2, h3⟩
section
variable {P : Program} {w : World} {K : PySem.W.Frag} {mg : Str → Option Value} {base : Heap}
/-- .. that drops what is new in the store at its ends -/
theorem DefAt.fnwC {x : Str} {st : Stmt} {N ps : List Str} {k : Nat} {wb : PX1} {sp : SpW} (d : DefAt K mg x st ps) (sc : FnScope N ps (defScope st))
    (hbody : ∀ (f : Addr) (cdv : Value) (A : Around) (outer : List Env) (s : Shared) (H : Hp) (E : XK), Room k (A.deeper (envOfC x (defScope st) s.heap.objs.size f cdv)) →
      Takes (cxOf (L2.CX P w) P w K mg base N x (defScope st) f cdv A outer s H E) (fun cls d _ H => E cls d H) →
      PassesOwn (model P w) (A.deeper (envOfC x (defScope st) s.heap.objs.size f cdv)) (envOfC x (defScope st) s.heap.objs.size f cdv) (cxOf (L2.CX P w) P w K mg base N x (defScope st) f cdv A outer s H E).xe →
      WXs (cxOf (L2.CX P w) P w K mg base N x (defScope st) f cdv A outer s H E) (fun cls d _ H => E cls d H) (defBody st) wb)
    (hread : ∀ rs S W XW, rs.length = ps.length → sp rs S W XW → wb { n := { nx := fun _ S1 => retN S.length W (.d .non) S1, rt := retN S.length W }, ex := fun x _ S1 => XW x (S1.take S.length) } (start1 N.length rs) S) : FnW P w K mg base (k + 1) x ps.length sp := by
  obtain ⟨f, fd, F, hm, hb⟩ := d.ex
  refine ⟨f, fd, ps, rfl, hm, F.kp, hb, ?_⟩
  have G := fnw_ok (wb := wb) (sp := fun rs S W' XW' => ∃ W XW, sp rs S W XW ∧ W' = retN S.length W ∧ XW' = fun x S1 => XW x (S1.take S.length)) F sc (hbody f) fun rs S W' XW' hl ⟨W, XW, h, h1, h2⟩ => by
    subst h1 h2
    exact hread rs S W XW hl h
  refine G.imp fun vs H Q E ⟨m, rs, S, W, XW, hl, q, r, h, hf, hx⟩ => ⟨m, rs, S, _, _, hl, q, r, ⟨W, XW, h, rfl, rfl⟩, fun x S' v m' H' w' g' r' q' => ?_, fun x C S' m' H' w' c g' r' => ?_⟩
  · obtain ⟨y, T, m2, a, b, c, d⟩ := retN_ok r.len g' r' q' w'
    exact hf y T v m2 H' a b c d
  · obtain ⟨m2, a, b⟩ := take_ok r.len g' r'
    exact hx x C _ m2 H' w' c a b
end
theorem xseqI {t u : PX1} {N : EX} {r : Rho} {S : Sto} (h : ∀ P : Rho → Sto → Prop, (∀ r S, u N r S → P r S) → t { N with n := { N.n with nx := P } } r S) : xSeq t u N r S := h (u N) fun _ _ h => h
section
variable {X : Cx} {Wx : WX} {st : Stmt} {rest : List Stmt} {e : Expr} {es : List Expr} {pos : Pos}
/-! ### try: body, except T as n: k = n -/
/-- i the clause's name, k what it is kept in; what the body may raise -/
abbrev wTryK (known : List Str) (i k : Nat) (body : PX1) : PS1 := fun N r S => body { n := N, ex := fun x r' S' => (x ∈ known ∧ i < r'.length ∧ k < r'.length ∧ i ≠ k) ∧ N.nx ((r'.set k (some (.ex x))).set i none) S' } r S
theorem RepE.drop {K : PySem.W.Frag} {m : List Addr} {H : Hp} {r : Rho} {s : L2.St} {i : Nat} (h : RepE K m H r s) : RepE K m H (r.set i none) (s.set i none) := by
  refine ⟨by simp [h.len], fun j x e => ?_⟩
  by_cases hj : i = j
  · subst hj
    by_cases hl : i < r.length
    · rw [List.getElem?_set_self hl] at e; cases e
    · rw [List.getElem?_eq_none (by simpa using hl)] at e; cases e
  · rw [List.getElem?_set_ne hj] at e
    obtain ⟨v, h1, h2⟩ := h.at_ j x e
    exact ⟨v, by rw [List.getElem?_set_ne hj]; exact h1, h2⟩
theorem RepE.drop1 {K : PySem.W.Frag} {m : List Addr} {H : Hp} {r : Rho} {s : L2.St} {i : Nat} (h : RepE K m H r s) : RepE K m H (r.set i none) s := by
  refine ⟨by simp [h.len], fun j x e => ?_⟩
  by_cases hj : i = j
  · subst hj
    by_cases hl : i < r.length
    · rw [List.getElem?_set_self hl] at e; cases e
    · rw [List.getElem?_eq_none (by simpa using hl)] at e; cases e
  · rw [List.getElem?_set_ne hj] at e
    exact h.at_ j x e
theorem ws_tryK {T n y : Str} {known : List Str} {i k : Nat} {bd : PX1} {body : List Stmt} {np p1 p2 p3 pos' : Pos} (hs : X.stack = X.env :: X.outer) (hf : X.env.frame = some X.env.locals) (hN : X.N.Nodup) (hi : X.N[i]? = some n) (hk : X.N[k]? = some y)
    (hln : X.env.kindOf n = some .local) (hly : Loc X.env.scope y) (hT : Gl X T) (hcat : XC X.K X.mg known T)
    (hb : ∀ (W : WX) (pn : List (Addr × Obj)) (xe : Value → Shared → Prop), Takes (X.tr pn xe) W → PassesOwn (model X.prog X.w) X.A X.env xe → WXs (X.tr pn xe) W body bd)
    (hsw : swapsWith (.Name n p2) (some (.Name y p1)) p3.line X.env = pure false := by rfl) (hfn : X.fn y = true ∨ X.env.scope.names.lookup y = some .local := by first | exact .inl rfl | exact .inr rfl | assumption)
    (hd : (T == ("__debug__" : Str)) = false := by decide) (hnd : (n == ("__debug__" : Str)) = false := by decide) (hnc : (n == ("__classdict__" : Str)) = false := by decide) :
    WS X (.Try body [.ExceptHandler (some (.Name T np)) (some n) [.Assign [.Name y p1] (.Name n p2) p3] pos'] [] [] pos) (wTryK known i k bd) := by
  obtain ⟨D, hmT, hcat⟩ := hcat.ex
  refine ⟨psImp (ps_try_asK (i := i) hs hf hN hi hln ⟨hT, hd, .inl hmT⟩ (takes0 (X := X)) (tb := fun W => upX X.K W bd) (fun W pn xe tk po => (hb W pn xe tk po).pss) (ts := fun a cls d => tAsg (tVar i) (gName k))
    (fun a cls d pn => pss_one (ps_set (X := X.suite a pn) hN hk hly (pe_var (X := X.suite a pn) hi (.inl hln) hnd hnc) hsw hfn))) fun Dn s H ⟨m, r, S, N, hE, hS, hw, hff⟩ => ?_⟩
  refine ⟨m, r, S, _, hE, hS, hw, hff, fun x C r' S' m' H' s' ⟨⟨hx, h1, h2, h3⟩, hn⟩ c g e q => ?_⟩
  obtain ⟨C', c', ec⟩ := hcat x hx
  obtain rfl := c.uniq c'
  refine ⟨true, ec, fun _ a ha => ?_, fun z => nomatch z⟩
  have g2 : Grow m' H' m' (upd H' a (XOv (.ref C) none a)) := Grow.alloc ha
  have li : i < s'.length := by rw [e.len]; exact h1
  refine ⟨.ref a, by rw [List.getElem?_set_self li], ?_⟩
  have rx : RepR X.K m' (upd H' a (XOv (.ref C) none a)) (.ex x) (.ref a) := ⟨a, C, rfl, c, upd_same⟩
  have e2 := (((e.grow g2).set (i := k) rx).drop (i := i))
  refine hff.nx _ _ _ m' _ hn (g.trans g2) ?_ (q.alloc ha)
  refine ⟨by simp [e.len], fun j z ez => ?_⟩
  by_cases hj : i = j
  · subst hj
    by_cases hl : i < (r'.set k (some (.ex x))).length
    · rw [List.getElem?_set_self hl] at ez; cases ez
    · rw [List.getElem?_eq_none (by simpa using hl)] at ez; cases ez
  · obtain ⟨v, q1, q2⟩ := e2.at_ j z ez
    refine ⟨v, ?_, q2⟩
    rw [List.getElem?_set_ne hj] at q1 ⊢
    by_cases hk2 : k = j
    · subst hk2
      rw [List.getElem?_set_self (by simp; rw [e.len]; exact h2)]
      rw [List.getElem?_set_self (by rw [e.len]; exact h2)] at q1
      exact q1
    · rw [List.getElem?_set_ne hk2] at q1 ⊢
      rw [List.getElem?_set_ne hj]
      exact q1
/-! ### isinstance of what was kept -/
abbrev wIsX (known : List Str) (c : Str) (w : PE1) : PE1 := fun r S W => w r S fun y S1 => match y with
  | .r (.ex x) => x ∈ known ∧ W (.r (.d (.bl (subX x c)))) S1
  | _ => False
theorem we_isx1 {c : Str} {known : List Str} {a : Expr} {wa : PE1} {p q : Pos} (hg : Gl X "isinstance") (hm : X.mg "isinstance" = none) (hgc : Gl X c) (hI : XI X.K X.mg known c) (ha : WE X a wa)
    (he : starEach (a :: [.Name c q]) X.env = (false, eval a X.env) :: starEach [.Name c q] X.env := by rfl) (he2 : starEach [.Name c q] X.env = (false, eval (.Name c q) X.env) :: starEach [] X.env := by rfl)
    (hpl : (backTo pos (starEach [.Name c q] X.env)).any (·.1) = false := by rfl) (hd : (c == ("__debug__" : Str)) = false := by decide) : WE X (.Call (.Name "isinstance" p) [a, .Name c q] [] pos) (wIsX known c wa) := by
  obtain ⟨D, hmc, hI⟩ := hI.ex
  refine ⟨peImp (pe_callB call_isK hg hm boot_isinstance (pa_cons ha.pe (pa_cons (pe_glob (v := .ref D) hgc hmc rfl hd) pa_nil he2) he) (by decide) (by decide) he hpl) fun s H Q ⟨m, ρ, S, W, hE, hS, hw, hf⟩ => up1 hE hS hw fun x S1 v m1 H1 k1 g1 r1 q1 => ?_⟩
  split at k1
  · rename_i x
    obtain ⟨a, C, rfl, cN, hx⟩ := q1
    have cN : ClsN X.K x C := cN
    obtain ⟨hkn, w⟩ := k1
    obtain ⟨C1, n1, eC, ki⟩ := hI x hkn
    obtain rfl := cN.uniq n1
    exact ⟨a, C, .ref D, .ref D, subX x c, rfl, hx, eC, fun u hu => hu, ki, (hf.later g1 r1).here r1 (x := svb _) rfl w⟩
  · exact k1.elim
theorem we_isxb {known : List Str} {a : Expr} {wa : PE1} {p q : Pos} (hg : Gl X "isinstance") (hm : X.mg "isinstance" = none) (hgc : Gl X "ValueError") (hmc : X.mg "ValueError" = none) (hI : XV X.K known) (ha : WE X a wa)
    (he : starEach (a :: [.Name "ValueError" q]) X.env = (false, eval a X.env) :: starEach [.Name "ValueError" q] X.env := by rfl) (he2 : starEach [.Name "ValueError" q] X.env = (false, eval (.Name "ValueError" q) X.env) :: starEach [] X.env := by rfl)
    (hpl : (backTo pos (starEach [.Name "ValueError" q] X.env)).any (·.1) = false := by rfl) : WE X (.Call (.Name "isinstance" p) [a, .Name "ValueError" q] [] pos) (wIsX known "ValueError" wa) := by
  refine ⟨peImp (pe_callB call_isK hg hm boot_isinstance (pa_cons ha.pe (pa_cons (pe_bltn (v := .ty "ValueError") hgc hmc (by decide +kernel) rfl) pa_nil he2) he) (by decide) (by decide) he hpl) fun s H Q ⟨m, ρ, S, W, hE, hS, hw, hf⟩ => up1 hE hS hw fun x S1 v m1 H1 k1 g1 r1 q1 => ?_⟩
  split at k1
  · rename_i x
    obtain ⟨a, C, rfl, cN, hx⟩ := q1
    have cN : ClsN X.K x C := cN
    obtain ⟨hkn, w⟩ := k1
    obtain ⟨C1, n1, eC, ki⟩ := hI.ex x hkn
    obtain rfl := cN.uniq n1
    have e : subX x "ValueError" = true := by
      unfold subX
      simp
    rw [e] at w
    exact ⟨a, C, .ty "ValueError", .type "ValueError", true, rfl, hx, eC, fun u hu => hu, ki, (hf.later g1 r1).here r1 (x := svb _) rfl w⟩
  · exact k1.elim
/-- a row of names of own classes -/
structure NmC (X : Cx) (es : List Expr) (cs : List Str) : Prop where
  pa : ∃ Ds : List Addr, Ds.length = cs.length ∧ (∀ (i : Nat) c, cs[i]? = some c → ∃ D, Ds[i]? = some D ∧ X.mg c = some (.ref D)) ∧ PA X es (fun _ H Q => Q (Ds.map V.ref) H)
theorem nmc_nil : NmC X [] [] := ⟨[], rfl, fun i c e => by simp at e, ⟨fun pos pins s σ H Q I h => pa_nil.run pos pins s σ H Q I h⟩⟩
theorem nmc_cons {c : Str} {q : Pos} {cs : List Str} {D : Addr} (hgc : Gl X c) (hmc : X.mg c = some (.ref D)) (h : NmC X es cs) (hd : (c == ("__debug__" : Str)) = false := by decide)
    (he : starEach (.Name c q :: es) X.env = (false, eval (.Name c q) X.env) :: starEach es X.env := by rfl) : NmC X (.Name c q :: es) (c :: cs) := by
  obtain ⟨Ds, h1, h2, h3⟩ := h.pa
  refine ⟨D :: Ds, by simp [h1], fun i c' e => ?_, paImp (pa_cons (pe_glob (v := .ref D) hgc hmc rfl hd) h3 he) fun s H Q q => q⟩
  cases i with
  | zero => simp at e; subst e; exact ⟨D, rfl, hmc⟩
  | succ i => simpa using h2 i c' (by simpa using e)
theorem nmc_consX {known : List Str} {c : Str} {q : Pos} {cs : List Str} (hgc : Gl X c) (hI : XI X.K X.mg known c) (h : NmC X es cs) (hd : (c == ("__debug__" : Str)) = false := by decide)
    (he : starEach (.Name c q :: es) X.env = (false, eval (.Name c q) X.env) :: starEach es X.env := by rfl) : NmC X (.Name c q :: es) (c :: cs) := by
  obtain ⟨D, hmc, _⟩ := hI.ex
  exact nmc_cons hgc hmc h hd he
end
end Z
namespace L2
open PySem PySem.Spec PyProof.Rows
/-- isinstance(e, (c, ..)), e a kept exception of the class at D -/
def rIsKT (K : PySem.W.Frag) : List V → Hp → VK → Prop := fun xs H Q => ∃ (a D tp : Addr) (Ds : List Addr) (b : Bool), xs = [.ref a, .ref tp] ∧ H a = some (XOv (.ref D) none a) ∧ ExcC K D ∧ H tp = some (.tup (Ds.map V.ref)) ∧ PySem.W.kitAny K (.ref D) (Ds.map Value.ref) = some b ∧ Q (.bl b) H
theorem vals_refsD : ∀ {Ds : List Addr} {us : List Value}, Vals (Ds.map V.ref) us → us = Ds.map Value.ref
  | [], _, h => by cases h; rfl
  | D :: Ds, _, h => by
    cases h with
    | cons h t =>
      cases (show _ = Value.ref D from h)
      rw [vals_refsD t]; rfl
theorem call_isKT {X : Cx} : CallR X (.builtin "isinstance") (rIsKT X.K) := by
  intro pins s σ H xs us Q I r h
  obtain ⟨a, D, tp, Ds, b, rfl, ha, C, htp, e, q⟩ := h
  cases r with
  | cons rx rr =>
    cases rr with
    | cons rt rr =>
      cases rr
      cases rx
      cases rt
      obtain ⟨⟨oe, hget, hz, vs, hv⟩, _, _⟩ := I.hok a _ ha
      have J : PySem.W.InstAt s.heap a oe D none := by
        obtain ⟨oc, od, oda, osl⟩ := oe
        obtain ⟨h1, h2⟩ := hz
        dsimp only at h1 h2 hv
        subst h1 h2 hv
        exact ⟨hget, rfl, rfl, trivial⟩
      obtain ⟨z, its, rv, o, h1, h2, n, h3⟩ := (show ObjOk X.prog X.w H s.heap tp (.tup (Ds.map V.ref)) from I.hok tp _ htp)
      rw [vals_refsD rv] at h3
      obtain ⟨oc, od, oda, osl⟩ := o
      dsimp only at h2 h3
      subst h2 h3
      exact PySem.W.kia_tup (PySem.W.handS_kitx_exc C.hg C.hk C.hs C.hd C.ha C.hn C.ht C.hm) I.kIn J h1 e (fun z => nomatch z) fun tk => ⟨.bl b, H, I.kept (t' := tk) fun _ _ z => z, rfl, q⟩
end L2
namespace Z
open PySem PySem.Spec PyProof.Rows L2 RZ
section
variable {X : Cx} {Wx : WX} {st : Stmt} {rest : List Stmt} {e : Expr} {es : List Expr} {pos : Pos}
abbrev wIsXT (known : List Str) (cs : List Str) (w : PE1) : PE1 := fun r S W => w r S fun y S1 => match y with
  | .r (.ex x) => x ∈ known ∧ W (.r (.d (.bl (cs.any fun c => subX x c)))) S1
  | _ => False
theorem kit_any {K : PySem.W.Frag} {mg : Str → Option Value} {known : List Str} {x : Str} {C : Addr} (hx : x ∈ known) (hn : ClsN K x C) : ∀ {cs : List Str} {Ds : List Addr}, (∀ c ∈ cs, XI K mg known c) → Ds.length = cs.length → (∀ (i : Nat) c, cs[i]? = some c → ∃ D, Ds[i]? = some D ∧ mg c = some (.ref D)) →
    PySem.W.kitAny K (.ref C) (Ds.map Value.ref) = some (cs.any fun c => subX x c)
  | [], [], _, _, _ => rfl
  | c :: cs, D :: Ds, hI, hl, h => by
    obtain ⟨D0, m0, hI0⟩ := (hI c (by simp)).ex
    obtain ⟨C1, n1, _, ki⟩ := hI0 x hx
    obtain rfl := hn.uniq n1
    obtain ⟨D1, e1, m1⟩ := h 0 c rfl
    simp at e1; subst e1
    rw [m0] at m1; cases m1
    have ih := kit_any hx hn (cs := cs) (Ds := Ds) (fun c' hc' => hI c' (by simp [hc'])) (by simpa using hl) fun i c' e => by simpa using h (i + 1) c' (by simpa using e)
    rw [List.map_cons, PySem.W.kitAny, ki, List.any_cons]
    cases subX x c with
    | true => rfl
    | false => simpa using ih
theorem we_isxt {cs : List Str} {known : List Str} {a : Expr} {wa : PE1} {x1} {p q : Pos} (hg : Gl X "isinstance") (hm : X.mg "isinstance" = none) (hC : NmC X es cs) (hI : ∀ c ∈ cs, XI X.K X.mg known c) (hE : ∀ x ∈ known, ∃ C, ClsN X.K x C ∧ ExcC X.K C) (hl : cs.length ≤ 1000) (ha : WE X a wa)
    (he : starEach (a :: [.Tuple es x1 q]) X.env = (false, eval a X.env) :: starEach [.Tuple es x1 q] X.env := by rfl) (he2 : starEach [.Tuple es x1 q] X.env = (false, eval (.Tuple es x1 q) X.env) :: starEach [] X.env := by rfl)
    (hpl : (backTo pos (starEach [.Tuple es x1 q] X.env)).any (·.1) = false := by rfl) : WE X (.Call (.Name "isinstance" p) [a, .Tuple es x1 q] [] pos) (wIsXT known cs wa) := by
  obtain ⟨Ds, h1, h2, h3⟩ := hC.pa
  refine ⟨peImp (pe_callB call_isKT hg hm boot_isinstance (pa_cons ha.pe (pa_cons (pe_tup h3) pa_nil he2) he) (by decide) (by decide) he hpl) fun s H Q ⟨m, ρ, S, W, hE', hS, hw, hf⟩ => up1 hE' hS hw fun x S1 v m1 H1 k1 g1 r1 q1 => ?_⟩
  split at k1
  · rename_i x
    obtain ⟨a, C, rfl, cN, hx⟩ := q1
    have cN : ClsN X.K x C := cN
    obtain ⟨hkn, w⟩ := k1
    obtain ⟨C1, n1, eC⟩ := hE x hkn
    obtain rfl := cN.uniq n1
    refine ⟨by rw [List.length_map, h1, sizeLine_eq]; omega, fun tp ht => ?_⟩
    have g2 : Grow m1 H1 m1 (upd H1 tp (.tup (Ds.map V.ref))) := Grow.alloc ht
    refine ⟨a, C, tp, Ds, _, rfl, g2.xt _ _ hx, eC, upd_same, kit_any hkn cN hI h1 h2, ?_⟩
    exact hf _ _ _ m1 _ w (g1.trans g2) (r1.alloc ht) (show RepR _ _ _ _ _ from rfl)
  · exact k1.elim
end
end Z

set_option Elab.async false
set_option linter.all false
set_option maxRecDepth 100000
/-! Z28: o[i] += e on a list of the store. -/
namespace L2
open PySem PySem.Spec PyProof.Rows
def rGetL (K : PySem.W.Frag) : V → V → Hp → VK → Prop := fun o i H Q => ∃ p xs k v, o = .ref p ∧ i = .int k ∧ 0 ≤ k ∧ k < 1000000 ∧ SqL K H p xs ∧ atI xs k = some v ∧ Q v H
theorem get_listL {X : Cx} : PGet X (rGetL X.K) := by
  intro pins s σ H o i ov iv Q I ro ri h
  obtain ⟨p, xs, k, v, rfl, rfl, h0, h9, hq, he, q⟩ := h
  cases ro
  obtain ⟨t, rfl⟩ := ri
  obtain ⟨its, r, pl, hz⟩ := I.list hq
  obtain ⟨j, h1, h2, h3, h4, h5⟩ := atI_get he
  obtain ⟨w, ew, rw'⟩ := r.get h2
  have hl := r.length
  have hj : k.toNat = j := by
    rw [seqIndex_of h0 h5] at h1
    exact Option.some.inj h1
  exact wpAny_getItem_list pl.isList h0 (by omega) (by rw [hj]; simpa using ew) ⟨v, H, I, rw', q⟩
end L2
namespace Z
open PySem PySem.Spec PyProof.Rows L2 RZ
section
variable {X : Cx} {e : Expr} {we wi : PE1} {pos p2 : Pos}
/-- o[i] += e, ints of a list of the store -/
abbrev wAugI (wo wi we : PE1) : PS1 := fun N r S => wo r S fun y S1 => wi r S1 fun z S2 => match y, z with
  | .r (.loc n), .r (.d (.int k)) => (0 ≤ k ∧ k < 1000000) ∧ isLo S2 n = true ∧ match S2[n]? with
    | some (.lst xs) => match xs[k.toNat]? with
      | some (.int a) => we r S2 fun x S3 => match x with
        | .r (.d (.int b)) => match S3[n]? with
          | some (.lst ys) => ys.length = xs.length ∧ N.nx r (S3.set n (.lst (ys.set k.toNat (.int (a + b)))))
          | _ => False
        | _ => False
      | _ => False
    | _ => False
  | _, _ => False
theorem ws_augI {o i : Expr} {wo : PE1} (ho : WE X o wo) (hi : WE X i wi) (he : WE X e we) (ha : ∀ ov iv new, augStore i ov iv new = (do holding [new, ov, iv] (setItem ov iv new); release [new, ov, iv] []; pure .next) := by intros; rfl) :
    WS X (.AugAssign (.Subscript o i p2) .Add e pos) (wAugI wo wi we) :=
  ⟨psImp (ps_augS ho.pe hi.pe get_listL he.pe ip_add set_list ha) fun D s H ⟨m, r, S, N, hE, hS, hw, hf⟩ => up1 hE hS hw fun y S1 v m1 H1 h1 g1 r1 q1 => up1 (hE.grow g1) r1 h1 fun z S2 u m2 H2 h2 g2 r2 q2 => by
    split at h2
    · rename_i n k
      obtain ⟨⟨b1, b2⟩, hn, h2⟩ := h2
      split at h2
      · rename_i xs e1
        split at h2
        · rename_i a e2
          have q1' := q1.grow g2
          obtain ⟨p, k1, rfl⟩ := q1'
          obtain ⟨p', k1', vs, k2, k3⟩ := r2.at_ n _ e1
          rw [k1] at k1'; cases k1'
          obtain ⟨v0, k4, k5⟩ := RepDs.get k3 e2
          have hlt : k.toNat < vs.length := (List.getElem?_eq_some_iff.mp k4).1
          have at_ : L2.atI vs k = some (.int a) := by
            unfold L2.atI ixN
            rw [if_pos b1, if_pos (by omega)]
            rw [show v0 = V.int a from k5] at k4
            exact k4
          refine ⟨p, vs, k, _, rfl, q2, b1, b2, .inl (.inl k2), at_, ?_⟩
          refine up1 ((hE.grow g1).grow g2) r2 h2 fun x S3 w m3 H3 h3 g3 r3 q3 => ?_
          split at h3
          · rename_i b
            split at h3
            · rename_i ys e3
              obtain ⟨hl, h3⟩ := h3
              refine ⟨a, b, rfl, q3, ?_⟩
              have k1'' := g3.pre n p k1
              obtain ⟨p', k6, us, k7, k8⟩ := r3.at_ n _ e3
              rw [k1''] at k6; cases k6
              refine ⟨p, us, k, k.toNat, rfl, q2, k7, ?_, ?_⟩
              · unfold ixN
                rw [if_pos b1, if_pos (by rw [RepDs.len k8, hl, ← RepDs.len k3]; omega)]
              · have gw := Grow.write (m := m3) (vs' := us.set k.toNat (.int (a + b))) k1'' k7
                exact hf.nx r _ s m3 _ h3 (((g1.trans g2).trans g3).trans gw) ((((hE.grow g1).grow g2).grow g3).grow gw) (r3.write k1'' k7 (k8.set _ (show RepD _ _ (.int (a + b)) _ from rfl)))
            · exact h3.elim
          · exact h3.elim
        · exact h2.elim
      · exact h2.elim
    · exact h2.elim⟩
end
end Z

set_option Elab.async false
set_option linter.all false
set_option maxRecDepth 100000
/-! Z29: lists of any values at known places. -/
namespace Z
open PySem PySem.Spec PyProof.Rows L2 RZ
section
variable {K : PySem.W.Frag} {m m1 : List Addr} {H H0 H1 : Hp} {S S1 : Sto} {a : Addr} {n : Nat} {xs : List R} {W : PK1} {Q : VK}
theorem RepR.any {x : R} {v : V} (h : RepR K [] H x v) : RepR K m H x v := RepR.pre (fun n a e => by simp at e) x v h
theorem RepRs.any : ∀ {xs : List R} {vs : List V}, RepRs K [] H xs vs → RepRs K m H xs vs
  | [], _, h => h
  | x :: xs, _, ⟨v, r, e, h, t⟩ => ⟨v, r, e, h.any, t.any⟩
theorem RepS.la (r : RepS K m H S) (e : S[n]? = some (O.la a xs)) : ∃ vs, m[n]? = some a ∧ H a = some (.lst vs) ∧ RepRs K [] H xs vs := by
  obtain ⟨b, h1, rfl, vs, h2, h3⟩ := r.at_ n _ e
  exact ⟨vs, h1, h2, h3⟩
theorem Grow.la {vs vs' : List V} (hn : m[n]? = some a) (k : H a = some (.lst vs)) : Grow m H m (upd H a (.lst vs')) := Grow.writeO hn k wr_lst
theorem RepRs.conv0 (g : Grow m H m1 H1) {xs : List R} {vs : List V} (h : RepRs K [] H xs vs) : RepRs K [] H1 xs vs := RepRs.via (fun x v h => RepR.grow0 g x v h) xs vs h
theorem RepS.laW (r : RepS K m H S) {vs vs' : List V} {xs' : List R} (hn : m[n]? = some a) (k : H a = some (.lst vs)) (h : RepRs K [] H xs' vs') : RepS K m (upd H a (.lst vs')) (S.set n (.la a xs')) :=
  r.writeO hn k wr_lst ⟨rfl, vs', upd_same, h.conv0 (Grow.la hn k)⟩
theorem noLoc_data : ∀ xs : List D, noLocs (xs.map R.d) = true
  | [] => rfl
  | x :: xs => by simp [noLocs, noLoc, noLoc_data xs]
/-- a new list at a place -/
theorem Fin.la (f : Fin K m H W Q) (r : RepS K m H S) {vs : List V} (h : RepRs K [] H xs vs) (w : ∀ a, W (.r (.ad a)) (S ++ [.la a xs])) : ∀ p, H p = none → Q (.ref p) (upd H p (.lst vs)) := fun p hp =>
  f (.r (.ad p)) _ (.ref p) (m ++ [p]) _ (w p) (Grow.push hp (Grow.alloc hp)) ((r.alloc hp).pushO (r.notmem hp) ⟨rfl, vs, upd_same, h.conv0 (m := []) (m1 := []) (Grow.alloc hp)⟩) rfl
theorem RepRs.free0 {vs : List V} (n : noLocs xs = true) (h : RepRs K m H xs vs) : RepRs K [] H xs vs := RepRs.free xs vs n h
theorem RepDs.rs : ∀ {xs : List D} {vs : List V}, RepDs K H xs vs → RepRs K m H (xs.map R.d) vs
  | [], _, h => h
  | x :: xs, _, ⟨v, r, e, h, t⟩ => ⟨v, r, e, h, RepDs.rs t⟩
theorem RepRs.app : ∀ {xs ys : List R} {vs us : List V}, RepRs K m H xs vs → RepRs K m H ys us → RepRs K m H (xs ++ ys) (vs ++ us)
  | [], _, _, _, h, k => by cases h; exact k
  | x :: xs, _, _, _, ⟨v, r, e, h, t⟩, k => by subst e; exact ⟨v, r ++ _, rfl, h, RepRs.app t k⟩
theorem RepRs.take : ∀ {xs : List R} {vs : List V} (n : Nat), RepRs K m H xs vs → RepRs K m H (xs.take n) (vs.take n)
  | _, _, 0, h => by simp [RepRs]
  | [], _, n + 1, h => by cases h; simp [RepRs]
  | x :: xs, _, n + 1, ⟨v, r, e, h, t⟩ => by subst e; exact ⟨v, r.take n, rfl, h, RepRs.take n t⟩
theorem RepRs.drop : ∀ {xs : List R} {vs : List V} (n : Nat), RepRs K m H xs vs → RepRs K m H (xs.drop n) (vs.drop n)
  | _, _, 0, h => by simpa using h
  | [], _, n + 1, h => by cases h; simp [RepRs]
  | x :: xs, _, n + 1, ⟨v, r, e, h, t⟩ => by subst e; simpa using RepRs.drop n t
theorem RepRs.set : ∀ {xs : List R} {vs : List V} {y : R} {u : V} (n : Nat), RepRs K m H xs vs → RepR K m H y u → RepRs K m H (xs.set n y) (vs.set n u)
  | [], _, _, _, n, h, k => by cases h; simp [RepRs]
  | x :: xs, _, _, _, 0, ⟨v, r, e, h, t⟩, k => by subst e; exact ⟨_, r, rfl, k, t⟩
  | x :: xs, _, _, _, n + 1, ⟨v, r, e, h, t⟩, k => by subst e; exact ⟨v, _, rfl, h, RepRs.set n t k⟩
theorem RepRs.one {x : R} {v : V} (h : RepR K m H x v) : RepRs K m H [x] [v] := ⟨v, [], rfl, h, rfl⟩
theorem RepRs.dropLast {vs : List V} (h : RepRs K m H xs vs) : RepRs K m H xs.dropLast vs.dropLast := by
  rw [List.dropLast_eq_take, List.dropLast_eq_take, RepRs.len h]
  exact RepRs.take _ h
end
/-- an item of a row -/
def ixR (xs : List R) (k : Int) : Option R := if 0 ≤ k then xs[k.toNat]? else if -(xs.length : Int) ≤ k then xs[(k + xs.length).toNat]? else none
theorem RepRs.atI {K : PySem.W.Frag} {m : List Addr} {H : Hp} {xs : List R} {vs : List V} {k : Int} {z : R} (h : RepRs K m H xs vs) (e : ixR xs k = some z) : ∃ v, L2.atI vs k = some v ∧ RepR K m H z v := by
  unfold ixR at e
  unfold L2.atI ixN
  have hl := RepRs.len h
  rw [hl]
  by_cases h0 : 0 ≤ k
  · rw [if_pos h0] at e
    obtain ⟨v, h1, h2⟩ := RepRs.get h e
    have : k.toNat < vs.length := (List.getElem?_eq_some_iff.mp h1).1
    rw [if_pos h0, if_pos (by omega)]
    exact ⟨v, h1, h2⟩
  · rw [if_neg h0] at e
    split at e
    · rename_i h1
      obtain ⟨v, h2, h3⟩ := RepRs.get h e
      rw [if_neg h0, if_pos h1]
      exact ⟨v, h2, h3⟩
    · cases e
section
variable {X : Cx} {e a b : Expr} {es : List Expr} {pos p2 : Pos} {we wa wb wi : PE1} {was : PA1}
/-- [..], of any values, at a place -/
abbrev wLstA (ws : PA1) : PE1 := fun r S W => ws r S fun xs S1 => match rsOf xs with
  | some rs => (rs.length ≤ 16777216 ∧ noLocs rs = true) ∧ ∀ a, W (.r (.ad a)) (S1 ++ [.la a rs])
  | none => False
theorem we_lstA (h : WA X es was) : WE X (.List es pos) (wLstA was) :=
  ⟨peImp (pe_lst h.pa) fun s H Q ⟨m, r, S, W, hE, hS, hw, hf⟩ => ⟨m, r, S, _, hE, hS, hw, fun xs S1 vs m1 H1 h1 g1 r1 q1 => by
    split at h1
    · rename_i rs e
      obtain ⟨⟨h1, h2⟩, h3⟩ := h1
      have q := rsOf_ok q1 e
      exact ⟨by rw [RepRs.len q, sizeLine_eq]; exact h1, (hf.later g1 r1).la r1 (q.free0 h2) h3⟩
    · exact h1.elim⟩⟩
/-- a new list is given a place -/
abbrev wAtL (w : PE1) : PE1 := fun r S W => w r S fun x S1 => match x with
  | .f xs => ∀ a, W (.r (.ad a)) (S1 ++ [.la a (xs.map R.d)])
  | .r y => W (.r y) S1
theorem we_atL (h : WE X e we) : WE X e (wAtL we) := ⟨peImp h.pe fun s H Q ⟨m, r, S, W, hE, hS, hw, hf⟩ => ⟨m, r, S, _, hE, hS, hw, fun x S1 v m1 H1 h1 g1 r1 q1 => by
  cases x with
  | r y => exact hf _ S1 v m1 H1 h1 g1 r1 q1
  | f xs =>
    obtain ⟨a, vs, rfl, k1, k2, k3, k4⟩ := q1
    exact hf _ _ _ (m1 ++ [a]) H1 (h1 a) (Grow.push k3 g1) (r1.pushO k2 ⟨rfl, vs, k1, RepDs.rs k4⟩) rfl⟩⟩
/-- (a, b, ..) = a list at a place -/
abbrev wUnlA (n : Nat) (fs : List R → Rho → Option Rho) (w : PE1) : PS1 := fun N r S => w r S fun x S1 => match x with
  | .r (.ad a) => ∃ (k : Nat) (xs : List R), S1[k]? = some (O.la a xs) ∧ xs.length = n ∧ (match fs xs r with
    | some r' => N.nx r' S1
    | none => False)
  | _ => False
theorem ws_unlA {k n : Nat} {p2 : Pos} {gs : TGs} {vs : List Nat} {fs : List R → Rho → Option Rho} (hc : X.calm = true) (he : WE X e we) (hg : PGs X es gs) (ht : Tgts X.K gs vs fs)
    (hn : (assignEach es X.env).length = n := by rfl) (hst : (assignEach es X.env).findIdx? (·.1) = none := by rfl)
    (hs : swapsWithSole [.Tuple es k p2] e pos.line X.env = pure false := by rfl) (hw : swappedStores [.Tuple es k p2] e X.env = pure none := by rfl)
    (h1 : (assignEach [.Tuple es k p2] X.env).map (·.2) = [assign (.Tuple es k p2) X.env] := by rfl) : WS X (.Assign [.Tuple es k p2] e pos) (wUnlA n fs we) :=
  ⟨psImp (ps_asg he.pe (pg_unl hc hg hn hst) hs hw h1) fun D s H ⟨m, r, S, N, hE, hS, hw, hf⟩ => ⟨m, r, S, _, hE, hS, hw, fun x S1 v m1 H1 h1 g1 r1 q1 => by
    split at h1
    · rename_i a
      obtain ⟨k, xs, e1, hlen, h1⟩ := h1
      split at h1
      · rename_i r' e2
        cases (show v = V.ref a from q1)
        obtain ⟨us, k1, k2, k3⟩ := r1.la e1
        obtain ⟨s', k4, k5, _⟩ := ht.run m1 H1 xs us r r' s k3.any (hE.grow g1) e2
        exact ⟨a, us, rfl, .inl (.inl k2), by rw [RepRs.len k3]; exact hlen, k4 _ (hf.nx r' S1 s' m1 H1 h1 g1 k5 r1)⟩
      · exact h1.elim
    · exact h1.elim⟩⟩
/-- an item -/
abbrev pIxA : P2 := fun x y S W => match x, y with
  | .r (.ad a), .r (.d (.int k)) => ∃ (n : Nat) (xs : List R) (z : R), S[n]? = some (O.la a xs) ∧ ixR xs k = some z ∧ W (.r z) S
  | _, _ => False
theorem we_ixA (ha : WE X a wa) (hb : WE X b wb) (hs : PlainIx b) : WE X (.Subscript a b pos) (wBin pIxA wa wb) := by
  refine ⟨peImp (pe_ix ix_list ha.pe hb.pe hs) fun s H Q ⟨m, ρ, S, W, hE, hS, hw, hf⟩ => up2 hE hS hw fun x y S2 v u m2 H2 z g2 r2 qx qy => ?_⟩
  unfold pIxA at z
  split at z
  · rename_i a k
    obtain ⟨n, xs, y, e1, e2, z⟩ := z
    obtain ⟨vs, k1, k2, k3⟩ := r2.la e1
    obtain ⟨w, h3, h4⟩ := k3.atI e2
    exact ⟨a, vs, k, w, qx, qy, .inl (.inl k2), h3, (hf.later g2 r2).here r2 (x := .r y) h4.any z⟩
  · exact z.elim
/-- how many -/
abbrev fLenA : PF := fun xs S W => match xs with
  | [.r (.ad a)] => ∃ (n : Nat) (ys : List R), S[n]? = some (O.la a ys) ∧ W (.r (.d (.int ys.length))) S
  | _ => False
theorem f_lenA : FnP X (.builtin "len") fLenA := by
  refine ⟨_, call_len_seq, fun xs S W vs m H H0 Q r q w f => ?_⟩
  unfold fLenA at w
  split at w
  · rename_i a
    obtain ⟨n, ys, e, w⟩ := w
    obtain ⟨v, rfl, q1⟩ := q.one
    cases (show v = V.ref a from q1)
    obtain ⟨us, k1, k2, k3⟩ := r.la e
    refine ⟨a, us, rfl, .inl (.inl (.inl k2)), ?_⟩
    rw [RepRs.len k3]
    exact f.here r (x := svi _) rfl w
  · exact w.elim
/-- for x in .. -/
abbrev wItA (w : PE1) : PI1 := fun r S W => w r S fun x S1 => match x with
  | .r (.ad a) => ∃ (n : Nat) (xs : List R), S1[n]? = some (O.la a xs) ∧ W ⟨xs, fun S => S[n]? = some (O.la a xs)⟩ S1
  | _ => False
theorem wi_seqA {tg : Expr} (he : WE X e we) : WI X tg e (wItA we) := ⟨piImp (pi_list he.pe) fun s H R ⟨m, r, S, W, hE, hS, hw, hf⟩ => ⟨m, r, S, _, hE, hS, hw, fun x S1 v m1 H1 h1 g1 r1 q1 => by
  split at h1
  · rename_i a
    obtain ⟨n, xs, e1, h1⟩ := h1
    cases (show v = V.ref a from q1)
    obtain ⟨us, k1, k2, k3⟩ := r1.la e1
    refine ⟨a, rfl, ⟨us, .inl (.inl k2)⟩, hf _ S1 m1 H1 _ h1 g1 r1 (itok_lst fun m H S' g r' hc => ?_)⟩
    obtain ⟨us', j1, j2, j3⟩ := r'.la hc
    exact ⟨us', j3.any, .inl (.inl j2)⟩
  · exact h1.elim⟩⟩
/-- x.append(e) -/
abbrev wAppA (wo we : PE1) : PE1 := fun r S W => wo r S fun x S1 => match x with
  | .r (.ad a) => (∃ (n : Nat) (xs : List R), S1[n]? = some (O.la a xs)) ∧ we r S1 fun y S2 => match y with
    | .r z => noLoc z = true ∧ ∃ (n : Nat) (xs : List R), S2[n]? = some (O.la a xs) ∧ xs.length < 16777216 ∧ W (.r (.d .non)) (S2.set n (.la a (xs ++ [z])))
    | _ => False
  | _ => False
theorem we_appA {o : Expr} {apos : Pos} {wo : PE1} (ho : WE X o wo) (he : WE X e we)
    (h : ∀ {to te : TE}, PE X o to → PE X e te → PE X (.Call (.Attribute o "append" apos) [e] [] pos) (tBM X.K "list" rAppend to (tCons te tNil)) := by
      intro _ _ ho he; exact pe_bm PySem.F.plainAttrs_list PySem.F.slot_list_append PySem.F.type_list_append mt_append ho (pa_cons he pa_nil)) : WE X (.Call (.Attribute o "append" apos) [e] [] pos) (wAppA wo we) :=
  ⟨peImp (h ho.pe he.pe) fun s H Q ⟨m, r, S, W, hE, hS, hw, hf⟩ => up1 hE hS hw fun x S1 v m1 H1 h1 g1 r1 q1 => by
    split at h1
    · rename_i a
      obtain ⟨⟨n, xs, e1⟩, h1⟩ := h1
      cases (show v = V.ref a from q1)
      obtain ⟨vs, k1, k2, k3⟩ := r1.la e1
      refine ⟨.inl ⟨rfl, vs, .inl (.inl k2)⟩, m1, r, S1, _, hE.grow g1, r1, h1, fun y S2 u m2 H2 h2 g2 r2 q2 => ?_⟩
      split at h2
      · rename_i z
        obtain ⟨hz, n', ys, e2, hl, h2⟩ := h2
        obtain ⟨us, j1, j2, j3⟩ := r2.la e2
        refine ⟨a, us, u, rfl, rfl, j2, by rw [RepRs.len j3, sizeLine_eq]; exact hl, ?_⟩
        exact hf _ _ _ m2 _ h2 ((g1.trans g2).trans (Grow.la j1 j2)) (r2.laW j1 j2 (j3.app (RepRs.one (RepR.free z u hz q2)))) (show RepR _ _ _ _ _ from rfl)
      · exact h2.elim
    · exact h1.elim⟩
/-- x.pop() -/
abbrev wPopA (wo : PE1) : PE1 := fun r S W => wo r S fun x S1 => match x with
  | .r (.ad a) => ∃ (n : Nat) (xs : List R) (z : R), S1[n]? = some (O.la a xs) ∧ xs[xs.length - 1]? = some z ∧ W (.r z) (S1.set n (.la a xs.dropLast))
  | _ => False
theorem we_popA {o : Expr} {apos : Pos} {wo : PE1} (ho : WE X o wo)
    (h : ∀ {to : TE}, PE X o to → PE X (.Call (.Attribute o "pop" apos) [] [] pos) (tBM0 X.K "list" rPop to) := by
      intro _ ho; exact pe_bm0 PySem.F.plainAttrs_list PySem.F.slot_list_pop PySem.F.type_list_pop mt_pop ho) : WE X (.Call (.Attribute o "pop" apos) [] [] pos) (wPopA wo) :=
  ⟨peImp (h ho.pe) fun s H Q ⟨m, r, S, W, hE, hS, hw, hf⟩ => up1 hE hS hw fun x S1 v m1 H1 h1 g1 r1 q1 => by
    split at h1
    · rename_i a
      obtain ⟨n, xs, z, e1, e2, h1⟩ := h1
      cases (show v = V.ref a from q1)
      obtain ⟨vs, k1, k2, k3⟩ := r1.la e1
      obtain ⟨w, j1, j2⟩ := RepRs.get k3 e2
      refine ⟨.inl ⟨rfl, vs, .inl (.inl k2)⟩, a, vs, w, rfl, rfl, k2, by rw [RepRs.len k3]; exact j1, ?_⟩
      exact hf _ _ _ m1 _ h1 (g1.trans (Grow.la k1 k2)) (r1.laW k1 k2 k3.dropLast) (show RepR _ _ _ _ _ from (RepR.grow0 (Grow.la k1 k2) z w j2).any)
    · exact h1.elim⟩
/-- x.clear() -/
abbrev wClrA (wo : PE1) : PE1 := fun r S W => wo r S fun x S1 => match x with
  | .r (.ad a) => ∃ (n : Nat) (xs : List R), S1[n]? = some (O.la a xs) ∧ W (.r (.d .non)) (S1.set n (.la a []))
  | _ => False
theorem we_clrA {o : Expr} {apos : Pos} {wo : PE1} (ho : WE X o wo)
    (h : ∀ {to : TE}, PE X o to → PE X (.Call (.Attribute o "clear" apos) [] [] pos) (tBM0 X.K "list" rClear to) := by
      intro _ ho; exact pe_bm0 PySem.F.plainAttrs_list PySem.F.slot_list_clear PySem.F.type_list_clear mt_clear ho) : WE X (.Call (.Attribute o "clear" apos) [] [] pos) (wClrA wo) :=
  ⟨peImp (h ho.pe) fun s H Q ⟨m, r, S, W, hE, hS, hw, hf⟩ => up1 hE hS hw fun x S1 v m1 H1 h1 g1 r1 q1 => by
    split at h1
    · rename_i a
      obtain ⟨n, xs, e1, h1⟩ := h1
      cases (show v = V.ref a from q1)
      obtain ⟨vs, k1, k2, k3⟩ := r1.la e1
      refine ⟨.inl ⟨rfl, vs, .inl (.inl k2)⟩, a, vs, rfl, rfl, k2, ?_⟩
      exact hf _ _ _ m1 _ h1 (g1.trans (Grow.la k1 k2)) (r1.laW k1 k2 rfl) (show RepR _ _ _ _ _ from rfl)
    · exact h1.elim⟩
/-- o[i] = e -/
abbrev wStIA (wo wi we : PE1) : PS1 := fun N r S => we r S fun x S1 => wo r S1 fun o S2 => wi r S2 fun k S3 => match o, k, x with
  | .r (.ad a), .r (.d (.int k)), .r z => noLoc z = true ∧ ∃ (n : Nat) (xs : List R) (j : Nat), S3[n]? = some (O.la a xs) ∧ ixD xs.length k = some j ∧ N.nx r (S3.set n (.la a (xs.set j z)))
  | _, _, _ => False
theorem ws_stIA {o i : Expr} {wo : PE1} (ho : WE X o wo) (hi : WE X i wi) (he : WE X e we) (hs : swapsWithSole [.Subscript o i p2] e pos.line X.env = pure false := by rfl) (hw : swappedStores [.Subscript o i p2] e X.env = pure none := by rfl)
    (h1 : (assignEach [.Subscript o i p2] X.env).map (·.2) = [assign (.Subscript o i p2) X.env] := by rfl)
    (ha : ∀ v, assign (.Subscript o i p2) X.env v = (do
      let ov ← holding [v] (eval o X.env)
      let iv ← holding [v, ov] (eval i X.env)
      standAt p2
      holding [v, ov, iv] (setItem ov iv v)
      release [v, ov, iv] []) := by intro _; rfl) : WS X (.Assign [.Subscript o i p2] e pos) (wStIA wo wi we) :=
  ⟨psImp (ps_asg he.pe (pg_sub ho.pe hi.pe set_list ha) hs hw h1) fun D s H ⟨m, r, S, N, hE, hS, hw, hf⟩ => up1 hE hS hw fun x S1 v m1 H1 h1 g1 r1 q1 => up2 (hE.grow g1) r1 h1 fun y z S3 u w m3 H3 h3 g3 r3 qo qi => by
    split at h3
    · rename_i a k d
      obtain ⟨hz, n, xs, j, e1, e2, h3⟩ := h3
      cases (show u = V.ref a from qo)
      obtain ⟨vs, k1, k2, k3⟩ := r3.la e1
      have qd : RepR X.K m3 H3 d v := RepR.grow g3 d v q1
      refine ⟨a, vs, k, j, rfl, qi, k2, by rw [RepRs.len k3]; exact e2, ?_⟩
      have gw := Grow.la (H := H3) (vs' := vs.set j v) k1 k2
      exact hf.nx r _ s m3 _ h3 ((g1.trans g3).trans gw) (((hE.grow g1).grow g3).grow gw) (r3.laW k1 k2 (k3.set j (RepR.free d v hz qd)))
    · exact h3.elim⟩
end
end Z

set_option Elab.async false
set_option linter.all false
set_option maxRecDepth 100000
/-! Z30: texts: slices, text times number, one sign in a text. -/
namespace Z
open PySem PySem.Spec PyProof.Rows L2 RZ
/-- a text of these code points -/
abbrev Tx (l : List Nat) : Str := ⟨l.toArray⟩
theorem tx_of (x : Str) : ∃ l, x = Tx l := ⟨x.cps.toList, by cases x; rfl⟩
theorem tx_len (l : List Nat) : (Tx l).length = l.length := by
  show (l.toArray).size = l.length
  simp
theorem tx_app (a b : List Nat) : Tx a ++ Tx b = Tx (a ++ b) := by
  show (⟨a.toArray ++ b.toArray⟩ : Str) = ⟨(a ++ b).toArray⟩
  simp
section
variable {X : Cx} {a b : Expr} {pos p2 : Pos} {wa wb : PE1}
/-- x[lo:hi] of a text -/
abbrev wSlT (wa : PE1) (wl wh : Rho → Sto → (Option Int → Sto → Prop) → Prop) : PE1 := fun r S W => wa r S fun x S1 => wl r S1 fun lo S2 => wh r S2 fun hi S3 => match x with
  | .r (.d (.str z)) => z.length ≤ 16777216 ∧ W (.r (.d (.str (Txt.slice z lo hi)))) S3
  | _ => False
theorem we_slT {lo hi : Option Expr} {wl wh : Rho → Sto → (Option Int → Sto → Prop) → Prop} (ha : WE X a wa) (hl : WO X lo wl) (hh : WO X hi wh) : WE X (.Subscript a (.Slice lo hi none p2) pos) (wSlT wa wl wh) := by
  refine ⟨peImp (pe_slice C8.sl_txt ha.pe hl.po hh.po) fun s H Q ⟨m, ρ, S, W, hE, hS, hw, hf⟩ => up1 hE hS hw fun x S1 v m1 H1 h1 g1 r1 q1 => ?_⟩
  refine ⟨m1, ρ, S1, _, hE.grow g1, r1, h1, fun lo S2 m2 H2 h2 g2 r2 => ⟨m2, ρ, S2, _, (hE.grow g1).grow g2, r2, h2, fun hi S3 m3 H3 h3 g3 r3 => ?_⟩⟩
  split at h3
  · rename_i z
    exact ⟨z, q1, by rw [sizeLine_eq]; exact h3.1, ((hf.later ((g1.trans g2).trans g3) r3).here r3 (x := .r (.d (.str _))) rfl h3.2)⟩
  · exact h3.elim
end
/-- text times number -/
abbrev pSMul : P2 := fun x y S W => match x, y with
  | .r (.d (.str z)), .r (.d (.int n)) => (0 ≤ n ∧ n ≤ 1000 ∧ z.length ≤ 1000) ∧ W (.r (.d (.str (Txt.mul z n)))) S
  | _, _ => False
theorem txt_mulOk {z : Str} {n : Int} (h0 : 0 ≤ n) (h1 : n ≤ 1000) (h2 : z.length ≤ 1000) : PySem.MulOk z n := by
  refine ⟨?_, fun h3 _ h4 => ?_, fun _ _ => ?_⟩
  · rw [Bool.or_eq_false_iff, decide_eq_false_iff_not, decide_eq_false_iff_not]
    have : (2 : Int) ^ 63 = 9223372036854775808 := by decide
    omega
  · have e : (2 : Int) ^ 63 - 1 = 9223372036854775807 := by decide
    rw [e] at h4
    have : (9223372036854775807 : Int) / 1000 ≤ 9223372036854775807 / n := by
      refine Int.le_ediv_of_mul_le (by omega) ?_
      have : (9223372036854775807 : Int) / 1000 * n ≤ 9223372036854775807 / 1000 * 1000 := Int.mul_le_mul_of_nonneg_left h1 (by decide)
      omega
    omega
  · have : z.length * n.toNat ≤ 1000 * 1000 := Nat.mul_le_mul h2 (by omega)
    show decide (z.length * n.toNat > sizeLine) = false
    rw [decide_eq_false_iff_not]
    have e : sizeLine = 16777216 := sizeLine_eq
    omega
theorem foldl_cat : ∀ (xs : List (Array Nat)) (a : Array Nat), (xs.foldl (· ++ ·) a).toList = a.toList ++ (xs.map Array.toList).flatten
  | [], a => by simp
  | x :: xs, a => by
    rw [List.foldl_cons, foldl_cat xs, Array.toList_append, List.map_cons, List.flatten_cons, List.append_assoc]
theorem txt_mul (l : List Nat) (n : Int) : Txt.mul (Tx l) n = Tx (List.replicate n.toNat l).flatten := by
  unfold Txt.mul
  have ext : ∀ x y : Str, x.cps.toList = y.cps.toList → x = y := fun x y h => by
    cases x; cases y
    congr 1
    exact Array.toList_inj.mp h
  split
  · rename_i h
    rw [show n.toNat = 0 by omega]
    rfl
  · split
    · rename_i h1 h
      rw [Bool.or_eq_true, beq_iff_eq, beq_iff_eq] at h
      rcases h with rfl | h
      · apply ext
        simp
      · rw [tx_len] at h
        obtain rfl := List.eq_nil_of_length_eq_zero h
        apply ext
        simp
    · apply ext
      rw [foldl_cat]
      simp
theorem o_smul {X : Cx} : OpP X (binaryOp .Mult) pSMul := by
  refine ⟨fun x y H Q => ∃ z n, x = .str z ∧ y = .int n ∧ PySem.MulOk z n ∧ Q (.str (Txt.mul z n)) H, ?_, fun x y S W v u m H H0 Q r qx qy w f => ?_⟩
  · rintro pins s σ H x y v u Q I rx ry ⟨z, n, rfl, rfl, ok, q⟩
    obtain ⟨t, rfl⟩ := rx
    obtain ⟨t', rfl⟩ := ry
    exact SB.mul ok fun t' k => ⟨.str (Txt.mul z n), H, I.tok _, ⟨_, rfl⟩, q⟩
  · unfold pSMul at w
    split at w
    · rename_i z n
      obtain ⟨⟨h0, h1, h2⟩, w⟩ := w
      exact ⟨z, n, qx, qy, txt_mulOk h0 h1 h2, f.here r (x := .r (.d (.str _))) rfl w⟩
    · exact w.elim
end Z

set_option Elab.async false
set_option linter.all false
set_option maxRecDepth 100000
/-! Z21: tuples that hold lists of the store. -/
namespace Z
open PySem PySem.Spec PyProof.Rows L2
/-! ### a comprehension within a comprehension -/
def relab (sc S : Scope) : Scope := { sc with names := sc.names.map fun (n, k) => if (k == .free && S.kind == .function && S.names.lookup n == some .cell) then (n, .cell) else (n, k) }
theorem blkOk_in {N : List Str} {sc0 scope S : Scope} {env : Env} {own : List (Str × Nat)} (hs : env.scope = S) (h : blkC N (relab sc0 S) scope own = true) : BlkOk N (relabel sc0 env) scope own := by
  subst hs
  exact blkOk_by h
section
variable {X : Cx} {e a b : Expr} {es : List Expr} {pos : Pos} {we wa wb : PE1} {was : PA1}
/-- a new list is given its number right here -/
abbrev wNum (w : PE1) : PE1 := fun r S W => w r S fun x S1 => match x with
  | .f xs => W (.r (.loc S1.length)) (S1 ++ [.lst xs])
  | .r y => W (.r y) S1
theorem we_num (h : WE X e we) : WE X e (wNum we) := ⟨peImp h.pe fun s H Q ⟨m, r, S, W, hE, hS, hw, hf⟩ => ⟨m, r, S, _, hE, hS, hw, fun x S1 v m1 H1 h1 g1 r1 q1 => by
  cases x with
  | r y => exact hf _ S1 v m1 H1 h1 g1 r1 q1
  | f xs =>
    obtain ⟨a, vs, rfl, k1, k2, k3, k4⟩ := q1
    exact hf _ _ _ (m1 ++ [a]) H1 h1 (Grow.push k3 g1) (r1.push k2 k1 k4) ⟨a, by rw [← r1.len]; simp, rfl⟩⟩⟩
/-- a tuple of values -/
abbrev wTupR (ws : PA1) : PE1 := fun r S W => ws r S fun xs S1 => match rsOf xs with
  | some rs => rs.length ≤ 16777216 ∧ W (.r (.tr rs)) S1
  | none => False
theorem we_tupR {x1} (h : WA X es was) : WE X (.Tuple es x1 pos) (wTupR was) :=
  ⟨peImp (pe_tup h.pa) fun s H Q ⟨m, r, S, W, hE, hS, hw, hf⟩ => ⟨m, r, S, _, hE, hS, hw, fun xs S1 vs m1 H1 h1 g1 r1 q1 => by
    split at h1
    · rename_i rs e
      have q := rsOf_ok q1 e
      refine ⟨by rw [q.len, sizeLine_eq]; exact h1.1, fun p hp => ?_⟩
      exact (hf.later g1 r1) _ S1 _ m1 _ h1.2 (Grow.alloc hp) (r1.alloc hp) ⟨p, vs, rfl, .inl (.inl upd_same), RepRs.grow (m1 := m1) (Grow.alloc hp) rs vs q⟩
    · exact h1.elim⟩⟩
def getR (xs : List R) (k : Int) : Option R := if 0 ≤ k then xs[k.toNat]? else none
theorem getR_0 {a : R} {xs : List R} : getR (a :: xs) 0 = some a := rfl
theorem getR_1 {a b : R} {xs : List R} : getR (a :: b :: xs) 1 = some b := rfl
theorem getR_2 {a b c : R} {xs : List R} : getR (a :: b :: c :: xs) 2 = some c := rfl
/-- an item of a tuple of values -/
abbrev pIxT : P2 := fun x y S W => match x, y with
  | .r (.tr xs), .r (.d (.int k)) => match getR xs k with
    | some z => W (.r z) S
    | none => False
  | _, _ => False
theorem we_ixT (ha : WE X a wa) (hb : WE X b wb) (hs : PlainIx b) : WE X (.Subscript a b pos) (wBin pIxT wa wb) := by
  refine ⟨peImp (pe_ix ix_tup ha.pe hb.pe hs) fun s H Q ⟨m, ρ, S, W, hE, hS, hw, hf⟩ => up2 hE hS hw fun x y S2 v u m2 H2 z g2 r2 qx qy => ?_⟩
  unfold pIxT at z
  split at z
  · rename_i xs k
    split at z
    · rename_i d e2
      obtain ⟨p, vs, rfl, h1, h2⟩ := qx
      unfold getR at e2
      split at e2
      · rename_i h0
        obtain ⟨w, h3, h4⟩ := RepRs.get h2 e2
        refine ⟨p, vs, k, w, rfl, qy, h1, ?_, (hf.later g2 r2).here r2 (x := .r d) h4 z⟩
        unfold L2.atI ixN
        have : k.toNat < vs.length := (List.getElem?_eq_some_iff.mp h3).1
        rw [if_pos h0, if_pos (by omega)]
        exact h3
      · cases e2
    · exact z.elim
  · exact z.elim
abbrev fLenT : PF := fun xs S W => match xs with
  | [.r (.tr xs)] => W (.r (.d (.int xs.length))) S
  | _ => False
theorem f_lenT : FnP X (.builtin "len") fLenT := by
  refine ⟨_, call_len_seq, fun xs S W vs m H H0 Q r q w f => ?_⟩
  unfold fLenT at w
  split at w
  · rename_i ys
    obtain ⟨v, rfl, q1⟩ := q.one
    obtain ⟨p, us, rfl, h1, h2⟩ := q1
    refine ⟨p, us, rfl, .inr h1, ?_⟩
    rw [RepRs.len h2]
    exact f.here r (x := svi _) rfl w
  · exact w.elim
end
end Z

set_option Elab.async false
set_option linter.all false
set_option maxRecDepth 100000
/-! Z39: texts taken apart; int(text); a < b <= c. -/
namespace Z
open PySem PySem.Spec PyProof.Rows L2 RZ
section
variable {X : Cx} {e a b c : Expr} {we wo wa wb wc : PE1} {pos : Pos}
theorem reps_strs {K : PySem.W.Frag} {H : Hp} : ∀ ss : List Str, RepDs K H (ss.map D.str) (ss.map V.str)
  | [] => rfl
  | _ :: r => ⟨_, _, rfl, rfl, reps_strs r⟩
/-- s.split(sep) -/
abbrev wSplit (wo we : PE1) : PE1 := fun r S W => wo r S fun x S1 => match x with
  | .r (.d (.str a)) => we r S1 fun y S2 => match y with
    | .r (.d (.str b)) => ((b.length == 0) = false ∧ a.length + 2 ≤ 16777216) ∧ W (.f ((Txt.split a b).map D.str)) S2
    | _ => False
  | _ => False
theorem we_split {o : Expr} {apos : Pos} (ho : WE X o wo) (he : WE X e we)
    (h : ∀ {to te : TE}, PE X o to → PE X e te → PE X (.Call (.Attribute o "split" apos) [e] [] pos) (tBM X.K "str" (fun x xs H Q => ∃ a b, x = .str a ∧ xs = [.str b] ∧ (b.length == 0) = false ∧ a.length + 2 ≤ sizeLine ∧ rNewStrs (Txt.split a b) H Q) to (tCons te tNil)) := by
      intro _ _ ho he; exact pe_bm PySem.F.plainAttrs_str PySem.F.slot_str_split PySem.F.type_str_split mt_split ho (pa_cons he pa_nil)) : WE X (.Call (.Attribute o "split" apos) [e] [] pos) (wSplit wo we) :=
  ⟨peImp (h ho.pe he.pe) fun s H Q ⟨m, r, S, W, hE, hS, hw, hf⟩ => up1 hE hS hw fun x S1 v m1 H1 h1 g1 r1 q1 => by
    split at h1
    · rename_i a
      obtain rfl : v = V.str a := q1
      refine ⟨by trivial, m1, r, S1, _, hE.grow g1, r1, h1, fun y S2 u m2 H2 h2 g2 r2 q2 => ?_⟩
      split at h2
      · rename_i b
        obtain rfl : u = V.str b := q2
        exact ⟨a, b, rfl, rfl, h2.1.1, by rw [sizeLine_eq]; exact h2.1.2, (hf.later (g1.trans g2) r2).lst r2 (reps_strs _) h2.2⟩
      · exact h2.elim
    · exact h1.elim⟩
/-- s.partition(sep) -/
abbrev wPart (wo we : PE1) : PE1 := fun r S W => wo r S fun x S1 => match x with
  | .r (.d (.str a)) => we r S1 fun y S2 => match y with
    | .r (.d (.str b)) => ((b.length == 0) = false ∧ a.length ≤ 16777216) ∧ W (.r (.d (.tup [.str (Txt.partition a b).1, .str (Txt.partition a b).2.1, .str (Txt.partition a b).2.2]))) S2
    | _ => False
  | _ => False
theorem we_part {o : Expr} {apos : Pos} (ho : WE X o wo) (he : WE X e we)
    (h : ∀ {to te : TE}, PE X o to → PE X e te → PE X (.Call (.Attribute o "partition" apos) [e] [] pos) (tBM X.K "str" (fun x xs H Q => ∃ a b, x = .str a ∧ xs = [.str b] ∧ (b.length == 0) = false ∧ a.length ≤ sizeLine ∧
      ∀ p, H p = none → Q (.ref p) (upd H p (.tup [.str (Txt.partition a b).1, .str (Txt.partition a b).2.1, .str (Txt.partition a b).2.2]))) to (tCons te tNil)) := by
      intro _ _ ho he; exact pe_bm PySem.F.plainAttrs_str PySem.F.slot_str_partition PySem.F.type_str_partition mt_partition ho (pa_cons he pa_nil)) : WE X (.Call (.Attribute o "partition" apos) [e] [] pos) (wPart wo we) :=
  ⟨peImp (h ho.pe he.pe) fun s H Q ⟨m, r, S, W, hE, hS, hw, hf⟩ => up1 hE hS hw fun x S1 v m1 H1 h1 g1 r1 q1 => by
    split at h1
    · rename_i a
      obtain rfl : v = V.str a := q1
      refine ⟨by trivial, m1, r, S1, _, hE.grow g1, r1, h1, fun y S2 u m2 H2 h2 g2 r2 q2 => ?_⟩
      split at h2
      · rename_i b
        obtain rfl : u = V.str b := q2
        exact ⟨a, b, rfl, rfl, h2.1.1, by rw [sizeLine_eq]; exact h2.1.2, (hf.later (g1.trans g2) r2).tup r2 (reps_strs [_, _, _]) h2.2⟩
      · exact h2.elim
    · exact h1.elim⟩
/-- int(text) -/
abbrev fIntT : PF := fun xs S W => match xs with
  | [.r (.d (.str a))] => ∃ n : Int, intText? a = some n ∧ a.length ≤ 640 ∧ W (.r (.d (.int n))) S
  | _ => False
theorem f_intT : FnP X (.type "int") fIntT := by
  refine ⟨_, call_int_str, fun xs S W vs m H H0 Q r q w f => ?_⟩
  unfold fIntT at w
  split at w
  · rename_i a
    obtain ⟨v, rfl, q1⟩ := q.one
    obtain rfl : v = V.str a := q1
    obtain ⟨n, w1, w2, w3⟩ := w
    exact ⟨a, n, rfl, w1, w2, f.here r (x := .r (.d (.int n))) rfl w3⟩
  · exact w.elim
/-- a < b <= c -/
abbrev wChn (rp rp' : P2) (wa wb wc : PE1) : PE1 := fun r S W => wa r S fun x S1 => wb r S1 fun y S2 => rp x y S2 fun z S3 => match z with
  | .r (.d (.bl k)) => if k = true then wc r S3 fun u S4 => rp' y u S4 W else W (.r (.d (.bl false))) S3
  | _ => False
theorem chn {op op' : CmpOp} {rp rp' : P2} (ho : OpP X (compareOp op) rp) (ho' : OpP X (compareOp op') rp') : ∃ r r' : R2, OpR X (compareOp op) r ∧ OpR X (compareOp op') r' ∧ ∀ s H Q, up X.K (wChn rp rp' wa wb wc) s H Q → tChain r r' (up X.K wa) (up X.K wb) (up X.K wc) s H Q := by
  obtain ⟨r1, h1, h2⟩ := ho
  obtain ⟨r2, k1, k2⟩ := ho'
  refine ⟨r1, r2, h1, k1, fun s H Q ⟨m, ρ, S, W, hE, hS, hw, hf⟩ => up2 hE hS hw fun x y S2 v u m2 H2 z g2 r2 qx qy => h2 x y S2 _ v u m2 H2 H _ r2 qx qy z fun t S3 tv m3 H3 zt g3 r3 qt => ?_⟩
  split at zt
  · rename_i k
    obtain rfl : tv = V.bl k := qt
    refine ⟨k, rfl, ?_⟩
    split at zt
    · rename_i hk
      rw [if_pos hk]
      exact ⟨m3, ρ, S3, _, hE.grow (g2.trans g3), r3, zt, fun y2 S4 u2 m4 H4 z4 g4 r4 q4 => k2 y y2 S4 W u u2 m4 H4 H Q r4 (qy.grow (g3.trans g4)) (q4.back (g2.trans g3) r3) z4 (hf.later ((g2.trans g3).trans g4) r4)⟩
    · rename_i hk
      rw [if_neg hk]
      exact (hf.later (g2.trans g3) r3).here r3 (x := .r (.d (.bl false))) rfl zt
  · exact zt.elim
theorem we_chn {op op' : CmpOp} {rp rp' : P2} (ho : OpP X (compareOp op) rp) (ho' : OpP X (compareOp op') rp') (ha : WE X a wa) (hb : WE X b wb) (hc : WE X c wc) (hm : lastMarks [op, op'] [b, c] = false := by with_unfolding_all rfl) : WE X (.Compare a [op, op'] [b, c] pos) (wChn rp rp' wa wb wc) := by
  obtain ⟨r1, r2, h1, k1, h⟩ := chn (wa := wa) (wb := wb) (wc := wc) ho ho'
  exact ⟨peImp (pe_chain h1 k1 ha.pe hb.pe hc.pe hm) h⟩
theorem wt_chn {op op' : CmpOp} {rp rp' : P2} (ho : OpP X (compareOp op) rp) (ho' : OpP X (compareOp op') rp') (ha : WE X a wa) (hb : WE X b wb) (hc : WE X c wc) (hm : lastMarks [op, op'] [b, c] = false := by with_unfolding_all rfl) : WT X (.Compare a [op, op'] [b, c] pos) (wTest (wChn rp rp' wa wb wc)) := by
  obtain ⟨r1, r2, h1, k1, h⟩ := chn (wa := wa) (wb := wb) (wc := wc) ho ho'
  exact ⟨ptImp (pt_chain h1 k1 ha.pe hb.pe hc.pe hm) (upT_of h)⟩
end
end Z

set_option Elab.async false
set_option linter.all false
set_option maxRecDepth 100000
/-! Z40: dicts at places: in, [..], d[k] = v, copy, sorted; (o.f, o.g) = e. -/
namespace Z
open PySem PySem.Spec PyProof.Rows L2 RZ
def getA (kvs : List (Key × R)) (k : Key) : Option R := (kvs.find? fun p => decide (p.1 = k)).map (·.2)
def putA (kvs : List (Key × R)) (k : Key) (v : R) : List (Key × R) := if (kvs.any fun p => decide (p.1 = k)) = true then kvs.map (fun p => if p.1 = k then (p.1, v) else p) else kvs ++ [(k, v)]
abbrev PA0 (K : PySem.W.Frag) (H : Hp) : List (Key × R) → List (Key × V) → Prop := Paired (fun (p : Key × R) (q : Key × V) => q.1 = p.1 ∧ RepR K [] H p.2 q.2)
section
variable {K : PySem.W.Frag} {m : List Addr} {H H1 : Hp} {S : Sto} {kvs : List (Key × R)} {ks : List (Key × V)} {k : Key} {d : R} {v : V} {n : Nat} {a : Addr}
theorem PA0.val (h : PA0 K H kvs ks) (k : Key) : (getA kvs k = none ∧ valV ks k = none) ∨ ∃ d v, getA kvs k = some d ∧ valV ks k = some v ∧ RepR K [] H d v := by
  unfold PA0 at h
  induction h with
  | nil => exact .inl ⟨rfl, rfl⟩
  | @cons p q ps qs hd tl ih =>
    by_cases e : p.1 = k
    · refine .inr ⟨p.2, q.2, ?_, valV_pos (hd.1.trans e), hd.2⟩
      unfold getA; rw [List.find?_cons_of_pos (by simp [e])]; rfl
    · rw [valV_neg (by rw [hd.1]; exact e)]
      have e2 : getA (p :: ps) k = getA ps k := by unfold getA; rw [List.find?_cons_of_neg (by simp [e])]
      rw [e2]; exact ih
theorem PA0.any (h : PA0 K H kvs ks) (k : Key) : (kvs.any fun p => decide (p.1 = k)) = ks.any fun p => decide (p.1 = k) := by
  unfold PA0 at h
  induction h with
  | nil => rfl
  | @cons p q ps qs hd tl ih => rw [List.any_cons, List.any_cons, ih, hd.1]
theorem PA0.put (h : PA0 K H kvs ks) (k : Key) (hd : RepR K [] H d v) : PA0 K H (putA kvs k d) (putK ks k v) := by
  unfold putA putK
  rw [h.any k]
  split
  · rename_i e0
    clear e0
    unfold PA0 at h
    induction h with
    | nil => exact .nil
    | @cons p q ps qs hh tl ih =>
      rw [List.map_cons, List.map_cons]
      refine .cons ?_ ih
      by_cases e : p.1 = k
      · rw [if_pos e, if_pos (hh.1.trans e)]; exact ⟨hh.1, hd⟩
      · rw [if_neg e, if_neg (by rw [hh.1]; exact e)]; exact hh
  · exact Paired.snoc h ⟨rfl, hd⟩
theorem PA0.via (f : ∀ x v, RepR K [] H x v → RepR K [] H1 x v) (h : PA0 K H kvs ks) : PA0 K H1 kvs ks := Paired.mapP h fun _ _ z => ⟨z.1, f _ _ z.2⟩
theorem PA0.keys (h : PA0 K H kvs ks) : ks.map (·.1) = kvs.map (·.1) := by
  unfold PA0 at h
  induction h with
  | nil => rfl
  | @cons p q ps qs hd tl ih => rw [List.map_cons, List.map_cons, ih, hd.1]
theorem RepS.da (r : RepS K m H S) (e : S[n]? = some (O.da a kvs)) : ∃ ks, m[n]? = some a ∧ H a = some (.dK ks) ∧ PA0 K H kvs ks := by
  obtain ⟨b, h1, rfl, ks, h2, h3⟩ := r.at_ n _ e
  exact ⟨ks, h1, h2, h3⟩
end
section
variable {X : Cx} {e a b : Expr} {pos p2 : Pos} {we wa wb wo : PE1}
/-- k in d -/
abbrev pInDa (neg : Bool) : P2 := fun x y S W => match x, y with
  | .r (.d k), .r (.ad a) => ∃ (n : Nat) (kvs : List (Key × R)) (kk : Key), S[n]? = some (O.da a kvs) ∧ keyK k = some kk ∧ W (.r (.d (.bl (if neg then !(getA kvs kk).isSome else (getA kvs kk).isSome)))) S
  | _, _ => False
theorem o_inDa (hu : X.A.units + 64 < cLine) : OpP X (compareOp .In) (pInDa false) := by
  refine ⟨fun x y H Q => ∃ a kk ks, y = .ref a ∧ x = kV kk ∧ H a = some (.dK ks) ∧ Q (.bl (valV ks kk).isSome) H, ?_, fun x y S W v u m H H0 Q r qx qy w f => ?_⟩
  · intro pins s σ H x y v u Q I rx ry ⟨a, kk, ks, hy, hx, e, q⟩
    subst hy hx
    obtain rfl : u = .ref a := ry
    exact d_in (show X.A.units + 1 < cLine by omega) I (DGet.k e) rx fun s' I' => ⟨.bl _, H, I', rfl, q⟩
  · unfold pInDa at w
    split at w
    · rename_i k a
      obtain ⟨n, kvs, kk, e, ek, w⟩ := w
      cases (show u = V.ref a from qy)
      obtain ⟨ks, h1, h2, h3⟩ := r.da e
      refine ⟨a, kk, ks, rfl, keyK_rep ek qx, h2, ?_⟩
      have f' := f.here r (x := .r (.d (.bl (getA kvs kk).isSome))) rfl w
      rcases h3.val kk with ⟨e1, e2⟩ | ⟨d, z, e1, e2, _⟩
      · rw [e2]; rw [e1] at f'; exact f'
      · rw [e2]; rw [e1] at f'; exact f'
    · exact w.elim
theorem o_ninDa (hu : X.A.units + 64 < cLine) : OpP X (compareOp .NotIn) (pInDa true) := by
  refine ⟨fun x y H Q => ∃ a kk ks, y = .ref a ∧ x = kV kk ∧ H a = some (.dK ks) ∧ Q (.bl (!(valV ks kk).isSome)) H, ?_, fun x y S W v u m H H0 Q r qx qy w f => ?_⟩
  · intro pins s σ H x y v u Q I rx ry ⟨a, kk, ks, hy, hx, e, q⟩
    subst hy hx
    obtain rfl : u = .ref a := ry
    exact d_notIn (show X.A.units + 1 < cLine by omega) I (DGet.k e) rx fun s' I' => ⟨.bl _, H, I', rfl, q⟩
  · unfold pInDa at w
    split at w
    · rename_i k a
      obtain ⟨n, kvs, kk, e, ek, w⟩ := w
      cases (show u = V.ref a from qy)
      obtain ⟨ks, h1, h2, h3⟩ := r.da e
      refine ⟨a, kk, ks, rfl, keyK_rep ek qx, h2, ?_⟩
      have f' := f.here r (x := .r (.d (.bl (!(getA kvs kk).isSome)))) rfl w
      rcases h3.val kk with ⟨e1, e2⟩ | ⟨d, z, e1, e2, _⟩
      · rw [e2]; rw [e1] at f'; exact f'
      · rw [e2]; rw [e1] at f'; exact f'
    · exact w.elim
/-- d[k] -/
abbrev pIxDa : P2 := fun x y S W => match x, y with
  | .r (.ad a), .r (.d k) => ∃ (n : Nat) (kvs : List (Key × R)) (kk : Key) (z : R), S[n]? = some (O.da a kvs) ∧ keyK k = some kk ∧ getA kvs kk = some z ∧ W (.r z) S
  | _, _ => False
theorem we_ixDa (hu : X.A.units + 64 < cLine) (ha : WE X a wa) (hb : WE X b wb) (hs : NoSl b) : WE X (.Subscript a b pos) (wBin pIxDa wa wb) := by
  refine ⟨peImp (pe_dget (by omega) ha.pe hb.pe hs) fun s H Q ⟨m, ρ, S, W, hE, hS, hw, hf⟩ => up2 hE hS hw fun x y S2 v u m2 H2 z g2 r2 qx qy => ?_⟩
  unfold pIxDa at z
  split at z
  · rename_i a k
    obtain ⟨n, kvs, kk, d, e, ek, ed, z⟩ := z
    cases (show v = V.ref a from qx)
    obtain ⟨ks, h1, h2, h3⟩ := r2.da e
    rcases h3.val kk with ⟨e1, e2⟩ | ⟨d', w, e1, e2, hd⟩
    · rw [e1] at ed; cases ed
    · rw [e1] at ed; cases ed
      rw [keyK_rep ek qy]
      exact ⟨a, w, rfl, e2 ▸ DGet.k h2, (hf.later g2 r2).here r2 (x := .r d) hd.any z⟩
  · exact z.elim
/-- d[k] = v -/
abbrev wPutDa (wo wi we : PE1) : PS1 := fun N r S => we r S fun x S1 => wo r S1 fun o S2 => wi r S2 fun k S3 => match o, k, x with
  | .r (.ad a), .r (.d k), .r z => noLoc z = true ∧ ∃ (n : Nat) (kvs : List (Key × R)) (kk : Key), S3[n]? = some (O.da a kvs) ∧ keyK k = some kk ∧ kvs.length < 16777216 ∧ N.nx r (S3.set n (.da a (putA kvs kk z)))
  | _, _, _ => False
theorem ws_putDa {o i e : Expr} {wi : PE1} (hu : X.A.units + 64 < cLine) (ho : WE X o wo) (hi : WE X i wi) (he : WE X e we) (hs : swapsWith e (some (.Subscript o i p2)) pos.line X.env = pure false := by rfl) : WS X (.Assign [.Subscript o i p2] e pos) (wPutDa wo wi we) :=
  ⟨psImp (ps_dput (by omega) ho.pe hi.pe he.pe hs) fun D s H ⟨m, r, S, N, hE, hS, hw, hf⟩ => up1 hE hS hw fun x S1 v m1 H1 h1 g1 r1 q1 => up2 (hE.grow g1) r1 h1 fun y z S3 u w m3 H3 h3 g3 r3 qo qi => by
    split at h3
    · rename_i a k d
      obtain ⟨hz, n, kvs, kk, e1, ek, hl, h3⟩ := h3
      cases (show u = V.ref a from qo)
      obtain ⟨ks, k1, k2, k3⟩ := r3.da e1
      have qd : RepR X.K [] H3 d v := RepR.free d v hz (RepR.grow g3 d v q1)
      rw [keyK_rep ek qi]
      have hl : ks.length < sizeLine := by rw [← Paired.length k3, sizeLine_eq]; exact hl
      refine ⟨a, _, rfl, DPut.k k2 hl, ?_⟩
      have gw := Grow.writeO (m := m3) (u' := .dK (putK ks kk v)) k1 k2 wr_dK
      exact hf.nx r _ s m3 _ h3 ((g1.trans g3).trans gw) (((hE.grow g1).grow g3).grow gw) (r3.writeO k1 k2 wr_dK ⟨rfl, _, upd_same, (k3.put kk qd).via fun x v => RepR.grow0 gw x v⟩)
    · exact h3.elim⟩
/-- d.copy() -/
theorem mt_dcopy : MtR X "dict.copy" (fun x xs H Q => ∃ a kvs, x = .ref a ∧ xs = [] ∧ H a = some (.dK kvs) ∧ ∀ p, H p = none → Q (.ref p) (upd H p (.dK kvs))) := by
  intro pins s σ H x vs v us Q I rx rv h
  obtain ⟨a, kvs, rfl, rfl, hk, q⟩ := h
  cases rx
  have hus := rv.zero
  subst hus
  obtain ⟨z, lo, vs, rel, dd⟩ := (show ObjOk X.prog X.w H s.heap a (.dK kvs) from I.hok a _ hk)
  have hm : (s.heap.objs.size == sysModules) = false := beq_eq_false_iff_ne.mpr (Nat.ne_of_gt I.big)
  refine call_meetsIn F.slot_dict_copy dd.typeIs F.entry_dict_copy (F.args_dict_copy_1 _) (meets_dict_copy (mixKind X.prog X.w) a lo) ⟨vs, dd, by rw [← rel.length]; exact z, fun h' d' _ hs => ?_⟩
  exact ⟨.ref s.heap.objs.size, upd H s.heap.objs.size (.dK kvs), I.laid (t' := s.toks) (fun b u e => hs b u e) (Nat.le_refl _)
    (show ObjOk X.prog X.w _ _ _ (.dK kvs) from ⟨z, hm, vs, rel, d'⟩), rfl, q _ (I.hok.fresh (Nat.le_refl _))⟩
abbrev wCpDa (wo : PE1) : PE1 := fun r S W => wo r S fun x S1 => match x with
  | .r (.ad a) => ∃ (n : Nat) (kvs : List (Key × R)), S1[n]? = some (O.da a kvs) ∧ ∀ b, W (.r (.ad b)) (S1 ++ [.da b kvs])
  | _ => False
theorem we_cpDa {o : Expr} {apos : Pos} (ho : WE X o wo)
    (h : ∀ {to : TE}, PE X o to → PE X (.Call (.Attribute o "copy" apos) [] [] pos) (tBM0 X.K "dict" (fun x xs H Q => ∃ a kvs, x = .ref a ∧ xs = [] ∧ H a = some (.dK kvs) ∧ ∀ p, H p = none → Q (.ref p) (upd H p (.dK kvs))) to) := by
      intro _ ho; exact pe_bm0 PySem.F.plainAttrs_dict PySem.F.slot_dict_copy PySem.F.type_dict_copy mt_dcopy ho) : WE X (.Call (.Attribute o "copy" apos) [] [] pos) (wCpDa wo) :=
  ⟨peImp (h ho.pe) fun s H Q ⟨m, r, S, W, hE, hS, hw, hf⟩ => up1 hE hS hw fun x S1 v m1 H1 h1 g1 r1 q1 => by
    split at h1
    · rename_i a
      obtain ⟨n, kvs, e1, h1⟩ := h1
      cases (show v = V.ref a from q1)
      obtain ⟨ks, k1, k2, k3⟩ := r1.da e1
      refine ⟨.inr (.inr (.inl ⟨rfl, .inl ⟨ks, k2⟩⟩)), a, ks, rfl, rfl, k2, fun p hp => ?_⟩
      have ga := Grow.alloc (m := m1) (o := .dK ks) hp
      exact hf (.r (.ad p)) _ (.ref p) (m1 ++ [p]) _ (h1 p) (g1.trans (Grow.push hp ga)) ((r1.alloc hp).pushO (r1.notmem hp) ⟨rfl, ks, upd_same, k3.via fun x v => RepR.grow0 ga x v⟩) rfl
    · exact h1.elim⟩
/-- sorted(d), keys that are texts -/
abbrev fSortDa : PF := fun xs S W => match xs with
  | [.r (.ad a)] => ∃ (n : Nat) (kvs : List (Key × R)) (ks : List Str), S[n]? = some (O.da a kvs) ∧ kvs.map (·.1) = ks.map Sum.inr ∧ ks.length < 64 ∧ ∀ ys, ys.Perm ks → PyProof.Rows.sortedS ys = true → W (.f (ys.map D.str)) S
  | _ => False
theorem reps_strsA {K : PySem.W.Frag} {H : Hp} : ∀ ss : List Str, RepDs K H (ss.map D.str) (ss.map V.str)
  | [] => rfl
  | _ :: r => ⟨_, _, rfl, rfl, reps_strsA r⟩
theorem f_sortDa (hcalm : X.calm = true) : FnP X (.builtin "sorted") fSortDa := by
  refine ⟨_, call_sortedD hcalm, fun xs S W vs m H H0 Q r q w f => ?_⟩
  unfold fSortDa at w
  split at w
  · rename_i a
    obtain ⟨n, kvs, ks, e, ek, hl, w⟩ := w
    obtain ⟨v, rfl, q1⟩ := q.one
    cases (show v = V.ref a from q1)
    obtain ⟨us, k1, k2, k3⟩ := r.da e
    exact ⟨a, us, ks, rfl, Rd.of k2, k3.keys.trans ek, hl, fun ys p hp hs h0 => f.lst r (reps_strsA ys) (w ys hp hs) p h0⟩
  · exact w.elim
/-- o.f, as a target -/
def gFldT (K : PySem.W.Frag) (to : TE) (f : Str) : TG := fun v σ H Q => to σ H fun x H1 => ∃ a C dx fs, x = .ref a ∧ H1 a = some (.ins C dx fs) ∧ Cls K C ∧ NoAttr K C f ∧ fs.length < 1000 ∧ Q σ (upd H1 a (.ins C dx (putF f v fs)))
theorem pg_fld {o : Expr} {to : TE} {f : Str} (ho : PE X o to) : PG X (.Attribute o f p2) (gFldT X.K to f) := by
  refine ⟨fun pins s σ H v u Q I r h => ?_⟩
  rw [assign_Attribute]
  refine wpAny_bind (wpAny_holding (thn (ho.run pins s σ H _ I h) fun ov s1 ⟨x, H1, I1, r1, a, C, dx, fs, ex, ea, c, n, l, q1⟩ => ?_))
  subst ex
  obtain rfl : ov = Value.ref a := r1
  exact wpAny_bind (wpAny_standAt (wpAny_bind (wpAny_holding (setattr_ok I1 ea c n l r fun s2 I2 => wpAny_release ⟨σ, _, I2, q1⟩))))
/-- (o.f, o.g) = a tuple of two -/
abbrev wFld2 (C f g : Str) (wo we : PE1) : PS1 := fun N r S => we r S fun x S1 => match x with
  | .r (.tr [y, z]) => (noLoc y = true ∧ noLoc z = true) ∧ wo r S1 fun o S2 => match o with
    | .r (.ad a) => ∃ (n : Nat) (fs : List (Str × R)), S2[n]? = some (O.ob a C fs) ∧ fs.length < 1000 ∧ wo r (S2.set n (.ob a C (putR f y fs))) fun o' S3 => match o' with
      | .r (.ad a') => ∃ (n' : Nat) (fs' : List (Str × R)), S3[n']? = some (O.ob a' C fs') ∧ fs'.length < 1000 ∧ N.nx r (S3.set n' (.ob a' C (putR g z fs')))
      | _ => False
    | _ => False
  | _ => False
theorem ws_fld2 {k : Nat} {o o2 : Expr} {p3 p4 : Pos} {C f g : Str} {fl : List Str} (hc : X.calm = true) (c : ClsO X.K C fl) (ho : WE X o wo) (ho2 : WE X o2 wo) (he : WE X e we) (hf : f ∈ fl := by decide) (hg : g ∈ fl := by decide)
    (hn : (assignEach [.Attribute o f p3, .Attribute o2 g p4] X.env).length = 2 := by rfl) (hst : (assignEach [.Attribute o f p3, .Attribute o2 g p4] X.env).findIdx? (·.1) = none := by rfl)
    (hm1 : (assignEach [.Attribute o f p3, .Attribute o2 g p4] X.env).map (·.2) = assign (.Attribute o f p3) X.env :: (assignEach [.Attribute o2 g p4] X.env).map (·.2) := by rfl)
    (hm2 : (assignEach [.Attribute o2 g p4] X.env).map (·.2) = assign (.Attribute o2 g p4) X.env :: (assignEach [] X.env).map (·.2) := by rfl)
    (hs : swapsWithSole [.Tuple [.Attribute o f p3, .Attribute o2 g p4] k p2] e pos.line X.env = pure false := by rfl) (hw : swappedStores [.Tuple [.Attribute o f p3, .Attribute o2 g p4] k p2] e X.env = pure none := by rfl)
    (h1 : (assignEach [.Tuple [.Attribute o f p3, .Attribute o2 g p4] k p2] X.env).map (·.2) = [assign (.Tuple [.Attribute o f p3, .Attribute o2 g p4] k p2) X.env] := by rfl) : WS X (.Assign [.Tuple [.Attribute o f p3, .Attribute o2 g p4] k p2] e pos) (wFld2 C f g wo we) := by
  obtain ⟨Ca, c1, c2, c3⟩ := c.ex
  exact ⟨psImp (ps_asg he.pe (pg_tup hc (pgs_cons (pg_fld ho.pe) (pgs_cons (pg_fld ho2.pe) pgs_nil hm2) hm1) hn hst) hs hw h1) fun D s H ⟨m, r, S, N, hE, hS, hw, hff⟩ => ⟨m, r, S, _, hE, hS, hw, fun x S1 v m1 H1 h1 g1 r1 q1 => by
    split at h1
    · rename_i y z
      obtain ⟨⟨hy, hz⟩, h1⟩ := h1
      obtain ⟨p, vs, rfl, sq, rep⟩ := (show RepR X.K m1 H1 (.tr [y, z]) v from q1)
      obtain ⟨vy, r', rfl, ry, rep⟩ := rep
      obtain ⟨vz, r'', rfl, rz, rep⟩ := rep
      cases (show r'' = [] from rep)
      refine ⟨p, _, rfl, sq, rfl, vy, [vz], rfl, m1, r, S1, _, hE.grow g1, r1, h1, fun ov S2 w m2 H2 h2 g2 r2 q2 => ?_⟩
      split at h2
      · rename_i a
        obtain ⟨n, fs, e1, hl, h2⟩ := h2
        cases (show w = V.ref a from q2)
        obtain ⟨Cb, dx, us, k1, k2, k3, k4⟩ := r2.ob e1
        obtain rfl := c1.uniq k2
        have qy : RepR X.K [] H2 y vy := RepR.free y vy hy (RepR.grow g2 y vy ry)
        have hl2 : us.length < 1000 := by rw [← Paired.length k4]; exact hl
        have gw := Grow.writeO (u' := .ins Ca dx (putF f vy us)) k1 k3 wr_ins
        refine ⟨a, _, dx, us, rfl, k3, c2, c3 _ hf, hl2, vz, [], rfl, ?_⟩
        have r3 := r2.writeO k1 k3 wr_ins (u' := .ins Ca dx (putF f vy us)) (o := .ob a C (putR f y fs)) ⟨rfl, Ca, dx, _, k2, upd_same, (k4.put qy).conv gw⟩
        refine ⟨m2, r, _, _, ((hE.grow g1).grow g2).grow gw, r3, h2, fun ov3 S3 w3 m3 H3 h3 g3 r4 q3 => ?_⟩
        split at h3
        · rename_i a'
          obtain ⟨n', fs', e3, hl3, h3⟩ := h3
          cases (show w3 = V.ref a' from q3)
          obtain ⟨Cb', dx', us', j1, j2, j3, j4⟩ := r4.ob e3
          obtain rfl := c1.uniq j2
          have qz : RepR X.K [] H3 z vz := RepR.free z vz hz (RepR.grow g3 z vz (RepR.grow gw z vz (RepR.grow g2 z vz rz)))
          have hl4 : us'.length < 1000 := by rw [← Paired.length j4]; exact hl3
          have gw2 := Grow.writeO (u' := .ins Ca dx' (putF g vz us')) j1 j3 wr_ins
          refine ⟨a', _, dx', us', rfl, j3, c2, c3 _ hg, hl4, rfl, ?_⟩
          exact hff.nx r _ s m3 _ h3 ((((g1.trans g2).trans gw).trans g3).trans gw2) (((((hE.grow g1).grow g2).grow gw).grow g3).grow gw2) (r4.writeO j1 j3 wr_ins ⟨rfl, Ca, dx', _, j2, upd_same, (j4.put qz).conv gw2⟩)
        · exact h3.elim
      · exact h2.elim
    · exact h1.elim⟩⟩
/-- t not in s -/
abbrev pSNin : P2 := fun x y S W => match x, y with
  | .r (.d (.str a)), .r (.d (.str b)) => W (.r (.d (.bl (!(!(Builtin.Str.occurrences b a 0 b.length 1).isEmpty))))) S
  | _, _ => False
theorem o_snin : OpP X (compareOp .NotIn) pSNin := by
  refine ⟨_, op_notIn_str, fun x y S W v u m H H0 Q r qx qy w f => ?_⟩
  unfold pSNin at w
  split at w
  · rename_i a b
    exact ⟨a, b, qx, qy, f.here r (x := svb _) rfl w⟩
  · exact w.elim
end
/-- another name of a def -/
structure AliAt (mg : Str → Option Value) (x y : Str) : Prop where
  ex : ∃ f : Addr, mg x = some (.ref f) ∧ mg y = some (.ref f)
theorem AliAt.mk' {K : PySem.W.Frag} {mg : Str → Option Value} {h : Heap} {x y : Str} {f : Addr} (X : K.In h) (G : h.Ns mainGlobals mg) (a : PySem.W.nsIn K mainGlobals x = some (some (.ref f))) (b : PySem.W.nsIn K mainGlobals y = some (some (.ref f))) : AliAt mg x y :=
  ⟨f, PySem.W.mg_of X G a, PySem.W.mg_of X G b⟩
theorem FnZ.ali {P : Program} {w : World} {K : PySem.W.Frag} {mg : Str → Option Value} {base : Heap} {k : Nat} {x y : Str} {n : Nat} {sp : SpZ} (F : FnZ P w K mg base k x n sp) (a : AliAt mg x y) : FnZ P w K mg base k y n sp := by
  obtain ⟨f, fd, ps, h1, h2, h3, h4, h5⟩ := F.ok
  obtain ⟨g, a1, a2⟩ := a.ex
  rw [h2] at a1
  cases a1
  exact ⟨f, fd, ps, h1, a2, h3, h4, h5⟩
end Z

set_option Elab.async false
set_option linter.all false
set_option maxRecDepth 100000
set_option exponentiation.threshold 20000
/-! R63: things as texts, of any number of figures; texts read back. -/
namespace Z
open PySem PySem.Spec PyProof.Rows L2 RZ
/-- of so many figures -/
structure Fg (k : Nat) (i : Int) : Prop where
  lt : i.natAbs < 10 ^ k
theorem Fg.of_bd {n k : Nat} {i : Int} (h : Bd n i) (e : 2 ^ n ≤ 10 ^ k) : Fg k i := ⟨Nat.lt_of_lt_of_le h.lt e⟩
theorem Fg.mono {k m : Nat} {i : Int} (h : Fg k i) (e : k ≤ m) : Fg m i := ⟨Nat.lt_of_lt_of_le h.lt (Nat.pow_le_pow_right (by decide) e)⟩
theorem numT_lenF {k : Nat} {i : Int} (hk : 0 < k) (h : Fg k i) : (numT i).length ≤ k + 1 := by
  have hb := h.lt
  unfold numT
  rw [ofStr_len]
  cases i with
  | ofNat n =>
    have := natT_len hk (show n < 10 ^ k from hb)
    show (Nat.repr n).toList.length ≤ k + 1
    omega
  | negSucc m =>
    have := natT_len hk (show m + 1 < 10 ^ k from hb)
    show ("-" ++ Nat.repr (m + 1)).toList.length ≤ k + 1
    rw [String.toList_append, List.length_append]
    have : ("-" : String).toList.length = 1 := by decide
    omega
theorem log_okF {k : Nat} {i : Int} (h : Fg k i) (hk : k ≤ 570) : i.natAbs.log2 < 1920 := by
  by_cases h0 : i.natAbs = 0
  · rw [h0]; decide
  · refine (Nat.log2_lt h0).mpr (Nat.lt_of_lt_of_le h.lt (Nat.le_trans (Nat.pow_le_pow_right (by decide) hk) ?_))
    decide +kernel
def FgP (k : Nat) (p : Int × Int) : Prop := Fg k p.1 ∧ Fg k p.2
def FgPt (k : Nat) (ps : List (Int × Int)) : Prop := ps.length = 3 ∧ ∀ p ∈ ps, FgP k p
def FgTb (k : Nat) (qs : List (List (Int × Int))) : Prop := qs.length = 3 ∧ ∀ q ∈ qs, FgPt k q
def FgRw (k : Nat) (ns : List Int) : Prop := ns.length ≤ 4 ∧ ∀ n ∈ ns, Fg k n
theorem frT_lenF {k : Nat} {p : Int × Int} (hk : 0 < k) (h : FgP k p) : (frT p).length ≤ 2 * k + 3 := by
  have h1 := numT_lenF hk h.1
  have h2 := numT_lenF hk h.2
  unfold frT
  split
  · omega
  · rw [app_len, app_len, one_len "/" (by decide)]; omega
theorem ptT_fitF {k : Nat} {ps : List (Int × Int)} (hk : 0 < k) (k1 : k ≤ 10000) (h : FgPt k ps) : ((ps.map frT).map (·.length)).sum + (ps.map frT).length * (PySem.Str.ofString " ").length ≤ 16777216 ∧ (ptT ps).length ≤ (2 * k + 3) * 3 + 6 := by
  have := tjoin_len (c := 2 * k + 3) (n := 3) (PySem.Str.ofString " ") (ss := ps.map frT) (fun s hs => by obtain ⟨p, hp, rfl⟩ := List.mem_map.mp hs; exact frT_lenF hk (h.2 p hp)) (by rw [List.length_map, h.1]; exact Nat.le_refl _) sp_len
  exact ⟨by omega, this.2⟩
theorem tbT_fitF {k : Nat} {qs : List (List (Int × Int))} (hk : 0 < k) (k1 : k ≤ 10000) (h : FgTb k qs) : ((qs.map ptT).map (·.length)).sum + (qs.map ptT).length * (PySem.Str.ofString "; ").length ≤ 16777216 ∧ (tbT qs).length ≤ 16777000 := by
  have := tjoin_len (c := (2 * k + 3) * 3 + 6) (n := 3) (PySem.Str.ofString "; ") (ss := qs.map ptT) (fun s hs => by obtain ⟨p, hp, rfl⟩ := List.mem_map.mp hs; exact (ptT_fitF hk k1 (h.2 p hp)).2) (by rw [List.length_map, h.1]; exact Nat.le_refl _) sc_len
  exact ⟨by omega, Nat.le_trans this.2 (by omega)⟩
theorem rwT_fitF {k : Nat} {ns : List Int} (hk : 0 < k) (k1 : k ≤ 10000) (h : FgRw k ns) {y : Str} (hy : y.length ≤ 2) : ((ns.map numT).map (·.length)).sum + (ns.map numT).length * y.length ≤ 16777216 ∧ (Txt.join y (ns.map numT)).length ≤ 16777000 := by
  have := tjoin_len (c := k + 1) (n := 4) y (ss := ns.map numT) (fun s hs => by obtain ⟨p, hp, rfl⟩ := List.mem_map.mp hs; exact numT_lenF hk (h.2 p hp)) (by rw [List.length_map]; exact h.1) hy
  omega
/-! reading -/
theorem numL_head {n : Nat} (h : n ≠ 0) : ∃ d r, TL.numL n = d :: r ∧ d ≠ 48 := by
  induction n using Nat.strongRecOn with
  | _ n ih =>
    by_cases l : n < 10
    · exact ⟨48 + n, [], TL.numL_lt l, by omega⟩
    · obtain ⟨d, r, e, hd⟩ := ih (n / 10) (by omega) (by omega)
      exact ⟨d, r ++ [48 + n % 10], by rw [TL.numL_step (by omega), e]; rfl, hd⟩
/-- the signs of a whole number -/
def sgL (i : Int) : List Nat := if i < 0 then 45 :: TL.numL i.natAbs else TL.numL i.natAbs
theorem tl_str0 (s : String) : TL.tl (PySem.Str.ofString s) = s.toList.map Char.toNat := by
  rw [PySem.Str.ofString_eq_toList]
  try rfl
theorem tl_numT (i : Int) : TL.tl (numT i) = sgL i := by
  cases i with
  | ofNat n =>
    unfold sgL
    rw [if_neg (by simp)]
    exact TL.tl_num n
  | negSucc m =>
    unfold sgL
    rw [if_pos (Int.negSucc_lt_zero m)]
    show TL.tl (PySem.Str.ofString ("-" ++ Nat.repr (m + 1))) = 45 :: TL.numL (m + 1)
    have e1 : TL.tl (PySem.Str.ofString (Nat.repr (m + 1))) = TL.numL (m + 1) := TL.tl_num (m + 1)
    have e2 : ∀ s : String, TL.tl (PySem.Str.ofString s) = s.toList.map Char.toNat := fun s => by
      exact tl_str0 s
    rw [e2, String.toList_append, List.map_append, ← e2, ← e2, e1]
    rfl
theorem numT_tx (i : Int) : numT i = Tx (sgL i) := by
  have := TL.mk_tl (numT i)
  rw [tl_numT] at this
  exact this.symm
theorem sgL_mem {i : Int} {c : Nat} (h : c ∈ sgL i) : c = 45 ∨ 48 ≤ c ∧ c ≤ 57 := by
  unfold sgL at h
  have d := TL.numL_digits i.natAbs
  split at h
  · rcases List.mem_cons.mp h with h | h
    · exact .inl h
    · exact .inr (d c h)
  · exact .inr (d c h)
theorem numT_free {i : Int} {c : Nat} (h : c ≠ 45) (h2 : c < 48 ∨ 57 < c) : c ∉ TL.tl (numT i) := fun m => by
  rw [tl_numT] at m
  rcases sgL_mem m with e | e
  · exact h e
  · omega
theorem int_back {i : Int} (h : (numT i).length ≤ 4300) : intText? (numT i) = some i := by
  have e : (numT i).cps.toList = sgL i := tl_numT i
  by_cases h0 : i < 0
  · have e2 : (numT i).cps.toList = 45 :: TL.numL i.natAbs := by rw [e]; unfold sgL; rw [if_pos h0]
    rw [PySem.intText_neg e2 (TL.numL_digits _) (TL.numL_ne _) h, TL.numL_val]
    congr 1; omega
  · have e2 : (numT i).cps.toList = TL.numL i.natAbs := by rw [e]; unfold sgL; rw [if_neg h0]
    rw [PySem.intText_digits (by rw [e2]; exact TL.numL_digits _) (by rw [e2]; exact TL.numL_ne _) h, e2, TL.numL_val]
    congr 1; omega
/-- the signs behind a first sign below 0 -/
def fgL (i : Int) : List Nat := TL.numL i.natAbs
theorem sg_neg {i : Int} (h : i < 0) : sgL i = 45 :: fgL i := by unfold sgL fgL; rw [if_pos h]
theorem sg_pos {i : Int} (h : ¬ i < 0) : sgL i = fgL i := by unfold sgL fgL; rw [if_neg h]
theorem fgL_len {k : Nat} {i : Int} (hk : 0 < k) (h : Fg k i) : 0 < (fgL i).length ∧ (fgL i).length ≤ k := by
  have := TL.numL_ne i.natAbs
  exact ⟨List.length_pos_iff.mpr this, TL.numL_len hk h.lt⟩
theorem fg_first (i : Int) : ∃ d r, fgL i = d :: r ∧ (48 ≤ d ∧ d ≤ 57) ∧ (d = 48 → sgL i = [48]) := by
  by_cases h : i = 0
  · subst h; exact ⟨48, [], by decide +kernel, by omega, fun _ => by decide +kernel⟩
  · obtain ⟨d, r, e, hd⟩ := numL_head (n := i.natAbs) (by omega)
    refine ⟨d, r, e, TL.numL_digits i.natAbs d (by rw [e]; simp), fun q => absurd q hd⟩
theorem tl_str (s : String) : TL.tl (PySem.Str.ofString s) = s.toList.map Char.toNat := tl_str0 s
theorem all256 (s : String) (h : (s.toList.map Char.toNat).all (· < 256) = true) : (PySem.Str.ofString s).cps.all (· < 256) = true := by
  rw [← Array.all_toList]
  show (TL.tl (PySem.Str.ofString s)).all _ = true
  rw [tl_str]; exact h
theorem tl_cat (a b : Str) : TL.tl (a ++ b) = TL.tl a ++ TL.tl b := TL.tl_append a b
theorem frT_free {p : Int × Int} {c : Nat} (h : c ≠ 45) (h2 : c < 47 ∨ 57 < c) : c ∉ TL.tl (frT p) := fun m => by
  have f1 := numT_free (i := p.1) h (by omega)
  have f2 := numT_free (i := p.2) h (by omega)
  unfold frT at m
  split at m
  · exact f1 m
  · rw [tl_cat, tl_cat, tl_str] at m
    rcases List.mem_append.mp m with m | m
    · rcases List.mem_append.mp m with m | m
      · exact f1 m
      · simp at m; omega
    · exact f2 m
theorem split_rw {sep : String} {s : Nat} {r : List Nat} (e : sep.toList.map Char.toNat = s :: r) (k : (sep.toList.map Char.toNat).all (· < 256) = true) (h : s ≠ 45) (h2 : s < 48 ∨ 57 < s) {ns : List Int} (hn : ns ≠ []) :
    Txt.split (rwT sep ns) (PySem.Str.ofString sep) = ns.map numT :=
  TL.split_join (s := s) (S := r) (by rw [tl_str]; exact e) (all256 sep k) (by simpa using hn) fun p hp => by
    obtain ⟨i, _, rfl⟩ := List.mem_map.mp hp
    exact numT_free h h2
theorem split_pt {ps : List (Int × Int)} (hn : ps ≠ []) : Txt.split (ptT ps) (PySem.Str.ofString " ") = ps.map frT :=
  TL.split_join (s := 32) (S := []) (by rw [tl_str]; decide) (all256 " " (by decide)) (by simpa using hn) fun p hp => by
    obtain ⟨i, _, rfl⟩ := List.mem_map.mp hp
    exact frT_free (by decide) (by decide)
theorem ptT_free : ∀ {ps : List (Int × Int)}, 59 ∉ TL.tl (ptT ps) := fun {ps} => by
  unfold ptT
  rw [TL.join_eq, TL.tl_join, tl_str]
  show 59 ∉ TL.joinL [32] _
  induction ps with
  | nil => simp [TL.joinL]
  | cons p ps ih =>
    have f := frT_free (p := p) (c := 59) (by decide) (by decide)
    cases ps with
    | nil => simpa [TL.joinL] using f
    | cons q ps =>
      show 59 ∉ TL.tl (frT p) ++ ([32] ++ TL.joinL [32] _)
      rw [List.mem_append, List.mem_append]
      rintro (h | h | h)
      · exact f h
      · simp at h
      · exact ih h
theorem split_tb {qs : List (List (Int × Int))} (hn : qs ≠ []) : Txt.split (tbT qs) (PySem.Str.ofString "; ") = qs.map ptT :=
  TL.split_join (s := 59) (S := [32]) (by rw [tl_str]; decide) (all256 "; " (by decide)) (by simpa using hn) fun p hp => by
    obtain ⟨i, _, rfl⟩ := List.mem_map.mp hp
    exact ptT_free
theorem part_whole (i : Int) : Txt.partition (numT i) (PySem.Str.ofString "/") = (numT i, Str.empty, Str.empty) :=
  TL.partition_none (s := 47) (S := []) (by rw [tl_str]; decide) (numT_free (by decide) (by decide))
theorem part_frac (i j : Int) : Txt.partition (numT i ++ PySem.Str.ofString "/" ++ numT j) (PySem.Str.ofString "/") = (numT i, PySem.Str.ofString "/", numT j) :=
  TL.partition_app (s := 47) (S := []) (by rw [tl_str]; decide) (numT_free (by decide) (by decide))
theorem dash_tx : PySem.Str.ofString "-" = Tx [45] := by decide +kernel
theorem zero_tx : PySem.Str.ofString "0" = Tx [48] := by decide +kernel
theorem dig_mem (c : Nat) : (!(Builtin.Str.occurrences (PySem.Str.ofString "0123456789") ⟨#[c]⟩ 0 (PySem.Str.ofString "0123456789").length 1).isEmpty) = decide (48 ≤ c ∧ c ≤ 57) := by
  refine (PySem.StrLaws.found_one _ c).trans ?_
  have e : (PySem.Str.ofString "0123456789").cps.toList = [48, 49, 50, 51, 52, 53, 54, 55, 56, 57] := by decide +kernel
  rw [e]
  by_cases h : 48 ≤ c ∧ c ≤ 57
  · rw [decide_eq_true h, decide_eq_true]
    simp only [List.mem_cons, List.not_mem_nil, or_false]; omega
  · rw [decide_eq_false h, decide_eq_false]
    simp only [List.mem_cons, List.not_mem_nil, or_false]; omega
theorem tx_beq {a b : List Nat} : (Tx a == Tx b) = decide (a = b) := SX.S_beq_eq
theorem tx_chrs' (l : List Nat) : chrs (Tx l) = l.map fun c => R.d (.str ⟨#[c]⟩) := by unfold chrs; simp
theorem empty_tx : (PySem.Str.ofString "") = Tx [] := by decide +kernel
theorem slash_tx : (PySem.Str.ofString "/") = Tx [47] := by decide +kernel
theorem empty_tx2 : Str.empty = Tx [] := by decide +kernel
end Z

set_option Elab.async false
set_option linter.all false
set_option maxRecDepth 100000
/-! Z42: walking into a construct with what comes after kept closed (nested calls). -/
namespace Z
open PySem PySem.Spec PyProof.Rows L2 RZ
variable {r : Rho} {S : Sto}
theorem setI {i : Nat} {w : PE1} {N : En} (h : ∀ P : PK1, (∀ x S1, (bindV x S1 fun y S2 => N.nx (r.set i (some y)) S2) → P x S1) → w r S P) : wSet i w N r S := h _ fun _ _ h => h
theorem retI {w : PE1} {N : En} (h : ∀ P : PK1, (∀ x S1, bindV x S1 N.rt → P x S1) → w r S P) : wRet w N r S := h _ fun _ _ h => h
theorem callI {sp : SpZ} {n : Nat} {ws : PA1} {W : PK1} (h : ∀ P : List SV → Sto → Prop, (∀ xs S1, (bindVs xs S1 fun rs S2 => callL sp n rs S2 W) → P xs S1) → ws r S P) : wCall sp n ws r S W := h _ fun _ _ h => h
theorem consI {w : PE1} {ws : PA1} {K : List SV → Sto → Prop} (h : ∀ P : PK1, (∀ x S1, (ws r S1 fun xs S2 => K (x :: xs) S2) → P x S1) → w r S P) : wCons w ws r S K := h _ fun _ _ h => h
theorem tupI {ws : PA1} {W : PK1} (h : ∀ P : List SV → Sto → Prop, (∀ xs S1, (match dataOf xs with | some ds => ds.length ≤ 16777216 ∧ W (.r (.d (.tup ds))) S1 | none => False) → P xs S1) → ws r S P) : wTup ws r S W := h _ fun _ _ h => h
theorem lstI {ws : PA1} {W : PK1} (h : ∀ P : List SV → Sto → Prop, (∀ xs S1, (match dataOf xs with | some ds => ds.length ≤ 16777216 ∧ W (.f ds) S1 | none => False) → P xs S1) → ws r S P) : wLst ws r S W := h _ fun _ _ h => h
theorem binI {rp : P2} {wa wb : PE1} {W : PK1} (h : ∀ P : PK1, (∀ x S1, (wb r S1 fun y S2 => rp x y S2 W) → P x S1) → wa r S P) : wBin rp wa wb r S W := h _ fun _ _ h => h
theorem testI {w : PE1} {W : Bool → Sto → Prop} (h : ∀ P : PK1, (∀ x S1, wTest (fun _ S2 K => K x S2) r S1 W → P x S1) → w r S P) : wTest w r S W := h _ fun _ _ h => h
theorem peI {w : PE1} {W : PK1} (h : ∀ P : PK1, (∀ x S1, W x S1 → P x S1) → w r S P) : w r S W := h _ fun _ _ h => h
theorem ifI {c : PT1} {t u : PS1} {N : En} (h : ∀ P : Bool → Sto → Prop, (∀ b S1, (if b = true then t N r S1 else u N r S1) → P b S1) → c r S P) : wIf c t u N r S := h _ fun _ _ h => h
theorem seq2 {t u v : PS1} {N : En} {r : Rho} {S : Sto} (h : ∀ P4 : Rho → Sto → Prop, (∀ r S, v N r S → P4 r S) → ∀ P3 : Rho → Sto → Prop, (∀ r S, u { nx := P4, rt := N.rt, bk := N.bk, ct := N.ct } r S → P3 r S) → t { nx := P3, rt := N.rt, bk := N.bk, ct := N.ct } r S) : wSeq t (wSeq u v) N r S :=
  h (v N) (fun _ _ h => h) _ fun _ _ h => h
end Z

set_option Elab.async false
set_option linter.all false
set_option maxRecDepth 100000
/-! Z45: numbers of up to 4,300 figures as texts, and back: the limit on figures stands as it is in a fresh interpreter. -/
namespace Z
open PySem PySem.Spec PyProof.Rows L2 RZ
theorem max_digits {M : Model} {A : Around} {E : Value → Shared → Prop} {s : Shared} {Q : Nat → Shared → Prop} (hn : s.heap.NoDigits) (h : Q 4300 s) : wpAny M A Builtin.intMaxStrDigits Q E s := by
  obtain ⟨mc, h1, h2⟩ := hn
  unfold Builtin.intMaxStrDigits
  refine wpAny_bind (wpAny_nsGet h1 ?_)
  rw [h2]
  exact wpAny_pure h
/-- a long text -/
theorem wp_textB {M : Model} {A : Around} {E : Value → Shared → Prop} {s : Shared} {Q : Value → Shared → Prop} {v : Value} {text : List Nat} {n : Int} (hn : s.heap.NoDigits)
    (big : ¬ (text.takeWhile (· != 0)).length ≤ 640) (rd : (int_private% "readNumeral") 4300 10 (text.takeWhile (· != 0)) = (int_private% "Numeral.value") n)
    (all : ((text.takeWhile (· != 0)).length == text.length) = true) (h : Q (.int n s.toks) { s with toks := s.toks + 1 }) : wpAny M A ((int_private% "intFromText") v text 10) Q E s := by
  obtain ⟨hp, g, d, tk, os⟩ := s
  repeat (any_goals (first
    | assumption
    | (with_reducible refine wpAny_ite_false (decide_eq_false big) ?_)
    | (with_reducible refine wpAny_ite_true (decide_eq_true all) ?_)
    | (refine max_digits hn ?_)
    | wp_step))
  all_goals (try rw [rd])
  all_goals (try dsimp only)
  repeat (any_goals (first
    | assumption
    | (with_reducible refine wpAny_ite_true (decide_eq_true all) ?_)
    | wp_step))
structure Seal (p : Prop) : Prop where
  out : p
set_option maxHeartbeats 4000000 in
theorem meets_textB {x : PySem.Str} {u : Tok} {n : Int} (hz : x.length ≤ sizeLine) (big : ¬ (numSeenOf x).length ≤ 640) (hx : PySem.intText? x = some n) :
    Meets (Builtin.«int.__new__» ⟨[.type "int", .str x u], []⟩) (fun _ R s => s.heap.NoDigits ∧ R (.ok (.ret (.int n s.toks))) { s with toks := s.toks + 1 }) :=
  .of_wp fun prog w A R s hs => by
    obtain ⟨hp, g, d, tk, os⟩ := s
    obtain ⟨hn, h⟩ := hs
    have f1 := F.conv_sub_int
    have f2 := F.madeHere_int
    have f3 := PySem.W.KIN.str_int
    have f4 := PySem.W.KIN.str_idx
    have f5 := PySem.W.KIN.str_trunc
    have f6 : typeOf (.str x u) = pure (.type "str") := rfl
    have hr : (int_private% "readNumeral") 4300 10 (numSeenOf x) = (int_private% "Numeral.value") n ∧ ((numSeenOf x).length == (numTextOf x).length) = true := by
      rcases read4300 x hz with ⟨m, h1, h2, h3⟩ | ⟨h1, _⟩
      · rw [hx] at h1
        injection h1 with h1
        subst h1
        exact ⟨h3, h2⟩
      · rw [hx] at h1
        cases h1
    have hk := Seal.mk (And.intro big hr)
    clear hz big hr hx
    have hn' := Seal.mk hn
    clear hn
    repeat (any_goals (first
      | assumption
      | ((with_reducible show wpAny _ _ ((int_private% "intFromText") _ _ _) _ _ _); refine wp_textB hn'.out hk.out.1 hk.out.2.1 hk.out.2.2 ?_)
      | wp_step))
    all_goals first | exact ⟨_, rfl, h⟩ | skip
theorem call_textB {prog : Program} {w : World} {A : Around} {E : Value → Shared → Prop} {s : Shared} {Q : Value → Shared → Prop} {x : PySem.Str} {t : Tok} {n : Int} (hn : s.heap.NoDigits) (hx : PySem.intText? x = some n) (hz : x.length ≤ sizeLine) (he : (numSeenOf x).length = x.length)
    (h : Q (.int n s.toks) { s with toks := s.toks + 1 }) : wpAny (model prog w) A (call (.type "int") [.str x t]) Q E s := by
  by_cases hl : x.length ≤ 640
  · exact PySem.W.KIN.call_text hx hl h
  · exact call_int_1 (meets_textB hz (by omega) hx) ⟨hn, rfl, h⟩
section
variable {X : Cx}
theorem inv_digits {pins : List (Addr × Obj)} {σ : L2.St} {H : Hp} {s : Shared} (I : Inv X pins σ H s) (hd : X.base.NoDigits) : s.heap.NoDigits := hd.keeps I.bk
/-- int(text), up to 4,300 figures -/
abbrev fIntTB : PF := fun xs S W => match xs with
  | [.r (.d (.str a))] => ∃ n : Int, intText? a = some n ∧ a.length ≤ 16777216 ∧ (numSeenOf a).length = a.length ∧ W (.r (.d (.int n))) S
  | _ => False
theorem f_intTB (hd : X.base.NoDigits) : FnP X (.type "int") fIntTB := by
  refine ⟨fun xs H Q => ∃ a n, xs = [.str a] ∧ PySem.intText? a = some n ∧ a.length ≤ sizeLine ∧ (numSeenOf a).length = a.length ∧ Q (.int n) H, fun pins s σ H xs us Q I rs h => ?_, fun xs S W vs m H H0 Q r q w f => ?_⟩
  · obtain ⟨a, n, rfl, h1, h2, h3, h⟩ := h
    cases rs with
    | cons r1 rs =>
      cases rs
      obtain ⟨t, rfl⟩ := r1
      exact call_textB (inv_digits I hd) h1 h2 h3 ⟨.int n, H, I.tok _, ⟨_, rfl⟩, h⟩
  · unfold fIntTB at w
    split at w
    · rename_i a
      obtain ⟨v, rfl, q1⟩ := q.one
      obtain rfl : v = V.str a := q1
      obtain ⟨n, w1, w2, w3, w4⟩ := w
      exact ⟨a, n, rfl, w1, by rw [sizeLine_eq]; exact w2, w3, f.here r (x := .r (.d (.int n))) rfl w4⟩
    · exact w.elim
/-- str(number), up to 4,300 figures -/
abbrev fStrB : PF := fun xs S W => match xs with
  | [.r (.d (.int i))] => Fg 4300 i ∧ W (.r (.d (.str (numT i)))) S
  | _ => False
theorem f_strB (hd : X.base.NoDigits) (hc : X.calm = true := by rfl) : FnP X (.type "str") fStrB := by
  refine ⟨fun xs H Q => ∃ i, xs = [.int i] ∧ i.natAbs < 10 ^ 4300 ∧ Q (.str (numT i)) H, fun pins s σ H xs us Q I rs h => ?_, fun xs S W vs m H H0 Q r q w f => ?_⟩
  · obtain ⟨i, rfl, h1, h⟩ := h
    cases rs with
    | cons r1 rs =>
      cases rs
      obtain ⟨t, rfl⟩ := r1
      exact str_of_int_or (I.ok.hd hc) (inv_digits I hd) (fun _ => ⟨.str (numT i), H, I.tok _, ⟨_, rfl⟩, h⟩) fun h2 => absurd h1 (Nat.not_lt.mpr h2)
  · unfold fStrB at w
    split at w
    · rename_i i
      obtain ⟨v, rfl, q1⟩ := q.one
      obtain rfl : v = V.int i := q1
      exact ⟨i, rfl, w.1.lt, f.here r (x := .r (.d (.str (numT i)))) rfl w.2⟩
    · exact w.elim
end
end Z

set_option Elab.async false
set_option linter.all false
set_option maxRecDepth 100000
/-! Z46: the head of a law whose texts have more than 640 figures: the limit on figures is known at the base, too. -/
namespace Z
open PySem PySem.Spec PyProof.Rows L2 RZ
section
variable {P : Program} {w : World} {K : PySem.W.Frag} {mg mb : Str → Option Value} {CX : CXT} {k : Nat} {fa a : Addr} {fd : FuncData} {x : Str} {sp : Sp} {s1 : Shared} {vs : List Value} {ns : List Int}
/-- the law's call from a heap in which nothing but the script may be told -/
theorem enterD (inK : K.In s1.heap) (gl : s1.heap.Ns mainGlobals mg) (bl : s1.heap.Ns builtinsNs mb) (bo : ∀ x : Str, x ≠ "__name__" → mb x = bootBuiltins x) (nl : s1.heap.NoLimit) (nd : s1.heap.NoDigits) (g0 : s1.gens = #[])
    (sc : s1.heap.get? a = some { cls := .type "list", data := .seq vs.toArray }) (hr : Room k callerA)
    (F : ∀ base : Heap, K.In base → base.Ns mainGlobals mg → base.NoDigits → FnOk P w K mg base CX k fa fd [x] sp) (bind : ∀ (s : Shared) (u : Value), BindsTo s fd ⟨[u], []⟩ [(x, u)]) (hCX : ∀ H e s', CX [] H s1 (fun _ _ _ => False) e s' → False)
    {H : Hp} (only : Only H) (told : sp [.ref a] H (fun v _ => v = .bl true) fun _ _ _ => False) (ok : HOk P w H s1.heap) (at_ : ∀ b, H b ≠ none → b = a ∧ K.lookup a = none) :
    codeAny (model P w) callerA (.call (.ref fa) ⟨[.ref a], []⟩) (fun r s' => r = .ok (.ret (.bool true)) ∧ OldK s1.heap s'.heap ∧ s'.os = s1.os ∧ AllBare s'.gens) s1 := by
  let B := hidT s1.heap H
  have isA : ∀ {b}, H b ≠ none → b = a := fun n => (at_ _ n).1
  have stay : ∀ {b o}, s1.heap.get? b = some o → (b = a → H b = none) → B.get? b = some o := fun {b o} e n => by
    refine hidT_get e ?_
    by_cases q : H b = none
    · exact q
    · exact n (isA q)
  have space : ∀ {b m}, s1.heap.Ns b m → B.Ns b m := fun {b m} z => by
    obtain ⟨o, es, ep, e, d, r⟩ := z
    refine ⟨o, es, ep, stay e fun q => ?_, d, r⟩
    subst q
    rw [sc] at e
    cases e
    have d' : (Data.seq vs.toArray : Data) = .dict es ep := d
    cases d'
  have kB : K.In B := fun b o e => stay (inK b o e) fun q => by
    subst q
    by_cases z : H b = none
    · exact z
    · rw [(at_ _ z).2] at e; cases e
  have dB : B.NoDigits := let ⟨mc, u, v⟩ := nd; ⟨mc, space u, v⟩
  have mB : Mod K mg B := by
    obtain ⟨mc, u, v⟩ := nl
    exact ⟨kB, space gl, ⟨mb, space bl, bo⟩, mc, space u, v⟩
  have env : Env0 P w K mg B callerA [] s1 H := { frames := rfl, mod := mB, bs := fun b o e => of_hidT e, bsz := Nat.le_of_eq (hidT_size _ _), funs := trivial, frf := fun b hb => absurd (show b ∈ ([] : List Addr) from hb) List.not_mem_nil, hok := ok, bare := .of_eq g0 }
  have run := (F B kB (space gl) dB).run callerA [] s1 H ⟨[.ref a], []⟩ [.ref a] [.ref a] _ _ hr env (bind s1 (.ref a)) (.cons rfl .nil) told
  refine codeAny_mono run fun r s' h => ?_
  match r, h with
  | .error e, h => exact absurd h (hCX H e s')
  | .ok (.ret u), ⟨v, H', os, bare, un, ok', rv, q⟩ =>
    have q : v = .bl true := q
    subst q
    have e : u = Value.bool true := rv
    subst e
    refine ⟨rfl, OldK.of_keep fun b o e => ?_, os, bare⟩
    by_cases q : H b = none
    · exact un.keep b o e q (fun z => absurd (show b ∈ ([] : List Addr) from z) List.not_mem_nil) (by simp)
    · rcases only b with z | ⟨ob, xs, z⟩
      · exact absurd z q
      · have before := (ok b _ z).1
        have after := (ok' b _ (un.frzs b ob _ z)).1
        rw [e] at before
        cases before
        exact after
  | .ok .next, h => exact h.elim
  | .ok .brk, h => exact h.elim
  | .ok .cont, h => exact h.elim
theorem law_callD (inK : K.In s1.heap) (gl : s1.heap.Ns mainGlobals mg) (bl : s1.heap.Ns builtinsNs mb) (bo : ∀ x : Str, x ≠ "__name__" → mb x = bootBuiltins x) (nl : s1.heap.NoLimit) (nd : s1.heap.NoDigits) (g0 : s1.gens = #[])
    (sc : s1.heap.get? a = some { cls := .type "list", data := .seq vs.toArray }) (iv : IntsAre vs ns) (few : ns.length ≤ sizeLine) (hr : Room k callerA)
    (F : ∀ base : Heap, K.In base → base.Ns mainGlobals mg → base.NoDigits → FnOk P w K mg base CX k fa fd [x] sp) (bind : ∀ (s : Shared) (u : Value), BindsTo s fd ⟨[u], []⟩ [(x, u)])
    (told : ∀ H : Hp, Only H → SqL K H a (ns.map V.int) → sp [.ref a] H (fun v _ => v = .bl true) fun _ _ _ => False) (hCX : ∀ H e s', CX [] H s1 (fun _ _ _ => False) e s' → False) :
    codeAny (model P w) callerA (.call (.ref fa) ⟨[.ref a], []⟩) (fun r s' => r = .ok (.ret (.bool true)) ∧ OldK s1.heap s'.heap ∧ s'.os = s1.os ∧ AllBare s'.gens) s1 := by
  have rv := vals_ints iv
  have ln := iv.length
  by_cases own : K.lookup a = none
  · let o : Obj := { cls := .type "list", data := .seq vs.toArray }
    let H : Hp := fun b => if b = a then some (.frz o (.lst (ns.map V.int))) else none
    have here : H a = some (.frz o (.lst (ns.map V.int))) := if_pos rfl
    have else' : ∀ {b}, b ≠ a → H b = none := fun h => if_neg h
    have only : Only H := fun b => by
      by_cases q : b = a
      · subst q; exact .inr ⟨_, _, here⟩
      · exact .inl (else' q)
    refine enterD inK gl bl bo nl nd g0 sc hr F bind hCX only (told H only (.inl (.inr ⟨o, here⟩))) (fun b u z => ?_) fun b z => ?_
    · by_cases q : b = a
      · subst q
        rw [here] at z
        cases z
        exact ⟨sc, by rw [List.length_map]; exact few, vs, _, rv, sc⟩
      · rw [else' q] at z; cases z
    · by_cases q : b = a
      · exact ⟨q, own⟩
      · exact absurd (else' q) z
  · obtain ⟨o, ho⟩ : ∃ o, K.lookup a = some o := by
      cases q : K.lookup a with
      | none => exact absurd q own
      | some o => exact ⟨o, rfl⟩
    have e := inK a o ho
    rw [sc] at e
    cases e
    refine enterD inK gl bl bo nl nd g0 sc hr F bind hCX (H := fun _ => none) (fun _ => .inl rfl) (told _ (fun _ => .inl rfl) (.inr ⟨_, vs.toArray, _, ho, rfl, rfl, rfl, by rw [List.size_toArray, ln]; exact few, by simpa using rv⟩)) (fun b u z => nomatch z) fun b z => absurd rfl z
end
theorem walk_ofD {l : PySem.W.OpenLaw} {n k : Nat} {q : Program} {loose : List Str} {XP : (Str → Option Value) → Heap → Prop} {YP : World → Heap → Prop} {d : DefRec} {K : Params → PySem.W.Frag} {CX : World → CXT} {sp : World → Sp} {x : Str}
    (hn : l.most = some n) (hn2 : n ≤ sizeLine) (hdf : d.params.defaults = []) (hr : Room k callerA) (hY : ∀ (w : World) (h : Heap), YP w h → (K w.params).In h)
    (F : ∀ (w : World) (mg : Str → Option Value) (fa : Addr) (h : Heap), (K w.params).In h → h.Ns mainGlobals mg → mg d.name = some (.ref fa) → ∃ fd : FuncData, (∀ (s : Shared) (u : Value), BindsTo s fd ⟨[u], []⟩ [(x, u)]) ∧
      ∀ base : Heap, (K w.params).In base → base.Ns mainGlobals mg → base.NoDigits → FnOk l.prog w (K w.params) mg base (CX w) k fa fd [x] (sp w))
    (told : ∀ (w : World) (H : Hp) (a : Addr) (ns : List Int), ns.length ≤ n → (∀ z ∈ ns, Builtin.Int.intBits z ≤ 1048576) → Only H → SqL (K w.params) H a (ns.map V.int) → sp w [.ref a] H (fun v _ => v = .bl true) fun _ _ _ => False)
    (hCX : ∀ (w : World) (H : Hp) (s : Shared) (e : Value) (s' : Shared), CX w [] H s (fun _ _ _ => False) e s' → False) : PySem.W.WalkO q loose XP YP l.row.toRowW d [] (fun f vs => PySem.call f vs) := by
  refine Att.attach_callB hn hdf fun w s0 s1 mg mb fa o pm cd doc a vs ns G Y ho hd hcd hmg hobj hints hlen hbits hg => ?_
  obtain ⟨fd, hb, hF⟩ := F w mg fa _ (hY w _ Y) G.T.g hmg
  exact law_callD (hY w _ Y) G.T.g G.T.b G.T.builtins G.T.nolimit G.T.nodigits hg hobj hints (Nat.le_trans hlen hn2) hr hF hb (fun H hO hS => told w H a ns hlen hbits hO hS) fun H e s' => hCX w H s1 e s'
end Z

set_option Elab.async false
set_option linter.all false
set_option maxRecDepth 100000
/-! Z47: for, with a body that may raise. -/
namespace Z
open PySem PySem.Spec PyProof.Rows L2 RZ
section
variable {X : Cx} {Wx : WX} {tg iter : Expr} {body : List Stmt} {pos : Pos} {tb : PX1}
def forX (k : Nat) (chk : Sto → Prop) (f : R → Rho → Option Rho) (body : PX1) (N : EX) : List R → Rho → Sto → Prop
  | [], r, S => chk S ∧ N.n.nx r S
  | x :: xs, r, S => chk S ∧ match f x r with
    | some r1 => body { n := { nx := fun r2 S2 => ∃ r3 S3, Cut k r2 S2 r3 S3 ∧ forX k chk f body N xs r3 S3, rt := N.n.rt, bk := N.n.nx, ct := fun r2 S2 => ∃ r3 S3, Cut k r2 S2 r3 S3 ∧ forX k chk f body N xs r3 S3 }, ex := N.ex } r1 S
    | none => False
abbrev xFor (wi : PI1) (f : R → Rho → Option Rho) (body : PX1) : PX1 := fun N r S => wi r S fun it S1 => forX S1.length it.chk f body N it.items r S1
theorem xs_for {wi : PI1} {g : TG} {vs : List Nat} {f : R → Rho → Option Rho} (hp : PassesOwn (model X.prog X.w) X.A X.env X.xe) (hc : X.calm = true) (hi : WI X tg iter wi) (hg : PG X tg g) (ht : Tgt X.K g vs f) (hb : WXs X Wx body tb)
    (hs : ∀ x, foldedSetIterable iter X.env x = pure x := by intro _; rfl) : WX1 X Wx (.For tg iter body [] pos) (xFor wi f tb) :=
  ⟨psImp (ps_for hp hc hi.pi hg hb.pss hs) fun D s H ⟨m, r, S, N, hE, hS, hw, hf, hx⟩ => ⟨m, r, S, _, hE, hS, hw, fun it S1 m1 H1 J h1 g1 r1 ok => by
    refine ⟨fun i n s2 H2 => ∃ m2 r2 S2, n = it.items.length - i ∧ Grow m1 H1 m2 H2 ∧ RepE X.K m2 H2 r2 s2 ∧ RepS X.K m2 H2 S2 ∧ forX S1.length it.chk f tb N (it.items.drop i) r2 S2, ⟨it.items.length, m1, r, S1, by simp, Grow.refl, hE.grow g1, r1, by simpa using h1⟩, ?_⟩
    rintro i n s2 H2 ⟨m2, r2, S2, rfl, g2, e2, q2, h2⟩
    cases e : it.items[i]? with
    | none =>
      have hl := List.getElem?_eq_none_iff.mp e
      rw [List.drop_eq_nil_of_le hl] at h2
      obtain ⟨h2, h3⟩ := h2
      exact .inl ⟨(ok.run i m2 H2 S2 g2 q2 h2).2 e, hf.nx r2 S2 s2 m2 H2 h3 (g1.trans g2) e2 q2⟩
    | some x =>
      obtain ⟨hl, ex⟩ := List.getElem?_eq_some_iff.mp e
      rw [List.drop_eq_getElem_cons hl, ex] at h2
      obtain ⟨h2, h3⟩ := h2
      obtain ⟨go, yl⟩ := (ok.run i m2 H2 S2 g2 q2 h2).1 x e
      refine .inr ⟨go, fun s' H' => ∃ m', m' < it.items.length - i ∧ ∃ m2 r2 S2, m' = it.items.length - (i + 1) ∧ Grow m1 H1 m2 H' ∧ RepE X.K m2 H' r2 s' ∧ RepS X.K m2 H' S2 ∧ forX S1.length it.chk f tb N (it.items.drop (i + 1)) r2 S2, fun s' H' h => h, fun v H3 y3 => ?_⟩
      obtain ⟨g3, q3, qx⟩ := yl v H3 y3
      split at h3
      · rename_i r3 e3
        obtain ⟨s3, k1, k2, _⟩ := ht.run m2 H3 x v r2 r3 s2 qx (e2.grow g3) e3
        have g23 := g2.trans g3
        have again : ∀ r' S' s' m' H', (∃ r4 S4, Cut S1.length r' S' r4 S4 ∧ forX S1.length it.chk f tb N (it.items.drop (i + 1)) r4 S4) → Grow m2 H3 m' H' → RepE X.K m' H' r' s' → RepS X.K m' H' S' →
            ∃ m', m' < it.items.length - i ∧ ∃ m2 r2 S2, m' = it.items.length - (i + 1) ∧ Grow m1 H1 m2 H' ∧ RepE X.K m2 H' r2 s' ∧ RepS X.K m2 H' S2 ∧ forX S1.length it.chk f tb N (it.items.drop (i + 1)) r2 S2 := fun r' S' s' m' H' ⟨r4, S4, cu, h4⟩ g' e' q' => by
          obtain ⟨m4, g4, e4, q4⟩ := cu.ok r1.len (g23.trans g') e' q'
          exact ⟨_, by omega, m4, r4, S4, rfl, g4, e4, q4, h4⟩
        exact k1 _ ⟨m2, r3, S2, _, k2, q3, h3, ⟨again, fun x S' v m' H' n g' q' w' => hf.rt x S' v m' H' n ((g1.trans g23).trans g') q' w', fun r' S' s' m' H' n g' e' q' => hf.nx r' S' s' m' H' n ((g1.trans g23).trans g') e' q', again⟩, hx.later (g1.trans g23)⟩
      · exact h3.elim⟩⟩
theorem forX_ix {k : Nat} {chk : Sto → Prop} {f : R → Rho → Option Rho} {body : PX1} {N : EX} {items : List R} (I : Nat → Rho → Sto → Prop)
    (hs : ∀ i x, items[i]? = some x → ∀ r S, I i r S → ∀ M : Rho → Sto → Prop, (∀ r' S', I (i + 1) r' S' → M r' S') → chk S ∧ match f x r with
      | some r1 => body { n := { nx := fun r2 S2 => ∃ r3 S3, Cut k r2 S2 r3 S3 ∧ M r3 S3, rt := N.n.rt, bk := N.n.nx, ct := fun r2 S2 => ∃ r3 S3, Cut k r2 S2 r3 S3 ∧ M r3 S3 }, ex := N.ex } r1 S
      | none => False)
    (hd : ∀ r S, I items.length r S → chk S ∧ N.n.nx r S) {r : Rho} {S : Sto} (h0 : I 0 r S) : forX k chk f body N items r S := by
  have key : ∀ (xs ys : List R), items = ys ++ xs → ∀ r S, I ys.length r S → forX k chk f body N xs r S := by
    intro xs
    induction xs with
    | nil => intro ys e r S h; exact hd r S (by rw [e, List.append_nil]; exact h)
    | cons x xs ih =>
      intro ys e r S h
      unfold forX
      exact hs ys.length x (by rw [e]; simp) r S h _ fun r' S' h' => ih (ys ++ [x]) (by rw [e]; simp) r' S' (by rw [List.length_append]; exact h')
  exact key items [] rfl r S h0
end
end Z

set_option Elab.async false
set_option linter.all false
set_option maxRecDepth 100000
set_option maxHeartbeats 1000000
/-! Z48: e.replace("..", ["..", .., ..][i]); defs whose bodies begin with a token given out. -/
namespace Z
open PySem PySem.Spec PyProof.Rows L2 RZ
/-- a list of written texts: the object is known, the texts are objects of their own -/
structure FourAt (H : Hp) (t0 : Nat) (zs : List Str) (v : V) (H' : Hp) : Prop where
  ex : ∃ (a : Addr) (o : Obj) (ts : List Value) (n : Nat), v = .ref a ∧ H a = none ∧ o.cls = .type "list" ∧ o.data = .seq ts.toArray n ∧ ts.length = zs.length ∧
    (∀ (i : Nat) (z : Str), zs[i]? = some z → ∃ t, t0 < t ∧ ts[i]? = some (Value.str z t)) ∧ H' = upd H a (.frz o (.lst (zs.map V.str)))
abbrev wRepC (y : Str) (zs : List Str) (wo wi : PE1) : PE1 := fun r S W => wo r S fun x S1 => match x with
  | .r (.d (.str a)) => wi r S1 fun j S2 => match j with
    | .r (.d (.int i)) => ∃ z, (0 ≤ i ∧ i < zs.length) ∧ zs[i.toNat]? = some z ∧ a.length + (a.length + 1) * z.length ≤ 16777216 ∧ W (.r (.d (.str (Txt.replace a y z)))) S2
    | _ => False
  | _ => False
structure WET (X : Cx) (e : Expr) (w : PE1) : Prop where
  pet : PET X e (up X.K w)
section
variable {X : Cx} {o ie : Expr} {wo wi : PE1} {y z0 z1 z2 z3 : Str} {j k0 k1 k2 k3 : Nat} {c c0 c1 c2 c3 apos lp sp pos : Pos}
theorem run_four {pins : List (Addr × Obj)} {s : Shared} {σ : L2.St} {H : Hp} {t0 : Nat} (I : Inv X pins σ H s) (h : t0 < s.toks) :
    wpAny (model X.prog X.w) X.A (eval (.List [.Constant (.str z0) k0 c0, .Constant (.str z1) k1 c1, .Constant (.str z2) k2 c2, .Constant (.str z3) k3 c3] lp) X.env) (EP X pins σ (FourAt H t0 [z0, z1, z2, z3])) X.xe s := by
  refine wpAny_List_spliced ?_
  show wpAny _ _ (spliced ((false, eval (.Constant (.str z0) k0 c0) X.env) :: backTo lp (starEach [.Constant (.str z1) k1 c1, .Constant (.str z2) k2 c2, .Constant (.str z3) k3 c3] X.env))) _ _ s
  refine Calls.spliced_cons (Calls.Constant_str ?_)
  show wpAny _ _ (spliced ((false, eval (.Constant (.str z1) k1 c1) X.env) :: backTo lp (starEach [.Constant (.str z2) k2 c2, .Constant (.str z3) k3 c3] X.env))) _ _ _
  refine Calls.spliced_cons (Calls.Constant_str ?_)
  show wpAny _ _ (spliced ((false, eval (.Constant (.str z2) k2 c2) X.env) :: backTo lp (starEach [.Constant (.str z3) k3 c3] X.env))) _ _ _
  refine Calls.spliced_cons (Calls.Constant_str ?_)
  show wpAny _ _ (spliced ((false, eval (.Constant (.str z3) k3 c3) X.env) :: backTo lp (starEach [] X.env))) _ _ _
  refine Calls.spliced_cons (Calls.Constant_str (Calls.spliced_nil ?_))
  have h2 : (4 : Nat) ≤ sizeLine := by decide
  refine ⟨h2, .ref s.heap.objs.size, upd H s.heap.objs.size (.frz { cls := .type "list", data := .seq #[.str z0 s.toks, .str z1 (s.toks + 1), .str z2 (s.toks + 1 + 1), .str z3 (s.toks + 1 + 1 + 1)] 0 } (.lst ([z0, z1, z2, z3].map V.str))), ?_, rfl, ?_⟩
  · exact I.laid (t' := s.toks + 1 + 1 + 1 + 1) (fun b u e => Heap.get?_push_of_some _ e) (Nat.le_refl _) ⟨Heap.get?_push_size _ rfl, h2, [.str z0 s.toks, .str z1 (s.toks + 1), .str z2 (s.toks + 1 + 1), .str z3 (s.toks + 1 + 1 + 1)], 0, .cons ⟨_, rfl⟩ (.cons ⟨_, rfl⟩ (.cons ⟨_, rfl⟩ (.cons ⟨_, rfl⟩ .nil))), Heap.get?_push_size _ rfl⟩
  · refine ⟨_, _, [Value.str z0 s.toks, Value.str z1 (s.toks + 1), Value.str z2 (s.toks + 1 + 1), Value.str z3 (s.toks + 1 + 1 + 1)], 0, rfl, I.hok.fresh (Nat.le_refl _), rfl, rfl, rfl, fun i z e => ?_, rfl⟩
    match i, e with
    | 0, e => cases e; exact ⟨s.toks, by omega, rfl⟩
    | 1, e => cases e; exact ⟨s.toks + 1, by omega, rfl⟩
    | 2, e => cases e; exact ⟨s.toks + 1 + 1, by omega, rfl⟩
    | 3, e => cases e; exact ⟨s.toks + 1 + 1 + 1, by omega, rfl⟩
theorem we_repC (ho : WE X o wo) (hi : WE X ie wi) (hy : (y == z0) = false ∧ (y == z1) = false ∧ (y == z2) = false ∧ (y == z3) = false := by decide)
    (hs : PlainIx ie := by exact fun _ _ => rfl)
    (hst : starEach [.Constant (.str y) j c, .Subscript (.List [.Constant (.str z0) k0 c0, .Constant (.str z1) k1 c1, .Constant (.str z2) k2 c2, .Constant (.str z3) k3 c3] lp) ie sp] X.env =
      [(false, eval (.Constant (.str y) j c) X.env), (false, eval (.Subscript (.List [.Constant (.str z0) k0 c0, .Constant (.str z1) k1 c1, .Constant (.str z2) k2 c2, .Constant (.str z3) k3 c3] lp) ie sp) X.env)] := by rfl)
    (hbase : attributeBase o "replace" X.env (eval o X.env) = eval o X.env := by rfl) (hline : (apos.endLine == pos.line) = true := by rfl) :
    WET X (.Call (.Attribute o "replace" apos) [.Constant (.str y) j c, .Subscript (.List [.Constant (.str z0) k0 c0, .Constant (.str z1) k1 c1, .Constant (.str z2) k2 c2, .Constant (.str z3) k3 c3] lp) ie sp] [] pos) (wRepC y [z0, z1, z2, z3] wo wi) := by
  refine ⟨fun pins s σ H Q h0 I ⟨m, r, S, W, hE, hS, hw, hf⟩ => ?_⟩
  refine PySem.Call_method2 hbase hst hline (wpAny_mono (PySem.wpAny_toks (ho.pe.run pins s σ H _ I (up1 (Z := fun x S1 => match x with
    | .r (.d (.str a)) => wi r S1 fun j S2 => match j with
      | .r (.d (.int i)) => ∃ z, (0 ≤ i ∧ i < [z0, z1, z2, z3].length) ∧ [z0, z1, z2, z3][i.toNat]? = some z ∧ a.length + (a.length + 1) * z.length ≤ 16777216 ∧ W (.r (.d (.str (Txt.replace a y z)))) S2
      | _ => False
    | _ => False) (R := fun v H1 => ∃ a m1 S1, v = .str a ∧ Grow m H m1 H1 ∧ RepS X.K m1 H1 S1 ∧ wi r S1 fun j S2 => match j with
      | .r (.d (.int i)) => ∃ z, (0 ≤ i ∧ i < [z0, z1, z2, z3].length) ∧ [z0, z1, z2, z3][i.toNat]? = some z ∧ a.length + (a.length + 1) * z.length ≤ 16777216 ∧ W (.r (.d (.str (Txt.replace a y z)))) S2
      | _ => False) hE hS hw fun x S1 v m1 H1 h1 g1 r1 q1 => by
      split at h1
      · rename_i a
        obtain rfl : v = V.str a := q1
        exact ⟨a, m1, S1, rfl, g1, r1, h1⟩
      · exact h1.elim))) (fun v s1 q => ?_) fun _ _ z => z.2)
  obtain ⟨hk, v', H1, I1, r1, a, m1, S1, rfl, g1, q1, h1⟩ := q
  obtain ⟨tx, rfl⟩ := r1
  refine ⟨"str", _, PySem.F.plainAttrs_str, PySem.F.slot_str_replace, PySem.F.type_str_replace, typeIs_str _ _ _, (fun _ e => nomatch e), Calls.callWith_builtin rfl (Calls.evalArgs_plain (Calls.spliced_cons ?_))⟩
  refine Calls.Constant_str (Calls.spliced_cons (Subscript_ ?_))
  have hk1 : 1 ≤ s1.toks := Nat.le_trans h0 hk
  refine thn (run_four (t0 := s1.toks) (I1.tok (s1.toks + 1)) (by show s1.toks < s1.toks + 1; omega)) fun lv s2 ⟨x2, H2, I2, r2, q2⟩ => ?_
  obtain ⟨p, ob, ts, n, rfl, hp, hc, hd, hl, ht, rfl⟩ := q2.ex
  cases r2
  have g2 : Grow m1 H1 m1 (upd H1 p (.frz ob (.lst ([z0, z1, z2, z3].map V.str)))) := Grow.alloc hp
  have r2 := q1.alloc (o := .frz ob (.lst ([z0, z1, z2, z3].map V.str))) hp
  refine thn (hi.pe.run pins s2 σ _ (fun u H3 => ∃ i z m3 S3, u = V.int i ∧ Grow m1 (upd H1 p (.frz ob (.lst ([z0, z1, z2, z3].map V.str)))) m3 H3 ∧ RepS X.K m3 H3 S3 ∧ (0 ≤ i ∧ i < [z0, z1, z2, z3].length) ∧ [z0, z1, z2, z3][i.toNat]? = some z ∧ a.length + (a.length + 1) * z.length ≤ 16777216 ∧ W (.r (.d (.str (Txt.replace a y z)))) S3) I2 ⟨m1, r, S1, _, (hE.grow g1).grow g2, r2, h1, fun j S3 u m3 H3 h3 g3 r3 q3 => by
    split at h3
    · rename_i i
      obtain rfl : u = V.int i := q3
      obtain ⟨z, b1, b2, b3, b4⟩ := h3
      exact ⟨i, z, m3, S3, rfl, g3, r3, b1, b2, b3, b4⟩
    · exact h3.elim⟩) fun u s3 ⟨y3, H3, I3, r3, q3⟩ => ?_
  obtain ⟨i, z, m3, S3, rfl, g3, q3, ⟨b0, b1⟩, b2, b3, b4⟩ := q3
  obtain ⟨ti, rfl⟩ := r3
  have e3 : H3 p = some (.frz ob (.lst ([z0, z1, z2, z3].map V.str))) := g3.frz p _ _ upd_same
  have hob : s3.heap.get? p = some ob := (I3.hok p _ e3).1
  obtain ⟨t, t1, t2⟩ := ht _ _ b2
  have il : s3.heap.IsList p ts.toArray := ⟨ob, hob, hc, n, hd⟩
  refine item_listR il b0 (Int.lt_trans b1 (by show ((4 : Nat) : Int) < 2 ^ 63; decide)) (by simpa using t2) ?_ (hs _ _)
  refine Calls.spliced_nil ?_
  refine PySem.SC.replace (by show s1.toks ≠ 0; omega) (by show t ≠ 0; have : (t : Nat) > s1.toks := t1; exact Nat.ne_of_gt (by omega)) (by show s1.toks ≠ t; exact Nat.ne_of_lt t1) ?_ b3 fun t' k => ?_
  · have : z ∈ [z0, z1, z2, z3] := List.mem_of_getElem? b2
    simp only [List.mem_cons, List.not_mem_nil, or_false] at this
    rcases this with rfl | rfl | rfl | rfl
    · exact hy.1
    · exact hy.2.1
    · exact hy.2.2.1
    · exact hy.2.2.2
  · exact ⟨.str (Txt.replace a y z), H3, I3.tok k, ⟨t', rfl⟩, hf (.r (.d (.str _))) S3 _ m3 H3 b4 ((g1.trans g2).trans g3) q3 rfl⟩
end
/-! ### blocks -/
structure WST (X : Cx) (st : Stmt) (w : PS1) : Prop where
  pst : PST X st (upS X.K w)
structure WSsT (X : Cx) (st : List Stmt) (w : PS1) : Prop where
  psst : PSsT X st (upS X.K w)
section
variable {X : Cx} {st : Stmt} {rest : List Stmt} {e c : Expr} {pos : Pos} {we : PE1} {t u : PS1} {tc : PT1}
theorem wst_of (h : WS X st t) : WST X st t := ⟨PST.of h.ps⟩
theorem wst_ret (h : WET X e we) : WST X (.Return (some e) pos) (wRet we) := ⟨fun pins s σ H D h0 I hw => CwR.pst_ret h.pet pins s σ H D h0 I (by
  obtain ⟨m, r, S, N, hE, hS, hw, hf⟩ := hw
  exact ⟨m, r, S, _, hE, hS, hw, fun x S1 v m1 H1 h1 g1 r1 q1 => by
    obtain ⟨y, S2, m2, w2, g2, r2, q2, _⟩ := bindV_ok g1 r1 q1 h1
    exact hf.rt y S2 v m2 H1 w2 g2 r2 q2⟩)⟩
theorem wsst_of (h : WSs X rest t) : WSsT X rest t := ⟨PSsT.of h.pss⟩
theorem wsst_one (h1 : WST X st t) : WSsT X [st] t := ⟨CwR.psst_one h1.pst⟩
theorem wsst_cons (h1 : WST X st t) (h2 : WSsT X rest u) : WSsT X (st :: rest) (wSeq t u) :=
  ⟨fun pins s σ H D h0 I hw => psst_cons h1.pst h2.psst pins s σ H D h0 I (by
    obtain ⟨m, r, S, N, hE, hS, hw, hf⟩ := hw
    exact ⟨m, r, S, _, hE, hS, hw, ⟨fun r' S' s' m' H' n g e q => ⟨m', r', S', N, e, q, n, hf.later g⟩, hf.rt, hf.bk, hf.ct⟩⟩)⟩
theorem wst_if {p q : List Stmt} (hc : WT X c tc) (ha : WSsT X p t) (hb : WSsT X q u) : WST X (.If c p q pos) (wIf tc t u) := ⟨fun pins s σ H D h0 I hw => CwR.pst_if hc.pt ha.psst hb.psst pins s σ H D h0 I (by
  obtain ⟨m, r, S, N, hE, hS, hw, hf⟩ := hw
  exact ⟨m, r, S, _, hE, hS, hw, fun b S1 m1 H1 h1 g1 r1 => by
    cases b with
    | true => exact ⟨m1, r, S1, N, hE.grow g1, r1, h1, hf.later g1⟩
    | false => exact ⟨m1, r, S1, N, hE.grow g1, r1, h1, hf.later g1⟩⟩)⟩
end
theorem psst_nox {X : Cx} {st : List Stmt} {t : TS} (h : PSsT X.nox st t) : PSsT X st t := fun pins s σ H D h0 I hw =>
  wpAny_mono (h pins s σ H D h0 (I.wish _) hw) (fun _ _ q => q.unwish) fun _ _ z => False.elim z
section
variable {P : Program} {w : World} {K : PySem.W.Frag} {mg : Str → Option Value} {base : Heap}
theorem fn_okT {x : Str} {st : Stmt} {f : Addr} {fd : FuncData} {N ps : List Str} {k : Nat} {wb : PS1} {sp : SpZ} (F : Fun K x x st f fd) (sc : FnScope N ps (defScope st))
    (hnc : ∀ y ∈ (defScope st).names, y.2 ≠ .cell) (hps : 1 ≤ ps.length)
    (hbody : ∀ (cdv : Value) (A : Around) (outer : List Env) (s : Shared) (H : Hp) (E : XK), Room k (A.deeper (envOfC x (defScope st) s.heap.objs.size f cdv)) →
      WSsT (cxOf CX0 P w K mg base N x (defScope st) f cdv A outer s H E).nox (defBody st) wb)
    (hread : ∀ rs S W, rs.length = ps.length → sp rs S W → wb { nx := fun _ S1 => retN S.length W (.d .non) S1, rt := retN S.length W } (start1 N.length rs) S) : FnOk P w K mg base CX0 (k + 1) f fd ps (liftSp K ps.length sp) := by
  obtain ⟨oc, od, kV, doc, pm, an, cdv, ct, osl, rfl, lk, hcd⟩ := F.ex
  refine fn_ofT lk hcd sc hnc hps (fun vs H Q E ⟨m, rs, S, W, hl, q, _⟩ => (RepRs.len q).trans hl) fun A outer s H vs Q E hr ⟨m, rs, S, W, hl, q, hS, hsp, hf⟩ => ⟨_, psst_nox (hbody cdv A outer s H E hr).psst, ?_⟩
  refine ⟨m, start1 N.length rs, S, _, ?_, hS, hread rs S W hl hsp, ⟨fun r' S' s' m' H' n g e q' => (by
      obtain ⟨y, T, m2, a, b, c, d⟩ := retN_ok (K := K) (x := .d .non) (v := .non) hS.len g q' rfl n
      exact hf y T .non m2 H' a b c d), fun y S' v m' H' n g q' w' => (by
      obtain ⟨y2, T, m2, a, b, c, d⟩ := retN_ok hS.len g q' w' n
      exact hf y2 T v m2 H' a b c d), fun _ _ _ _ _ n => n.elim, fun _ _ _ _ _ n => n.elim⟩⟩
  refine ⟨?_, fun i y e => ?_⟩
  · unfold L2.start Z.start1
    simp [RepRs.len q]
  · unfold start1 at e
    by_cases hi : i < rs.length
    · rw [List.getElem?_append_left (by simpa using hi), List.getElem?_map, Option.map_eq_some_iff] at e
      obtain ⟨z, e1, e2⟩ := e
      cases e2
      obtain ⟨v, h1, h2⟩ := RepRs.get q e1
      refine ⟨v, ?_, h2⟩
      unfold L2.start
      rw [List.getElem?_append_left (by rw [List.length_map, RepRs.len q]; exact hi), List.getElem?_map, h1]
      rfl
    · rw [List.getElem?_append_right (by simpa using hi)] at e
      rw [List.getElem?_replicate] at e
      split at e <;> cases e
/-- as DefAt.fn; the body gives out tokens -/
theorem DefAt.fnT {x : Str} {st : Stmt} {N ps : List Str} {k : Nat} {wb : PS1} {sp : SpZ} (d : DefAt K mg x st ps) (sc : FnScope N ps (defScope st))
    (hnc : ∀ y ∈ (defScope st).names, y.2 ≠ .cell) (hps : 1 ≤ ps.length)
    (hbody : ∀ (f : Addr) (cdv : Value) (A : Around) (outer : List Env) (s : Shared) (H : Hp) (E : XK), Room k (A.deeper (envOfC x (defScope st) s.heap.objs.size f cdv)) →
      WSsT (cxOf CX0 P w K mg base N x (defScope st) f cdv A outer s H E).nox (defBody st) wb)
    (hread : ∀ rs S W, rs.length = ps.length → sp rs S W → wb { nx := fun _ S1 => retN S.length W (.d .non) S1, rt := retN S.length W } (start1 N.length rs) S) : FnZ P w K mg base (k + 1) x ps.length sp :=
  let ⟨f, fd, F, hm, hb⟩ := d.ex
  ⟨f, fd, ps, rfl, hm, F.kp, hb, fn_okT F sc hnc hps (hbody f) hread⟩
end
/-- text times number, longer ones -/
abbrev pSMulB : P2 := fun x y S W => match x, y with
  | .r (.d (.str z)), .r (.d (.int n)) => (0 ≤ n ∧ n ≤ 4000 ∧ z.length ≤ 1000) ∧ W (.r (.d (.str (Txt.mul z n)))) S
  | _, _ => False
theorem txt_mulOkB {z : Str} {n : Int} (h0 : 0 ≤ n) (h1 : n ≤ 4000) (h2 : z.length ≤ 1000) : PySem.MulOk z n := by
  refine ⟨?_, fun h3 _ h4 => ?_, fun _ _ => ?_⟩
  · rw [Bool.or_eq_false_iff, decide_eq_false_iff_not, decide_eq_false_iff_not]
    have : (2 : Int) ^ 63 = 9223372036854775808 := by decide
    omega
  · have e : (2 : Int) ^ 63 - 1 = 9223372036854775807 := by decide
    rw [e] at h4
    have : (9223372036854775807 : Int) / 4000 ≤ 9223372036854775807 / n := by
      refine Int.le_ediv_of_mul_le (by omega) ?_
      have : (9223372036854775807 : Int) / 4000 * n ≤ 9223372036854775807 / 4000 * 4000 := Int.mul_le_mul_of_nonneg_left h1 (by decide)
      omega
    omega
  · have : z.length * n.toNat ≤ 1000 * 4000 := Nat.mul_le_mul h2 (by omega)
    show decide (z.length * n.toNat > sizeLine) = false
    rw [decide_eq_false_iff_not]
    have e : sizeLine = 16777216 := sizeLine_eq
    omega
theorem o_smulB {X : Cx} : OpP X (binaryOp .Mult) pSMulB := by
  refine ⟨fun x y H Q => ∃ z n, x = .str z ∧ y = .int n ∧ PySem.MulOk z n ∧ Q (.str (Txt.mul z n)) H, ?_, fun x y S W v u m H H0 Q r qx qy w f => ?_⟩
  · rintro pins s σ H x y v u Q I rx ry ⟨z, n, rfl, rfl, ok, q⟩
    obtain ⟨t, rfl⟩ := rx
    obtain ⟨t', rfl⟩ := ry
    exact SB.mul ok fun t' k => ⟨.str (Txt.mul z n), H, I.tok _, ⟨_, rfl⟩, q⟩
  · unfold pSMulB at w
    split at w
    · rename_i z n
      obtain ⟨⟨h0, h1, h2⟩, w⟩ := w
      exact ⟨z, n, qx, qy, txt_mulOkB h0 h1 h2, f.here r (x := .r (.d (.str _))) rfl w⟩
    · exact w.elim
end Z

set_option Elab.async false
set_option linter.all false
set_option maxRecDepth 100000
set_option exponentiation.threshold 20000
/-! R38: stands, the rests of their steps, calm ways looked at. -/
namespace Z
open PySem PySem.Spec PyProof.Rows L2 RZ
abbrev fsL (fs : List (List Int)) : List D := fs.map fun f => D.tup (f.map D.int)
abbrev nsL (ns : List Int) : List D := ns.map D.int
def atF (fs : List (List Int)) (i : Int) : List Int := fs.getD i.toNat []
def stQ (fs : List (List Int)) (i j : Int) : Rat := rstQ (pln (qmul (atF fs j) (pln (qbk (atF fs i)))))
def OkFs (fs : List (List Int)) : Prop := ∀ f ∈ fs, OkF f
structure OkG (f : List Int) : Prop where
  len : f.length = 4
  nz : ∃ n ∈ f, n ≠ 0
  bd : ∀ x ∈ f, Bd 400 x
theorem OkF.g {f : List Int} (o : OkF f) : OkG f := ⟨o.len, o.nz, fun x hx => (o.bd x hx).mono (by decide)⟩
theorem okG_back {f : List Int} (o : OkG f) : OkG (pln (qbk f)) := ⟨by rw [pln_len, qbk_len o.len], pln_nz (qbk_nz o.len o.nz), pln_bds (qbk_nz o.len o.nz) (qbk_bd o.bd)⟩
def OkGs (fs : List (List Int)) : Prop := ∀ f ∈ fs, OkG f
theorem OkFs.g {fs : List (List Int)} (h : OkFs fs) : OkGs fs := fun f hf => (h f hf).g
def InP (fs : List (List Int)) (i : Int) : Prop := 0 ≤ i ∧ i < fs.length
theorem at_get {fs : List (List Int)} {i : Int} (h : InP fs i) : getI (fsL fs) i = some (.tup ((atF fs i).map D.int)) ∧ atF fs i ∈ fs := by
  obtain ⟨h0, h1⟩ := h
  have hl : i.toNat < fs.length := by omega
  have e : atF fs i = fs[i.toNat] := by unfold atF; rw [List.getD_eq_getElem?_getD, List.getElem?_eq_getElem hl]; rfl
  rw [e]
  refine ⟨?_, List.getElem_mem hl⟩
  rw [getI_of h0 (by simpa using h1), List.getElem?_map, List.getElem?_eq_getElem hl]; rfl
theorem rst_bq {f : List Int} {n : Nat} (lf : f.length = 4) (zf : ∃ x ∈ f, x ≠ 0) (bf : ∀ x ∈ f, Bd n x) : BQ (n + n + 2) (rstQ f) := by
  have h1 := nrmI_bd bf
  have h2 := nrmI_ne lf zf
  have h3 : Bd n (hd f) := by
    obtain ⟨w, x, y, z, rfl⟩ := four_of lf
    exact bf w (by simp)
  exact BQ.made h2 ((h3.mul h3).mono (by omega)) h1
theorem stQ_bq {fs : List (List Int)} {i j : Int} (h : OkGs fs) (hi : InP fs i) (hj : InP fs j) : BQ 4000 (stQ fs i j) := by
  have o := h _ (at_get hi).2
  have k := h _ (at_get hj).2
  have ob := okG_back o
  have ql := qmul_len k.len ob.len
  have qz := qmul_nz k.len ob.len k.nz ob.nz
  have qb := pln_bds qz (qmul_bd k.bd ob.bd)
  exact (rst_bq (by rw [pln_len, ql]) (pln_nz qz) qb).mono (by decide)
theorem fr_lt {p q : Rat} : decide (p.num * (q.den : Int) < q.num * (p.den : Int)) = decide (p < q) := by
  rw [decide_eq_decide]; exact (Rat.lt_iff p q).symm
theorem bq_mul {p q : Rat} (hp : BQ 100000 p) (hq : BQ 100000 q) : MulOk p.num (q.den : Int) ∧ MulOk q.num (p.den : Int) := ⟨mulOk hp.1 hq.2 (by decide), mulOk hq.1 hp.2 (by decide)⟩
/-- is the one fraction less than the other? -/
def spLess : SpZ := fun rs S W => match rs with
  | [.d x, .d y] => ∃ p q : Rat, x = frD p ∧ y = frD q ∧ BQ 100000 p ∧ BQ 100000 q ∧ W (.d (.bl (decide (p < q)))) S
  | _ => False
def spStep : SpZ := fun rs S W => match rs with
  | [.d (.lst xs), .d (.int i), .d (.int j)] => ∃ fs : List (List Int), xs = fsL fs ∧ OkGs fs ∧ InP fs i ∧ InP fs j ∧ W (.d (frD (stQ fs i j))) S
  | _ => False
/-! ### places -/
instance {fs : List (List Int)} {i : Int} : Decidable (InP fs i) := by unfold InP; infer_instance
def okP (fs : List (List Int)) (ps : List Int) : Bool := decide (∀ p ∈ ps, InP fs p) && decide ps.Nodup
def spPlaces : SpZ := fun rs S W => match rs, S with
  | [.d (.lst xs), .d (.lst ys)], [] => ∃ (fs : List (List Int)) (ps : List Int), xs = fsL fs ∧ ys = nsL ps ∧ ps.length ≤ 4000 ∧ W (.d (.bl (okP fs ps))) S
  | _, _ => False
theorem okP_out {fs : List (List Int)} {ps : List Int} {p : Int} (h : p ∈ ps) (k : ¬ InP fs p) : okP fs ps = false := by
  unfold okP
  rw [decide_eq_false (fun q => k (q p h))]; rfl
theorem okP_two {fs : List (List Int)} {ps : List Int} (h : ¬ ps.Nodup) : okP fs ps = false := by
  unfold okP
  rw [decide_eq_false h, Bool.and_false]
theorem okP_true {fs : List (List Int)} {ps : List Int} : okP fs ps = true ↔ (∀ p ∈ ps, InP fs p) ∧ ps.Nodup := by
  unfold okP; simp
theorem outP {fs : List (List Int)} {x : Int} : (decide (x < 0) = true ∨ decide (((fs.length : Nat) : Int) ≤ x) = true) ↔ ¬ InP fs x := by
  unfold InP; simp only [decide_eq_true_eq]; omega
theorem in_ints (ns : List Int) (x : Int) : ((pys (nsL ns)).any fun z => PyData.eqv z (.int x)) = decide (x ∈ ns) := by
  induction ns with
  | nil => simp [pys]
  | cons n ns ih =>
    simp only [nsL, List.map_cons, pys, List.any_cons, py, List.mem_cons, Bool.decide_or] at *
    rw [ih]
    congr 1
    simp only [PyData.eqv]
    by_cases h : x = n
    · subst h; simp
    · simp [h, Ne.symm h]
theorem prs_ints (ps qs : List Int) : prs ((nsL ps).map R.d) ((nsL qs).map R.d) = (ps.zip qs).map fun p => R.d (.tup [.int p.1, .int p.2]) := by
  induction ps generalizing qs with
  | nil => simp [prs]
  | cons p ps ih =>
    cases qs with
    | nil => simp [prs]
    | cons q qs => simp only [nsL, List.map_cons, prs, List.zip_cons_cons] at *; rw [ih]
/-! ### the least of some rests -/
def steps (fs : List (List Int)) (ps : List Int) : List Rat := (ps.zip ps.tail).map fun p => stQ fs p.1 p.2
def minF (m : Rat) (qs : List Rat) : Rat := qs.foldl (fun m q => if q < m then q else m) m
def minL : List Rat → Rat
  | [] => 0
  | q :: qs => minF q (q :: qs)
theorem minF_cons (m q : Rat) (qs : List Rat) : minF m (q :: qs) = minF (if q < m then q else m) qs := rfl
theorem minF_le (m : Rat) (qs : List Rat) : minF m qs ≤ m ∧ (∀ q ∈ qs, minF m qs ≤ q) ∧ (minF m qs = m ∨ minF m qs ∈ qs) := by
  induction qs generalizing m with
  | nil => exact ⟨Rat.le_refl, by simp, .inl rfl⟩
  | cons q qs ih =>
    rw [minF_cons]
    obtain ⟨h1, h2, h3⟩ := ih (if q < m then q else m)
    by_cases hq : q < m
    · rw [if_pos hq] at h1 h2 h3 ⊢
      refine ⟨Rat.le_trans h1 (Rat.le_of_lt hq), fun x hx => ?_, ?_⟩
      · rcases List.mem_cons.mp hx with rfl | hx
        · exact h1
        · exact h2 x hx
      · rcases h3 with h3 | h3
        · exact .inr (by rw [h3]; simp)
        · exact .inr (List.mem_cons_of_mem _ h3)
    · rw [if_neg hq] at h1 h2 h3 ⊢
      refine ⟨h1, fun x hx => ?_, ?_⟩
      · rcases List.mem_cons.mp hx with rfl | hx
        · exact Rat.le_trans h1 (Rat.not_lt.mp hq)
        · exact h2 x hx
      · rcases h3 with h3 | h3
        · exact .inl h3
        · exact .inr (List.mem_cons_of_mem _ h3)
theorem minL_is {qs : List Rat} (h : qs ≠ []) : minL qs ∈ qs ∧ ∀ q ∈ qs, minL qs ≤ q := by
  cases qs with
  | nil => exact absurd rfl h
  | cons q qs =>
    obtain ⟨h1, h2, h3⟩ := minF_le q (q :: qs)
    refine ⟨?_, h2⟩
    rcases h3 with h3 | h3
    · show minF q (q :: qs) ∈ _
      rw [h3]; simp
    · exact h3
/-- the law's own way to say it -/
theorem minL_law {qs : List Rat} (h : qs ≠ []) (far : Rat) : (!decide (far ∈ qs) || decide (0 < (qs.filter fun q => decide (q < far)).length)) = !decide (minL qs = far) := by
  obtain ⟨h1, h2⟩ := minL_is h
  by_cases e : minL qs = far
  · subst e
    have : qs.filter (fun q => decide (q < minL qs)) = [] := List.filter_eq_nil_iff.mpr fun q hq => by simpa using Rat.not_lt.mpr (h2 q hq)
    rw [this]; simp [h1]
  · rw [decide_eq_false e]
    by_cases hf : far ∈ qs
    · have lt : minL qs < far := Rat.lt_of_le_of_ne (h2 _ hf) e
      have : minL qs ∈ qs.filter (fun q => decide (q < far)) := List.mem_filter.mpr ⟨h1, by simpa using lt⟩
      have := List.length_pos_of_mem this
      simp [hf, this]
    · simp [hf]
/-! ### no step out of some places -/
def parB (fs : List (List Int)) (far : Rat) (sp : List Int) : Bool := decide (∀ a ∈ sp, ∀ b : Nat, b < fs.length → (b : Int) ∉ sp → ¬ far < stQ fs a b)
theorem parB_no {fs : List (List Int)} {far : Rat} {sp : List Int} {a : Int} {b : Nat} (ha : a ∈ sp) (hb : b < fs.length) (hn : (b : Int) ∉ sp) (h : far < stQ fs a b) : parB fs far sp = false := decide_eq_false fun q => q a ha b hb hn h
def spParts : SpZ := fun rs S W => match rs with
  | [.d (.lst xs), .d (.lst ys), .d y] => ∃ (fs : List (List Int)) (sp : List Int) (far : Rat), xs = fsL fs ∧ ys = nsL sp ∧ y = frD far ∧ OkGs fs ∧ fs.length ≤ 1000 ∧ (∀ p ∈ sp, InP fs p) ∧ BQ 100000 far ∧ W (.d (.bl (parB fs far sp))) S
  | _ => False
def spLeastS : SpZ := fun rs S W => match rs with
  | [.d (.lst xs), .d (.lst ys)] => ∃ (fs : List (List Int)) (ps : List Int), xs = fsL fs ∧ ys = nsL ps ∧ OkGs fs ∧ ps.length ≤ 4000 ∧ 2 ≤ ps.length ∧ (∀ p ∈ ps, InP fs p) ∧ W (.d (frD (minL (steps fs ps)))) S
  | _ => False
def calmB (fs : List (List Int)) (one other : Int) (ps : List Int) (far : Rat) (sp : List Int) : Bool :=
  okP fs ps && okP fs sp && decide (ps.head? = some one) && decide (ps.getLast? = some other) && decide (one ∈ sp) && !decide (other ∈ sp) && decide (minL (steps fs ps) = far) && parB fs far sp
def spCalm : SpZ := fun rs S W => match rs, S with
  | [.d (.lst xs), .d (.int one), .d (.int other), .d (.lst ys), .d y, .d (.lst zs')], [] => ∃ (fs : List (List Int)) (ps sp : List Int) (far : Rat), xs = fsL fs ∧ ys = nsL ps ∧ y = frD far ∧ zs' = nsL sp ∧ OkGs fs ∧ fs.length ≤ 1000 ∧ ps.length ≤ 4000 ∧ sp.length ≤ 4000 ∧ BQ 100000 far ∧ one ≠ other ∧ W (.d (.bl (calmB fs one other ps far sp))) S
  | _, _ => False
end Z

set_option Elab.async false
set_option linter.all false
set_option maxRecDepth 100000
set_option exponentiation.threshold 20000
/-! R39: more for calm ways. -/
namespace Z
open PySem PySem.Spec PyProof.Rows L2 RZ
theorem mem_first {ps : List Int} {x : Int} : x ∈ ps.take 1 ↔ ps.head? = some x := by cases ps <;> simp [eq_comm]
theorem mem_last {ps : List Int} {x : Int} : x ∈ ps.drop (ps.length - 1) ↔ ps.getLast? = some x := by
  rcases List.eq_nil_or_concat ps with rfl | ⟨qs, y, rfl⟩
  · simp
  · rw [List.concat_eq_append, List.length_append]
    show x ∈ (qs ++ [y]).drop (qs.length + 1 - 1) ↔ _
    rw [Nat.add_sub_cancel, List.drop_left]
    simp [eq_comm]
theorem cut_first {ps : List Int} : cutD (nsL ps) none (some 1) = nsL (ps.take 1) := by
  rw [show (some (1 : Int)) = some ((1 : Nat) : Int) from rfl, cutD_take, nsL, nsL, List.map_take]
theorem cut_last {ps : List Int} : cutD (nsL ps) (some (-1)) none = nsL (ps.drop (ps.length - 1)) := by
  have e : HT.sIx (nsL ps).length 0 (some (-1)) = ps.length - 1 := by
    show (if (-1 : Int) < 0 then ((-1 : Int) + ((nsL ps).length : Int)).toNat else min (-1 : Int).toNat (nsL ps).length) = ps.length - 1
    rw [if_pos (by decide), List.length_map]; omega
  unfold cutD
  rw [e, HT.sIx_none, List.take_of_length_le (by rw [List.length_drop]; omega)]
  unfold nsL
  rw [List.map_drop]
theorem cut_ints (ps : List Int) (lo hi : Option Int) : ∃ qs : List Int, cutD (nsL ps) lo hi = nsL qs ∧ qs.length ≤ ps.length := by
  refine ⟨(ps.drop (HT.sIx (nsL ps).length 0 lo)).take (HT.sIx (nsL ps).length (nsL ps).length hi - HT.sIx (nsL ps).length 0 lo), ?_, ?_⟩
  · unfold cutD nsL
    rw [List.map_take, List.map_drop]
  · rw [List.length_take, List.length_drop]; omega
theorem in_frs (qs : List Rat) (q : Rat) : ((pys (qs.map frD)).any fun z => PyData.eqv z (py (frD q))) = decide (q ∈ qs) := by
  induction qs with
  | nil => simp [pys]
  | cons p ps ih =>
    simp only [List.map_cons, pys, List.any_cons, List.mem_cons, Bool.decide_or]
    rw [ih, eqv_fr]
    congr 1
    rw [decide_eq_decide]; exact eq_comm
theorem lcL_filD {α : Type} {k : Nat} {chk : Sto → Prop} {f : R → Rho → Option Rho} {t : PT1} {w : PE1} {r : Rho} {S : Sto} {W : List D → Sto → Prop} {g : α → D} {xs : List α} (p : α → Bool) (v : α → D) (hk : S.take k = S) (hc : chk S)
    (h : ∀ x ∈ xs, ∃ r1, f (.d (g x)) r = some r1 ∧ (∀ W1 : Bool → Sto → Prop, W1 (p x) S → t r1 S W1) ∧ (p x = true → ∀ W1 : PK1, W1 (.r (.d (v x))) S → w r1 S W1)) (q : W ((xs.filter p).map v) S) :
    lcL k chk f t w r ((xs.map g).map R.d) S W := by
  induction xs generalizing W with
  | nil => exact ⟨hc, q⟩
  | cons x xs ih =>
    obtain ⟨r1, h1, h2, h3⟩ := h x (by simp)
    rw [List.map_cons, List.map_cons]
    unfold lcL
    refine ⟨hc, ?_⟩
    rw [h1]
    refine h2 _ ?_
    cases hp : p x with
    | true =>
      rw [if_pos rfl]
      refine h3 hp _ ?_
      simp only [hk]
      refine ih (fun y hy => h y (List.mem_cons_of_mem _ hy)) ?_
      rw [List.filter_cons_of_pos hp] at q
      exact q
    | false =>
      rw [if_neg (by decide), hk]
      refine ih (fun y hy => h y (List.mem_cons_of_mem _ hy)) ?_
      rw [List.filter_cons_of_neg (by simp [hp])] at q
      exact q
theorem ends_get {ps : List Int} (h : ps ≠ []) : ∃ p l, getI (nsL ps) 0 = some (.int p) ∧ ps.head? = some p ∧ getI (nsL ps) (-1) = some (.int l) ∧ ps.getLast? = some l := by
  obtain ⟨p, qs, rfl⟩ : ∃ p qs, ps = p :: qs := by cases ps with | nil => exact absurd rfl h | cons p qs => exact ⟨p, qs, rfl⟩
  refine ⟨p, (p :: qs).getLast (by simp), rfl, rfl, ?_, List.getLast?_eq_some_getLast (by simp)⟩
  have e : getI (nsL (p :: qs)) (-1) = (nsL (p :: qs))[qs.length]? := by
    unfold getI
    rw [if_neg (by decide), if_pos (by simp only [List.length_map, List.length_cons]; omega)]
    congr 1
    simp only [List.length_map, List.length_cons]; omega
  rw [e, List.getElem?_map, List.getLast_eq_getElem, List.getElem?_eq_getElem (by simp)]
  rfl
theorem steps_length (fs : List (List Int)) (ps : List Int) : (steps fs ps).length ≤ ps.length := by
  unfold steps
  rw [List.length_map, List.length_zip]; omega
end Z

set_option Elab.async false
set_option linter.all false
set_option maxRecDepth 100000
set_option exponentiation.threshold 20000
/-! R80: things as texts with up to 1,500 figures, told back (k45). -/
namespace Z
open PySem PySem.Spec PyProof.Rows L2 RZ
theorem seen_num (i : Int) : (numSeenOf (numT i)).length = (numT i).length := by
  have h := (numText_signs (x := numT i) fun c hc => sgL_mem (i := i) (by rw [← tl_numT]; exact hc)).2
  rw [h]
  exact Array.length_toList
/-- in lowest terms -/
def LowP (p : Int × Int) : Prop := 0 < p.2 ∧ Int.gcd p.1 p.2 = 1
/-- a thing of one of the six kinds, and its text -/
def ThB (k : Nat) (kind : Int) (d : D) (t : Str) : Prop :=
  (kind = 0 ∧ ∃ p, d = prD p ∧ FgP k p ∧ LowP p ∧ t = frT p) ∨ (kind = 1 ∧ ∃ ns : List Int, d = .tup (ns.map D.int) ∧ ns.length = 4 ∧ FgRw k ns ∧ (∃ n ∈ ns, n ≠ 0) ∧ t = rwT " " ns) ∨
    (kind = 2 ∧ ∃ ns : List Int, d = .tup (ns.map D.int) ∧ ns.length = 3 ∧ FgRw k ns ∧ (∃ n ∈ ns, n ≠ 0) ∧ t = rwT " " ns) ∨ (kind = 3 ∧ ∃ ps, d = ptsD ps ∧ FgPt k ps ∧ (∀ p ∈ ps, LowP p) ∧ t = ptT ps) ∨
    (kind = 4 ∧ ∃ qs, d = .tup (qs.map ptsD) ∧ FgTb k qs ∧ (∀ q ∈ qs, ∀ p ∈ q, LowP p) ∧ t = tbT qs) ∨ (kind = 5 ∧ ∃ ns : List Int, d = .tup (ns.map D.int) ∧ ns.length = 2 ∧ FgRw k ns ∧ (∃ n ∈ ns, n ≠ 0) ∧ t = rwT ":" ns)
/-- what may be drawn of a kind -/
def DrB (k : Nat) (kind : Int) (d : D) : Prop := ∃ t, ThB k kind d t
theorem low_frac (q : Rat) : LowP (q.num, (q.den : Int)) := ⟨by have := q.den_pos; show (0 : Int) < (q.den : Int); omega, by
  show Int.gcd q.num (q.den : Int) = 1
  rw [Int.gcd, Int.natAbs_natCast]
  exact q.reduced⟩
theorem fg_one (k : Nat) (hk : 0 < k) : Fg k 1 := ⟨by
  have := Nat.pow_le_pow_right (n := 10) (by decide) hk
  show 1 < 10 ^ k
  omega⟩
theorem fg_zero (k : Nat) : Fg k 0 := ⟨Nat.pow_pos (by decide)⟩
/-- made smaller by what divides both -/
theorem fg_frac {k : Nat} {t b : Int} (hb : b ≠ 0) (h1 : Fg k t) (h2 : Fg k b) : Fg k ((t : Rat) / (b : Rat)).num ∧ Fg k ((((t : Rat) / (b : Rat)).den : Nat) : Int) := by
  have a1 := h1.lt
  have a2 := h2.lt
  rw [← Rat.divInt_eq_div, Rat.num_divInt, Rat.den_divInt, if_neg hb]
  refine ⟨⟨?_⟩, ⟨?_⟩⟩
  · refine Nat.lt_of_le_of_lt (Int.natAbs_ediv_le_natAbs _ _) ?_
    rw [Int.natAbs_mul, Int.natAbs_sign_of_ne_zero hb, Nat.one_mul]
    exact a1
  · simp only [Int.natAbs_natCast]
    exact Nat.lt_of_le_of_lt (Nat.div_le_self _ _) a2
theorem frT_whole (n : Int) : frT (n, 1) = numT n := rfl
theorem rw_pt (ns : List Int) : rwT " " ns = ptT (ns.map fun n => (n, (1 : Int))) := by
  show Txt.join _ (ns.map numT) = Txt.join _ ((ns.map _).map frT)
  rw [List.map_map]
  rfl
theorem dr0 {k : Nat} {d : D} (h : DrB k 0 d) : ∃ p, d = prD p ∧ FgP k p ∧ LowP p := by
  obtain ⟨t, ⟨_, p, h1, h2, h3, _⟩ | ⟨z, _⟩ | ⟨z, _⟩ | ⟨z, _⟩ | ⟨z, _⟩ | ⟨z, _⟩⟩ := h
  · exact ⟨p, h1, h2, h3⟩
  all_goals exact absurd z (by decide)
theorem dr3 {k : Nat} {d : D} (h : DrB k 3 d) : ∃ ps, d = ptsD ps ∧ FgPt k ps ∧ ∀ p ∈ ps, LowP p := by
  obtain ⟨t, ⟨z, _⟩ | ⟨z, _⟩ | ⟨z, _⟩ | ⟨_, p, h1, h2, h3, _⟩ | ⟨z, _⟩ | ⟨z, _⟩⟩ := h
  · exact absurd z (by decide)
  · exact absurd z (by decide)
  · exact absurd z (by decide)
  · exact ⟨p, h1, h2, h3⟩
  · exact absurd z (by decide)
  · exact absurd z (by decide)
theorem mk0 {k : Nat} {p : Int × Int} (h1 : FgP k p) (h2 : LowP p) : DrB k 0 (prD p) := ⟨_, .inl ⟨rfl, p, rfl, h1, h2, rfl⟩⟩
theorem mk3 {k : Nat} {ps : List (Int × Int)} (h1 : FgPt k ps) (h2 : ∀ p ∈ ps, LowP p) : DrB k 3 (ptsD ps) := ⟨_, .inr (.inr (.inr (.inl ⟨rfl, ps, rfl, h1, h2, rfl⟩)))⟩
theorem mk4 {k : Nat} {qs : List (List (Int × Int))} (h1 : FgTb k qs) (h2 : ∀ q ∈ qs, ∀ p ∈ q, LowP p) : DrB k 4 (.tup (qs.map ptsD)) := ⟨_, .inr (.inr (.inr (.inr (.inl ⟨rfl, qs, rfl, h1, h2, rfl⟩))))⟩
theorem mkR {k : Nat} {kind : Int} {m : Nat} (hk : (kind = 1 ∧ m = 4) ∨ (kind = 2 ∧ m = 3) ∨ (kind = 5 ∧ m = 2)) {ns : List Int} (l : ns.length = m) (h : ∀ n ∈ ns, Fg k n) (nz : ∃ n ∈ ns, n ≠ 0) : DrB k kind (.tup (ns.map D.int)) := by
  rcases hk with ⟨rfl, rfl⟩ | ⟨rfl, rfl⟩ | ⟨rfl, rfl⟩
  · exact ⟨_, .inr (.inl ⟨rfl, ns, rfl, l, ⟨by omega, h⟩, nz, rfl⟩)⟩
  · exact ⟨_, .inr (.inr (.inl ⟨rfl, ns, rfl, l, ⟨by omega, h⟩, nz, rfl⟩))⟩
  · exact ⟨_, .inr (.inr (.inr (.inr (.inr ⟨rfl, ns, rfl, l, ⟨by omega, h⟩, nz, rfl⟩))))⟩
theorem ints_ofP {P : Int → Prop} : ∀ {ds : List D}, (∀ d ∈ ds, ∃ k : Int, P k ∧ d = .int k) → ∃ ns : List Int, ds = ns.map D.int ∧ ∀ k ∈ ns, P k
  | [], _ => ⟨[], rfl, by simp⟩
  | d :: ds, h => by
    obtain ⟨k, bk, rfl⟩ := h d (by simp)
    obtain ⟨ns, rfl, hb⟩ := ints_ofP (ds := ds) fun x hx => h x (by simp [hx])
    exact ⟨k :: ns, rfl, by simp only [List.mem_cons, forall_eq_or_imp]; exact ⟨bk, hb⟩⟩
theorem fg_bd {i : Int} (h : Fg 1480 i) : Bd 5000 i := Bd.lit (Nat.lt_of_lt_of_le h.lt (by decide +kernel))
theorem fg_step {i : Nat} {t v : Int} (t0 : 0 ≤ t) (h : Fg (30 * i + 1) t) (v0 : 0 ≤ v) (v1 : v < 1000000000) : 0 ≤ t * 1000000000000000000000000000000 + v ∧ Fg (30 * (i + 1) + 1) (t * 1000000000000000000000000000000 + v) := by
  have l := h.lt
  refine ⟨by omega, ⟨?_⟩⟩
  have e : 10 ^ (30 * (i + 1) + 1) = 10 ^ (30 * i + 1) * 1000000000000000000000000000000 := by
    rw [show 30 * (i + 1) + 1 = (30 * i + 1) + 30 by omega, Nat.pow_add]
  rw [e]
  generalize 10 ^ (30 * i + 1) = X at *
  omega
theorem fg_neg {k : Nat} {i : Int} (h : Fg k i) : Fg k (-i) := ⟨by rw [Int.natAbs_neg]; exact h.lt⟩
theorem bd_fg {i : Int} (h : Bd 100 i) : Fg 1480 i := Fg.of_bd h (by decide +kernel)
theorem set_nz {ns : List Int} {v : Nat} (h : v < ns.length) : ∃ n ∈ ns.set v 1, n ≠ 0 := ⟨1, List.mem_of_getElem? (List.getElem?_set_self h), by decide⟩
theorem filt_nz {ns : List Int} (h : (ns.filter fun n => n != 0).length ≠ 0) : ∃ n ∈ ns, n ≠ 0 := by
  cases e : ns.filter fun n => n != 0 with
  | nil => rw [e] at h; simp at h
  | cons x xs =>
    have : x ∈ ns.filter fun n => n != 0 := by rw [e]; simp
    obtain ⟨h1, h2⟩ := List.mem_filter.mp this
    exact ⟨x, h1, by simpa using h2⟩
theorem okD_prs (j : Nat) (ps : List (Int × Int)) (h : ps.length ≤ 1000) : okD (j + 3) (ptsD ps) := ⟨by simpa using h, fun x hx => by
  obtain ⟨p, _, rfl⟩ := List.mem_map.mp hx
  exact okD_ints (ns := [p.1, p.2]) (by simp)⟩
theorem thb_ok {k : Nat} {kind : Int} {d : D} {t : Str} (h : ThB k kind d t) : okD 4 d := by
  rcases h with ⟨rfl, p, rfl, o, lw, rfl⟩ | ⟨rfl, ns, rfl, hl, o, nz, rfl⟩ | ⟨rfl, ns, rfl, hl, o, nz, rfl⟩ | ⟨rfl, ps, rfl, o, lw, rfl⟩ | ⟨rfl, qs, rfl, o, lw, rfl⟩ | ⟨rfl, ns, rfl, hl, o, nz, rfl⟩
  · exact okD_ints (ns := [p.1, p.2]) (by simp)
  · exact okD_ints (by omega)
  · exact okD_ints (by omega)
  · exact okD_prs 1 ps (by rw [o.1]; decide)
  · refine ⟨by rw [List.length_map, o.1]; decide, fun x hx => ?_⟩
    obtain ⟨q, hq, rfl⟩ := List.mem_map.mp hx
    exact okD_prs 0 q (by rw [(o.2 q hq).1]; decide)
  · exact okD_ints (by omega)
theorem thb_way {k : Nat} {d : D} {t : Str} (h : ThB k 2 d t) : ∃ ns : List Int, d = .tup (ns.map D.int) ∧ ns.length = 3 ∧ FgRw k ns ∧ t = ptT (ns.map fun n => (n, (1 : Int))) := by
  rcases h with ⟨z, _⟩ | ⟨z, _⟩ | ⟨_, ns, rfl, hl, o, nz, rfl⟩ | ⟨z, _⟩ | ⟨z, _⟩ | ⟨z, _⟩
  · exact absurd z (by decide)
  · exact absurd z (by decide)
  · exact ⟨ns, rfl, hl, o, rw_pt ns⟩
  · exact absurd z (by decide)
  · exact absurd z (by decide)
  · exact absurd z (by decide)
theorem told_way : PySem.Str.ofString "0 -3 6" = rwT " " [0, -3, 6] := by decide +kernel
theorem told_set : PySem.Str.ofString "-2:4" = rwT ":" [-2, 4] := by decide +kernel
theorem fg_small {i : Int} (h : i.natAbs < 10) : Fg 1 i := ⟨h⟩
theorem dp_way : ∀ vs : List Int, PyData.depthAll (pys (vs.map fun n => D.tup [.int n, .int 1])) ≤ 10
  | [] => by decide
  | v :: vs => by
    have h := dp_way vs
    have h2 : (py (D.tup [.int v, .int 1])).depth ≤ 10 := by simp only [py, pys, PyData.depth, PyData.depthAll]; omega
    rw [List.map_cons, pys]
    unfold PyData.depthAll
    omega
end Z

set_option Elab.async false
set_option linter.all false
set_option maxRecDepth 100000
set_option exponentiation.threshold 20000
/-! R81: which texts write whole numbers, fractions: the law's reader, as a function on signs. -/
namespace Z
open PySem PySem.Spec PyProof.Rows L2 RZ
def dgL (c : Nat) : Bool := decide (48 ≤ c ∧ c ≤ 57)
/-- what stands behind a first dash -/
def bkL (l : List Nat) : List Nat := if l.take 1 = [45] then l.drop 1 else l
def okW (l : List Nat) : Bool := decide (0 < (bkL l).length) && (decide ((bkL l).length ≤ 1500) && ((bkL l).all dgL && (decide ((bkL l).take 1 ≠ [48]) || decide (l = [48]))))
theorem digs_num : ∀ (k : Nat) (l : List Nat), l.length = k → l ≠ [] → (∀ c ∈ l, 48 ≤ c ∧ c ≤ 57) → (l.take 1 = [48] → l = [48]) → ∃ n, l = TL.numL n ∧ n < 10 ^ l.length
  | 0, l, hk, h0, _, _ => absurd (List.length_eq_zero_iff.mp hk) h0
  | k + 1, l, hk, h0, hd, hz => by
    rcases List.eq_nil_or_concat l with rfl | ⟨L, b, rfl⟩
    · exact absurd rfl h0
    · rw [List.concat_eq_append] at *
      have hb := hd b (by simp)
      by_cases hL : L = []
      · subst hL
        refine ⟨b - 48, ?_, ?_⟩
        · rw [TL.numL_lt (by omega)]
          show [b] = [48 + (b - 48)]
          rw [show 48 + (b - 48) = b by omega]
        · show b - 48 < 10 ^ 1
          omega
      · have hl : L.length = k := by simpa using hk
        have nz : L.take 1 ≠ [48] := fun e => by
          cases L with
          | nil => exact hL rfl
          | cons x L =>
            have e' : [x] = [48] := e
            have := hz (by simpa using e')
            simp at this
        obtain ⟨m, em, hm⟩ := digs_num k L hl hL (fun c hc => hd c (by simp [hc])) (fun e => absurd e nz)
        have m0 : m ≠ 0 := fun e => by
          subst e
          have : TL.numL 0 = [48] := by rw [TL.numL_lt (by decide)]
          rw [this] at em
          exact nz (by rw [em]; rfl)
        refine ⟨10 * m + (b - 48), ?_, ?_⟩
        · rw [TL.numL_step (by omega), show (10 * m + (b - 48)) / 10 = m by omega, show (10 * m + (b - 48)) % 10 = b - 48 by omega, ← em, show 48 + (b - 48) = b by omega]
        · rw [List.length_append, List.length_singleton, Nat.pow_succ]
          omega
theorem okW_num {l : List Nat} (h : okW l = true) : ∃ i, l = sgL i ∧ Fg 1500 i := by
  unfold okW at h
  simp only [Bool.and_eq_true, Bool.or_eq_true, decide_eq_true_eq, List.all_eq_true] at h
  obtain ⟨h1, h2, h3, h4⟩ := h
  have hd : ∀ c ∈ bkL l, 48 ≤ c ∧ c ≤ 57 := fun c hc => by have := h3 c hc; unfold dgL at this; simpa using this
  have bk1 : l = [48] → bkL l = [48] := fun e => by subst e; rfl
  obtain ⟨n, e, hn⟩ := digs_num _ (bkL l) rfl (fun e => by rw [e] at h1; simp at h1) hd (fun e => by
    rcases h4 with h4 | h4
    · exact absurd e h4
    · exact bk1 h4)
  have hn2 : n < 10 ^ 1500 := Nat.lt_of_lt_of_le hn (Nat.pow_le_pow_right (by decide) h2)
  by_cases hm : l.take 1 = [45]
  · have eb : bkL l = l.drop 1 := if_pos hm
    have el : l = 45 :: bkL l := by
      rw [eb]
      cases l with
      | nil => cases hm
      | cons x l =>
        have : [x] = [45] := hm
        rw [List.cons.injEq] at this
        rw [this.1]; rfl
    have n0 : n ≠ 0 := fun e0 => by
      subst e0
      have z : TL.numL 0 = [48] := by rw [TL.numL_lt (by decide)]
      rw [z] at e
      rcases h4 with h4 | h4
      · exact h4 (by rw [e]; rfl)
      · rw [h4] at hm; cases hm
    have i0 : (-(n : Int)) < 0 := by omega
    refine ⟨-(n : Int), ?_, ⟨?_⟩⟩
    · rw [sg_neg i0, el]
      unfold fgL
      rw [Int.natAbs_neg, Int.natAbs_natCast, e]
    · rw [Int.natAbs_neg, Int.natAbs_natCast]; exact hn2
  · have eb : bkL l = l := if_neg hm
    have i0 : ¬ ((n : Int) < 0) := by omega
    refine ⟨(n : Int), ?_, ⟨?_⟩⟩
    · rw [sg_pos i0]
      unfold fgL
      rw [Int.natAbs_natCast, ← e, eb]
    · rw [Int.natAbs_natCast]; exact hn2
noncomputable def whoL (l : List Nat) : Option Int := if okW l = true then some ((intText? (Tx l)).getD 0) else none
theorem who_none {l : List Nat} (h : okW l = false) : whoL l = none := if_neg (by rw [h]; exact Bool.false_ne_true)
/-- what int(text) says of such a text -/
theorem who_some {l : List Nat} (h : okW l = true) : ∃ i, whoL l = some i ∧ intText? (Tx l) = some i ∧ Fg 1500 i ∧ (Tx l).length ≤ 4300 ∧ (numSeenOf (Tx l)).length = (Tx l).length := by
  obtain ⟨i, e, f⟩ := okW_num h
  have ln := numT_lenF (by decide) f
  have ib := int_back (i := i) (by omega)
  have sn := seen_num i
  rw [numT_tx, ← e] at ln ib sn
  refine ⟨i, ?_, ib, f, by omega, sn⟩
  unfold whoL
  rw [if_pos h, ib]
  rfl
/-- a text's parts -/
def prt (c : Nat) : List Nat → List (List Nat)
  | [] => [[]]
  | x :: r => if x = c then [] :: prt c r else match prt c r with
    | p :: ps => (x :: p) :: ps
    | [] => [[x]]
theorem prt_ne (c : Nat) : ∀ l, prt c l ≠ []
  | [] => by simp [prt]
  | x :: r => by
    unfold prt
    split
    · simp
    · split <;> simp
theorem prt_free (c : Nat) : ∀ l, ∀ p ∈ prt c l, c ∉ p
  | [], p, hp => by
    simp [prt] at hp
    subst hp; simp
  | x :: r, p, hp => by
    unfold prt at hp
    split at hp
    · rcases List.mem_cons.mp hp with rfl | hp
      · simp
      · exact prt_free c r p hp
    · rename_i hx
      split at hp
      · rename_i q ps e
        rcases List.mem_cons.mp hp with rfl | hp
        · have := prt_free c r q (by rw [e]; simp)
          simp only [List.mem_cons, not_or]
          exact ⟨fun z => hx z.symm, this⟩
        · exact prt_free c r p (by rw [e]; simp [hp])
      · simp at hp
        subst hp
        simpa using fun z => hx z.symm
theorem prt_join (c : Nat) : ∀ l, TL.joinL [c] (prt c l) = l
  | [] => rfl
  | x :: r => by
    have ih := prt_join c r
    unfold prt
    split
    · rename_i hx
      subst hx
      cases e : prt x r with
      | nil => exact absurd e (prt_ne x r)
      | cons p ps =>
        rw [e] at ih
        show [] ++ ([x] ++ TL.joinL [x] (p :: ps)) = _
        rw [ih]; rfl
    · split
      · rename_i p ps e
        rw [e] at ih
        cases ps with
        | nil =>
          have ih' : p = r := ih
          subst ih'; rfl
        | cons q ps =>
          have ih' : p ++ ([c] ++ TL.joinL [c] (q :: ps)) = r := ih
          show (x :: p) ++ ([c] ++ TL.joinL [c] (q :: ps)) = _
          rw [List.cons_append, ih']
      · rename_i e
        exact absurd e (prt_ne c r)
theorem split_prt {c : Nat} (hc : c < 256) (l : List Nat) : Txt.split (Tx l) (Tx [c]) = (prt c l).map Tx := by
  have h := TL.spl_join (s := c) (S := []) (prt_ne c l) (prt_free c l)
  rw [prt_join] at h
  have e := SX.split_S (a := l) (b := [c]) (by simp) (by simpa using hc)
  rw [h] at e
  exact e
theorem part_prt (l : List Nat) : (47 ∉ l ∧ prt 47 l = [l] ∧ Txt.partition (Tx l) (Tx [47]) = (Tx l, Tx [], Tx [])) ∨ ∃ p q, 47 ∉ p ∧ l = p ++ 47 :: q ∧ prt 47 l = p :: prt 47 q ∧ Txt.partition (Tx l) (Tx [47]) = (Tx p, Tx [47], Tx q) := by
  have hne := prt_ne 47 l
  have hf := prt_free 47 l
  have hj := prt_join 47 l
  cases e : prt 47 l with
  | nil => exact absurd e hne
  | cons p ps =>
    rw [e] at hf hj
    have hp : 47 ∉ p := hf p (by simp)
    cases ps with
    | nil =>
      have : p = l := hj
      subst this
      exact .inl ⟨hp, rfl, SX.partition_none (by simp) (TL.par_none1 hp)⟩
    | cons q ps =>
      have hj' : p ++ (47 :: TL.joinL [47] (q :: ps)) = l := hj
      refine .inr ⟨p, TL.joinL [47] (q :: ps), hp, hj'.symm, ?_, ?_⟩
      · congr 1
        have h1 := TL.spl_join (s := 47) (S := []) (parts := q :: ps) (by simp) (fun z hz => hf z (by simp at hz ⊢; exact .inr hz))
        have h2 := TL.spl_join (s := 47) (S := []) (prt_ne 47 (TL.joinL [47] (q :: ps))) (prt_free 47 _)
        rw [prt_join] at h2
        exact h1.symm.trans h2
      · rw [← hj']
        have := TL.par_part1 (s := 47) (S := []) (p := p) (rest := TL.joinL [47] (q :: ps)) (acc := []) hp
        exact SX.partition_some (by simp) this
noncomputable def fracL (l : List Nat) : Option (Int × Int) := match prt 47 l with
  | [a] => (whoL a).map fun i => (i, (1 : Int))
  | [a, b] => match whoL a, whoL b with
    | some i, some j => if 1 < j ∧ Int.gcd i j = 1 then some (i, j) else none
    | _, _ => none
  | _ => none
/-- no dash, no figure: no number -/
theorem okW_slash {l : List Nat} (h : 47 ∈ l) : okW l = false := by
  refine Bool.eq_false_iff.mpr fun e => ?_
  obtain ⟨i, e, _⟩ := okW_num e
  rw [e] at h
  rcases sgL_mem h with z | z
  · cases z
  · omega
theorem prt_len (c : Nat) (l : List Nat) : (prt c l).length ≤ l.length + 1 := by
  induction l with
  | nil => simp [prt]
  | cons x r ih =>
    unfold prt
    split
    · simpa using ih
    · split
      · rename_i p ps e
        rw [e] at ih
        simp at ih ⊢; omega
      · simp
theorem prt_mem (c : Nat) : ∀ l, ∀ p ∈ prt c l, p.length ≤ l.length
  | [], p, hp => by simp [prt] at hp; subst hp; simp
  | x :: r, p, hp => by
    unfold prt at hp
    split at hp
    · rcases List.mem_cons.mp hp with rfl | hp
      · simp
      · have := prt_mem c r p hp
        simp; omega
    · split at hp
      · rename_i q ps e
        rcases List.mem_cons.mp hp with rfl | hp
        · have := prt_mem c r q (by rw [e]; simp)
          simp; omega
        · have := prt_mem c r p (by rw [e]; simp [hp])
          simp; omega
      · simp at hp; subst hp; simp
theorem tx_all (z : Str) : z = Tx z.cps.toList := by cases z; rfl
/-- a whole number, or None -/
def wiD : Option Int → D
  | some i => .int i
  | none => .non
theorem who_fg {l : List Nat} {i : Int} (h : whoL l = some i) : Fg 1500 i := by
  cases e : okW l with
  | false => rw [who_none e] at h; cases h
  | true =>
    obtain ⟨j, h1, _, h2, _⟩ := who_some e
    rw [h1] at h
    cases h
    exact h2
theorem mul_len (z : Str) {n : Nat} (h : 0 < n) : (Txt.mul z (n : Int)).length = z.length * n := by
  obtain ⟨l, rfl⟩ : ∃ l, z = Tx l := ⟨_, tx_all z⟩
  have sr : ∀ n, (List.replicate n l.length).sum = n * l.length := fun n => by
    induction n with
    | zero => simp
    | succ n ih => rw [List.replicate_succ, List.sum_cons, ih, Nat.succ_mul, Nat.add_comm]
  rw [txt_mul, tx_len, tx_len, Int.toNat_natCast, List.length_flatten, List.map_replicate, sr, Nat.mul_comm]
end Z

set_option Elab.async false
set_option linter.all false
set_option maxRecDepth 100000
set_option exponentiation.threshold 20000
set_option maxHeartbeats 4000000
namespace Z
open PySem PySem.Spec PyProof.Rows L2 RZ
open PySem PySem.Spec PyProof.Rows L2 RZ
local macro_rules
  | `(tactic| wide_open with ($a, $bs,*)) => `(tactic| simp -failIfUnchanged only [wSeq, wSet, wFn, fAbs, fLen, fSum, fTup, fList, fMax2, fMin2, fInt, wCons, wVar, wNil, bindV, isLo, wTest, wBin, wUn, pNeg, pCmp, wC, wPar, pInt, pAddI, pMulI, pCat, wUnl, wNever, wFz, wRev, wItS, wSIdx, pSIn, pSCat, pSIx, fSLen, wrL, isLst, wRet, wRetN, wIf, wTup, wLst, dataOf, seqOf, pIx, wUnp, fTp, fNm, fCons, fNil, wStI, wAug, wDrop, wApp, wIt, itOf, wFor, wRng1, wRng2, wZip, wLc, wYes, wAndT, wOrT, wNotT, wAndV, wOrV, wNotV, wIfE, pEqB, pyOf, pyTr, py, pys, wIsi, isT, tyN, wSl, wNo, wSome, wCall, bindVs, rsOf, callL, locR, argLocs, renR, renum, pick, backL, putAll, wNext, retN, pIsN, isNon, pIsB, pInB, wipeR, start1, ixD_10, ixD_20, ixD_21, ixD_30, ixD_31, ixD_32, ixD_40, ixD_41, ixD_42, ixD_43, getI_0, getI_1, getI_2, getI_3, eqv_ii, eqv_bb, eqv_tt, eqv_ll, eqv_nn, eqv_tn, eqv_nt, eqv_it, eqv_ti, eqv_in, eqv_ni, eqa_nil, eqa_nc, eqa_cn, eqa_cc, PyData.depth, PyData.depthAll, Nat.min_zero, Nat.zero_min, Nat.max_zero, Nat.zero_max, Nat.max_self, Nat.min_self, Nat.zero_le, Nat.le_refl, List.append_assoc, List.length_append, at_k, at_0, set_k, set_0, lt_k, take_k, lt_kk, lt_0k, allD, prs, pSub, pDiv, pMod, pPow, pShl, pLt, pLe, pGt, pGe, pEq, pNe, Option.map_some, Option.map_none, Option.bind_some, Option.bind_none, List.getElem?_cons_zero, List.getElem?_cons_succ, List.getElem?_nil, List.set_cons_zero, List.set_cons_succ, List.set_nil, List.length_cons, List.length_nil, List.map_cons, List.map_nil, List.cons_append, List.nil_append, List.replicate_zero, List.replicate_succ, List.reduceReplicate, Nat.reduceAdd, Nat.reduceSub, Nat.reduceLT, Nat.reduceLeDiff, Int.reduceNeg, Int.reduceBEq, Int.reduceAdd, Int.reduceSub, Int.reduceMul, Int.reduceLE, Int.reduceLT, Int.reduceToNat, if_true, if_false, ite_true, ite_false, Bool.false_eq_true, Bool.not_true, Bool.not_false, true_and, and_true, List.nodup_nil, List.take_succ_cons, List.take_zero, List.take_nil, List.take_length, List.take_left, Bool.and_self, Bool.and_true, Bool.true_and, Bool.and_false, Bool.false_and, reduceCtorEq, Nat.zero_add, decide_true, decide_false, Nat.add_zero, List.append_nil, intsOf, Bool.or_false, Bool.or_true, Bool.false_or, Bool.true_or, beq_self_eq_true, String.reduceBEq, ne_eq, not_false_eq_true, forall_const, implies_true, Int.reduceDiv, Int.reduceMod, Int.reducePow, Nat.lt_irrefl, SV.r.injEq, R.d.injEq, false_implies, imp_self, Int.cast_ofNat_Int, List.nodup_cons, List.not_mem_nil, not_false_iff, Int.ofNat_zero, Int.natCast_zero, Int.natCast_one, Nat.reducePow, Int.reduceFDiv, Int.reduceFMod, wZipS, fStr, pRepT, wJoin, strsOf, wDGet, pLtD, fSorted, wFzL, fMin2D, fMax2D, wDIx, wRvX, fMin1D, fMax1D, xL, xNext, xSeq, xIf, xRaise, xDrop, xSet, xRet, xE, xaL, xaCons, xTup, wxCall, wwCall, wTryK, wIsX, wIsXT, wAugI, wLstA, wAtL, wUnlA, pIxA, fLenA, wItA, wAppA, wPopA, wClrA, wStIA, noLocs, noLoc, wSlT, pSMul, R.loc.injEq, forall_eq', List.mem_singleton, Nat.reduceEqDiff, wNum, wTupR, pIxT, fLenT, getR_0, getR_1, getR_2, wSplit, wPart, fIntT, wChn, wCpDa, pInDa, pIxDa, wPutDa, fSortDa, wFld2, pSNin, fIntTB, fStrB, xFor, wRepC, pSMulB, $a:term, $[$bs:term],*])
  | `(tactic| wide_open with $a) => `(tactic| simp -failIfUnchanged only [wSeq, wSet, wFn, fAbs, fLen, fSum, fTup, fList, fMax2, fMin2, fInt, wCons, wVar, wNil, bindV, isLo, wTest, wBin, wUn, pNeg, pCmp, wC, wPar, pInt, pAddI, pMulI, pCat, wUnl, wNever, wFz, wRev, wItS, wSIdx, pSIn, pSCat, pSIx, fSLen, wrL, isLst, wRet, wRetN, wIf, wTup, wLst, dataOf, seqOf, pIx, wUnp, fTp, fNm, fCons, fNil, wStI, wAug, wDrop, wApp, wIt, itOf, wFor, wRng1, wRng2, wZip, wLc, wYes, wAndT, wOrT, wNotT, wAndV, wOrV, wNotV, wIfE, pEqB, pyOf, pyTr, py, pys, wIsi, isT, tyN, wSl, wNo, wSome, wCall, bindVs, rsOf, callL, locR, argLocs, renR, renum, pick, backL, putAll, wNext, retN, pIsN, isNon, pIsB, pInB, wipeR, start1, ixD_10, ixD_20, ixD_21, ixD_30, ixD_31, ixD_32, ixD_40, ixD_41, ixD_42, ixD_43, getI_0, getI_1, getI_2, getI_3, eqv_ii, eqv_bb, eqv_tt, eqv_ll, eqv_nn, eqv_tn, eqv_nt, eqv_it, eqv_ti, eqv_in, eqv_ni, eqa_nil, eqa_nc, eqa_cn, eqa_cc, PyData.depth, PyData.depthAll, Nat.min_zero, Nat.zero_min, Nat.max_zero, Nat.zero_max, Nat.max_self, Nat.min_self, Nat.zero_le, Nat.le_refl, List.append_assoc, List.length_append, at_k, at_0, set_k, set_0, lt_k, take_k, lt_kk, lt_0k, allD, prs, pSub, pDiv, pMod, pPow, pShl, pLt, pLe, pGt, pGe, pEq, pNe, Option.map_some, Option.map_none, Option.bind_some, Option.bind_none, List.getElem?_cons_zero, List.getElem?_cons_succ, List.getElem?_nil, List.set_cons_zero, List.set_cons_succ, List.set_nil, List.length_cons, List.length_nil, List.map_cons, List.map_nil, List.cons_append, List.nil_append, List.replicate_zero, List.replicate_succ, List.reduceReplicate, Nat.reduceAdd, Nat.reduceSub, Nat.reduceLT, Nat.reduceLeDiff, Int.reduceNeg, Int.reduceBEq, Int.reduceAdd, Int.reduceSub, Int.reduceMul, Int.reduceLE, Int.reduceLT, Int.reduceToNat, if_true, if_false, ite_true, ite_false, Bool.false_eq_true, Bool.not_true, Bool.not_false, true_and, and_true, List.nodup_nil, List.take_succ_cons, List.take_zero, List.take_nil, List.take_length, List.take_left, Bool.and_self, Bool.and_true, Bool.true_and, Bool.and_false, Bool.false_and, reduceCtorEq, Nat.zero_add, decide_true, decide_false, Nat.add_zero, List.append_nil, intsOf, Bool.or_false, Bool.or_true, Bool.false_or, Bool.true_or, beq_self_eq_true, String.reduceBEq, ne_eq, not_false_eq_true, forall_const, implies_true, Int.reduceDiv, Int.reduceMod, Int.reducePow, Nat.lt_irrefl, SV.r.injEq, R.d.injEq, false_implies, imp_self, Int.cast_ofNat_Int, List.nodup_cons, List.not_mem_nil, not_false_iff, Int.ofNat_zero, Int.natCast_zero, Int.natCast_one, Nat.reducePow, Int.reduceFDiv, Int.reduceFMod, wZipS, fStr, pRepT, wJoin, strsOf, wDGet, pLtD, fSorted, wFzL, fMin2D, fMax2D, wDIx, wRvX, fMin1D, fMax1D, xL, xNext, xSeq, xIf, xRaise, xDrop, xSet, xRet, xE, xaL, xaCons, xTup, wxCall, wwCall, wTryK, wIsX, wIsXT, wAugI, wLstA, wAtL, wUnlA, pIxA, fLenA, wItA, wAppA, wPopA, wClrA, wStIA, noLocs, noLoc, wSlT, pSMul, R.loc.injEq, forall_eq', List.mem_singleton, Nat.reduceEqDiff, wNum, wTupR, pIxT, fLenT, getR_0, getR_1, getR_2, wSplit, wPart, fIntT, wChn, wCpDa, pInDa, pIxDa, wPutDa, fSortDa, wFld2, pSNin, fIntTB, fStrB, xFor, wRepC, pSMulB, $a:term])
/-- slots: 0 one, 1 other -/
def w_divisor : PS1 :=
  (wSeq (wSet 0 (wFn fAbs (wCons (wVar 0) wNil)))
  (wSeq (wSet 1 (wFn fAbs (wCons (wVar 1) wNil)))
  (wSeq (wWhile (wTest (wBin pGt (wVar 1) (wC (.int 0)))) (wPar 0 1 (wCons (wVar 1) (wCons (wBin pMod (wVar 0) (wVar 1)) wNil))))
  (wRet (wVar 0)))))
def sp_divisor : SpZ := spGcd
theorem rd_divisor : ∀ rs S W, rs.length = 2 → sp_divisor rs S W → w_divisor { nx := fun _ S1 => retN S.length W (.d .non) S1, rt := retN S.length W } (start1 2 rs) S := by
  intro rs S W _ h
  unfold sp_divisor spGcd at h
  split at h
  · rename_i a b _
    wide_open with (w_divisor, wWhile)
    refine ⟨fun n r1 S1 => ∃ x y : Nat, r1 = [some (.d (.int x)), some (.d (.int y))] ∧ S1 = S ∧ n = y ∧ Nat.gcd x y = Int.gcd a b, ⟨_, _, _, rfl, rfl, rfl, rfl⟩, ?_⟩
    rintro n r1 S1 ⟨x, y, rfl, rfl, rfl, hg⟩
    wide_open with if_true
    by_cases hy : 0 < n
    · rw [if_pos (by simpa using hy)]
      refine ⟨by omega, _, _, Cut.refl, x % n, Nat.mod_lt _ hy, n, x % n, ?_, rfl, rfl, ?_⟩
      · rw [fmod_pos (by omega)]; rfl
      · rw [← hg, Nat.gcd_comm x n, Nat.gcd_rec n x, Nat.gcd_comm]
    · rw [if_neg (by simpa using hy)]
      have : n = 0 := by omega
      subst this
      rw [Nat.gcd_zero_right] at hg
      rw [hg]; exact h
  · exact h.elim
/-- slots: 0 fine -/
def w_must : PX1 :=
  (xIf (wNotT (wTest (wVar 0))) (xRaise (PySem.Str.ofString "NoText")) xNext)
def sp_must : SpW := fun rs S W XW => match rs with
  | [.d (.bl b)] => (b = true → W (.d .non) S) ∧ (b = false → XW (PySem.Str.ofString "NoText") S)
  | _ => False
theorem rd_must : ∀ rs S W XW, rs.length = 1 → sp_must rs S W XW → w_must { n := { nx := fun _ S1 => retN S.length W (.d .non) S1, rt := retN S.length W }, ex := fun x _ S1 => XW x (S1.take S.length) } (start1 1 rs) S := by
  intro rs S W XW _ h
  unfold sp_must at h
  split at h
  · rename_i b _
    obtain ⟨h1, h2⟩ := h
    unfold w_must
    cases b with
    | true => wide_open with if_true; exact h1 rfl
    | false => wide_open with if_true; exact h2 rfl
  · exact h.elim
/-- slots: 0 _law_cell, 1 _law_number_here, 2 _law_found, 3 _law_k -/
def w_l_purse : PS1 :=
  (wSeq (wSet 1 (wBin pMod (wVar 0) (wC (.int 2147483647))))
  (wSeq (wSet 2 (wC (.int 1)))
  (wSeq (wFor (wRng1 (wCons (wC (.int 60)) wNil)) (fNm 3) (wSeq (wSet 1 (wBin pMod (wBin pAddI (wBin pAddI (wBin pAddI (wBin pMulI (wVar 1) (wVar 1)) (wBin pMulI (wBin pMulI (wC (.int 48271)) (wVar 3)) (wVar 3))) (wVar 3)) (wC (.int 3))) (wC (.int 2147483629))))
  (wSet 2 (wBin pAddI (wBin pMulI (wVar 2) (wC (.int 2147483587))) (wBin pMod (wBin pMulI (wVar 1) (wVar 1)) (wC (.int 2147483587)))))))
  (wSeq (wIf (wTest (wBin pGe (wVar 0) (wBin pPow (wC (.int 10)) (wC (.int 18))))) (wRet (wLst (wCons (wBin pSub (wVar 0) (wBin pPow (wC (.int 10)) (wC (.int 18)))) (wCons (wVar 2) wNil)))) wNext)
  (wRet (wLst (wCons (wC (.int 0)) (wCons (wVar 2) wNil))))))))
def sp_l_purse : SpZ := fun rs S W => match rs with
  | [.d (.int c)] => Bd SB c ∧ ∀ a b : Int, W (.loc S.length) (S ++ [.lst [.int a, .int b]])
  | _ => False
theorem rd_l_purse : ∀ rs S W, rs.length = 1 → sp_l_purse rs S W → w_l_purse { nx := fun _ S1 => retN S.length W (.d .non) S1, rt := retN S.length W } (start1 4 rs) S := by
  intro rs S W _ h
  unfold sp_l_purse at h
  split at h
  · rename_i c _
    obtain ⟨hc, h⟩ := h
    unfold w_l_purse
    refine seqI fun P hP => ?_
    wide_open with if_true
    refine ⟨by decide, ?_⟩
    refine hP _ _ ?_; clear hP
    have e1 : c.fmod 2147483647 = c % 2147483647 := fmod_pos (by decide)
    rw [e1]
    have c0 := Int.emod_nonneg c (show (2147483647 : Int) ≠ 0 by decide)
    have c1 := Int.emod_lt_of_pos c (show (0 : Int) < 2147483647 by decide)
    generalize c % 2147483647 = z at *
    refine seqI fun P hP => ?_
    wide_open with if_true
    refine hP _ _ ?_; clear hP
    refine seqI fun P hP => ?_
    wide_open with if_true
    refine forL_ix (fun i r S1 => S1 = S ∧ ∃ (z f : Int) (y : Option R), (0 ≤ z ∧ z < 2147483647) ∧ r = [some (.d (.int c)), some (.d (.int z)), some (.d (.int f)), y]) ?_ ?_ ⟨rfl, _, _, _, ⟨c0, c1⟩, rfl⟩
    · rintro i x hx r S1 ⟨rfl, z, f, y, ⟨z0, z1⟩, rfl⟩ M hM
      obtain ⟨hi, rfl⟩ := rgR_get (lo := 0) (n := 60) hx
      refine ⟨trivial, seqI fun P hP => ?_⟩
      wide_open with if_true
      have kb : Bd 60 (48271 * ((0 : Int) + (i : Nat))) := Bd.of_le (b := 48271 * 80) (by omega) (by omega) (by decide)
      have ib : Bd 60 ((0 : Int) + (i : Nat)) := Bd.of_le (b := 80) (by omega) (by omega) (by decide)
      refine ⟨mulOk_l ⟨by omega, by omega⟩, mulOk_l (by decide), mulOk kb ib (by decide), by decide, ?_⟩
      refine hP _ _ ?_; clear hP
      generalize z * z + 48271 * ((0 : Int) + (i : Nat)) * ((0 : Int) + (i : Nat)) + ((0 : Int) + (i : Nat)) + 3 = u
      have e2 : u.fmod 2147483629 = u % 2147483629 := fmod_pos (by decide)
      rw [e2]
      have u0 := Int.emod_nonneg u (show (2147483629 : Int) ≠ 0 by decide)
      have u1 := Int.emod_lt_of_pos u (show (0 : Int) < 2147483629 by decide)
      wide_open with if_true
      exact ⟨mulOk_r (by decide), mulOk_l ⟨by omega, by omega⟩, by decide, _, _, Cut.refl, hM _ _ ⟨rfl, _, _, _, ⟨u0, by omega⟩, rfl⟩⟩
    · rintro r S1 ⟨rfl, z, f, y, _, rfl⟩
      refine ⟨trivial, ?_⟩
      show P _ _
      refine hP _ _ ?_; clear hP
      wide_open with if_true
      refine ⟨⟨by decide, by decide, by decide⟩, ?_⟩
      split
      · wide_open with if_true
        exact ⟨⟨by decide, by decide, by decide⟩, h _ _⟩
      · exact h _ _
  · exact h.elim
/-- slots: 0 _law_purse_here, 1 _law_many, 2 _law_at, 3 _law_found -/
def w_l_take : PS1 :=
  (wSeq (wSet 2 (wFn fInt (wCons (wBin pEq (wBin pIx (wVar 0) (wC (.int 0))) (wC (.int 0))) wNil)))
  (wSeq (wSet 3 (wBin pMod (wBin pIx (wVar 0) (wVar 2)) (wVar 1)))
  (wSeq (wStI (wVar 0) (wVar 2) (wBin pDiv (wBin pIx (wVar 0) (wVar 2)) (wVar 1)))
  (wRet (wVar 3)))))
def sp_l_take : SpZ := fun rs S W => match rs, S with
  | [.loc 0, .d (.int n)], [.lst [.int _, .int _]] => (0 < n ∧ n ≤ 10000000000000000000000000000000000000000) ∧ ∀ v a b : Int, 0 ≤ v → v < n → W (.d (.int v)) [.lst [.int a, .int b]]
  | _, _ => False
theorem rd_l_take : ∀ rs S W, rs.length = 2 → sp_l_take rs S W → w_l_take { nx := fun _ S1 => retN S.length W (.d .non) S1, rt := retN S.length W } (start1 4 rs) S := by
  intro rs S W _ h
  unfold sp_l_take at h
  split at h
  · rename_i n a b _
    obtain ⟨⟨n0, n1⟩, h⟩ := h
    have cd : ∀ i : Int, CDv i n := fun i => cdv_small (by omega) (Nat.lt_of_le_of_lt (show n.natAbs ≤ 10000000000000000000000000000000000000000 by omega) (by decide))
    have mm : ∀ i : Int, 0 ≤ i.fmod n ∧ i.fmod n < n := fun i => by rw [fmod_pos n0]; exact ⟨Int.emod_nonneg _ (by omega), Int.emod_lt_of_pos _ n0⟩
    unfold w_l_take
    refine seqI fun P hP => ?_
    wide_open with if_true
    cases (a == 0) with
    | true =>
      wide_open with if_true
      refine hP _ _ ?_; clear hP
      wide_open with if_true
      exact ⟨by omega, cd b, h _ _ _ (mm b).1 (mm b).2⟩
    | false =>
      wide_open with if_true
      refine hP _ _ ?_; clear hP
      wide_open with if_true
      exact ⟨by omega, cd a, h _ _ _ (mm a).1 (mm a).2⟩
  · exact h.elim
/-- slots: 0 _law_one, 1 _law_other -/
def w_l_divisor : PS1 :=
  (wSeq (wWhile (wTest (wBin pNe (wVar 1) (wC (.int 0)))) (wPar 0 1 (wCons (wVar 1) (wCons (wBin pMod (wVar 0) (wVar 1)) wNil))))
  (wRet (wFn fAbs (wCons (wVar 0) wNil))))
def sp_l_divisor : SpZ := spGcd
theorem rd_l_divisor : ∀ rs S W, rs.length = 2 → sp_l_divisor rs S W → w_l_divisor { nx := fun _ S1 => retN S.length W (.d .non) S1, rt := retN S.length W } (start1 2 rs) S := by
  intro rs S W _ h
  unfold sp_l_divisor spGcd at h
  split at h
  · rename_i a b _
    unfold w_l_divisor
    refine seqI fun P hP => ?_
    wide_open with wWhile
    refine ⟨fun n r1 S1 => ∃ x y : Int, r1 = [some (.d (.int x)), some (.d (.int y))] ∧ S1 = S ∧ n = y.natAbs ∧ Int.gcd x y = Int.gcd a b, ⟨_, _, _, rfl, rfl, rfl, rfl⟩, ?_⟩
    rintro n r1 S1 ⟨x, y, rfl, rfl, rfl, hg⟩
    wide_open with if_true
    by_cases hy : y = 0
    · subst hy
      wide_open with if_true
      refine hP _ _ ?_; clear hP
      rw [Int.gcd_zero_right] at hg
      wide_open with if_true
      rw [hg]; exact h
    · have e : (y == 0) = false := by simpa using hy
      wide_open with e
      exact ⟨hy, _, _, Cut.refl, (x.fmod y).natAbs, fmod_abs_lt hy, y, x.fmod y, rfl, rfl, rfl, by rw [gcd_fmod, hg]⟩
  · exact h.elim
/-- slots: 0 _law_found -/
def w_l_whole : PS1 :=
  (wRet (wAndV (wIsi "int" (wVar 0)) (wNotV (wIsi "bool" (wVar 0)))))
def sp_l_whole : SpZ := fun rs S W => match rs with
  | [.d (.int _)] => W (.d (.bl true)) S
  | _ => False
theorem rd_l_whole : ∀ rs S W, rs.length = 1 → sp_l_whole rs S W → w_l_whole { nx := fun _ S1 => retN S.length W (.d .non) S1, rt := retN S.length W } (start1 1 rs) S := by
  intro rs S W _ h
  unfold sp_l_whole at h
  split at h
  · wide_open with w_l_whole
    exact h
  · exact h.elim
/-- slots: 0 _law_text, 1 _law_row, 2 _law_strange, 3 _law_sign -/
def w_l_whole_of : PS1 :=
  (wSeq (wSet 1 (wSlT (wVar 0) (wSome (wFn fInt (wCons (wBin pEq (wSlT (wVar 0) wNo (wSome (wC (.int 1)))) (wC (.str (PySem.Str.ofString "-")))) wNil))) wNo))
  (wSeq (wSet 2 (wLc (wItS (wVar 1)) (fNm 3) (wTest (wBin pSNin (wVar 3) (wC (.str (PySem.Str.ofString "0123456789"))))) (wVar 3) [3]))
  (wSeq (wIf (wOrT (wTest (wBin pEq (wVar 1) (wC (.str (PySem.Str.ofString ""))))) (wOrT (wTest (wBin pGt (wFn fSLen (wCons (wVar 1) wNil)) (wC (.int 1500)))) (wOrT (wTest (wBin pNe (wVar 2) (wLst wNil))) (wAndT (wTest (wBin pEq (wBin pSIx (wVar 1) (wC (.int 0))) (wC (.str (PySem.Str.ofString "0"))))) (wTest (wBin pNe (wVar 0) (wC (.str (PySem.Str.ofString "0"))))))))) (wRet (wC .non)) wNext)
  (wRet (wFn fIntTB (wCons (wVar 0) wNil))))))
def sp_l_whole_of : SpZ := fun rs S W => match rs with
  | [.d (.str x)] => ∃ l : List Nat, x = Tx l ∧ l.length ≤ 16000000 ∧ (∀ i, whoL l = some i → Fg 1500 i → W (.d (.int i)) S) ∧ (whoL l = none → W (.d .non) S)
  | _ => False
theorem rd_l_whole_of : ∀ rs S W, rs.length = 1 → sp_l_whole_of rs S W → w_l_whole_of { nx := fun _ S1 => retN S.length W (.d .non) S1, rt := retN S.length W } (start1 4 rs) S := by
  intro rs S W _ h
  unfold sp_l_whole_of at h
  split at h
  · obtain ⟨l, rfl, hl, h1, h2⟩ := h
    unfold w_l_whole_of
    have e1 : Txt.slice (Tx l) none (some 1) = Tx (l.take 1) := SX.slice_to (by decide)
    have e2 : Txt.slice (Tx l) (some 1) none = Tx (l.drop 1) := SX.slice_from (by decide)
    have e3 : Txt.slice (Tx l) (some 0) none = Tx (l.drop 0) := SX.slice_from (by decide)
    have hb : (bkL l).length ≤ l.length := by
      unfold bkL
      split
      · rw [List.length_drop]; omega
      · exact Nat.le_refl _
    refine seqI fun P hP => ?_
    wide_open with tx_len
    refine ⟨by omega, ?_⟩
    rw [e1, dash_tx]
    wide_open with (eqv_ss, tx_beq)
    refine ⟨by omega, ?_⟩
    have eb : Txt.slice (Tx l) (some (if decide (l.take 1 = [45]) = true then 1 else 0)) none = Tx (bkL l) := by
      unfold bkL
      by_cases hm : l.take 1 = [45]
      · rw [if_pos (decide_eq_true hm), if_pos hm, e2]
      · rw [if_neg (by rw [decide_eq_false hm]; exact Bool.false_ne_true), if_neg hm, e3, List.drop_zero]
    rw [eb]
    refine hP _ _ ?_; clear hP
    refine seqI fun P hP => ?_
    wide_open with if_true
    rw [show chrs (Tx (bkL l)) = ((bkL l).map fun c => D.str ⟨#[c]⟩).map R.d by rw [tx_chrs', List.map_map]; rfl]
    refine ⟨by rw [List.length_map, List.length_map]; omega, ?_⟩
    refine lcL_filD (fun c => !dgL c) (fun c => D.str ⟨#[c]⟩) List.take_length (by trivial) (fun c _ => ?_) ?_
    · exact ⟨_, rfl, fun W1 h => (by wide_open with dig_mem; exact h), fun _ W1 h => (by wide_open with if_true; exact h)⟩
    · have eo : okW l = (decide (0 < (bkL l).length) && (decide ((bkL l).length ≤ 1500) && ((bkL l).all dgL && (decide ((bkL l).take 1 ≠ [48]) || decide (l = [48]))))) := rfl
      have hs : ((bkL l).filter fun c => !dgL c) = [] ↔ (bkL l).all dgL = true := by
        rw [List.filter_eq_nil_iff, List.all_eq_true]
        exact ⟨fun h x hx => by simpa using h x hx, fun h x hx => by simpa using h x hx⟩
      refine hP _ _ ?_; clear hP
      refine seqI fun P hP => ?_
      wide_open with (eqv_ss, empty_tx, tx_beq, tx_len)
      by_cases e0 : bkL l = []
      · rw [if_pos (decide_eq_true e0)]
        exact h2 (who_none (by rw [eo, e0]; rfl))
      · rw [if_neg (by rw [decide_eq_false e0]; exact Bool.false_ne_true)]
        refine ⟨by omega, ?_⟩
        by_cases c2 : (1500 : Int) < ((bkL l).length : Nat)
        · rw [if_pos (decide_eq_true c2)]
          exact h2 (who_none (by rw [eo, decide_eq_false (show ¬ (bkL l).length ≤ 1500 by omega)]; simp))
        · rw [if_neg (by rw [decide_eq_false c2]; exact Bool.false_ne_true)]
          refine ⟨by omega, ?_⟩
          cases ef : (bkL l).filter fun c => !dgL c with
          | cons x xs =>
            simp only [List.map_cons, pys, PyData.eqvAll, Bool.not_false, if_true]
            refine h2 (who_none ?_)
            have : (bkL l).all dgL = false := Bool.eq_false_iff.mpr fun z => by
              rw [hs.mpr z] at ef
              cases ef
            rw [eo, this]
            simp
          | nil =>
            simp only [List.map_nil, pys, PyData.eqvAll, Bool.not_true, Bool.false_eq_true, if_false]
            have ha := hs.mp ef
            obtain ⟨d, r, ed⟩ : ∃ d r, bkL l = d :: r := by
              cases e : bkL l with
              | nil => exact absurd e e0
              | cons d r => exact ⟨d, r, rfl⟩
            have g0 : (bkL l).toArray[0]? = some d := by rw [ed]; rfl
            have t1 : (⟨#[d]⟩ : Str) = Tx [d] := rfl
            have c1 : 0 < (bkL l).length := by rw [ed]; simp
            rw [g0]
            refine ⟨by omega, ?_⟩
            rw [t1, zero_tx, tx_beq, tx_beq]
            have e1' : okW l = (decide ((bkL l).take 1 ≠ [48]) || decide (l = [48])) := by
              rw [eo, ha, decide_eq_true c1, decide_eq_true (show (bkL l).length ≤ 1500 by omega)]
              simp
            have e2' : (bkL l).take 1 = [d] := by rw [ed]; rfl
            rw [e2'] at e1'
            have fin : okW l = true → P [some (.d (.str (Tx l))), some (.d (.str (Tx (bkL l)))), some (.loc S.length), none] (S ++ [.lst []]) := fun hw => by
              obtain ⟨i, hi, ib, fg, l43, sn⟩ := who_some hw
              refine hP _ _ ?_; clear hP
              wide_open with if_true
              exact ⟨i, ib, Nat.le_trans l43 (by decide), sn, h1 i hi fg⟩
            by_cases h48 : d = 48
            · subst h48
              rw [if_pos (decide_eq_true rfl)]
              by_cases hl48 : l = [48]
              · rw [decide_eq_true hl48, if_neg (by decide)]
                exact fin (by rw [e1', decide_eq_true hl48]; simp)
              · rw [decide_eq_false hl48, if_pos (show (!false) = true by rfl)]
                exact h2 (who_none (by rw [e1', decide_eq_false hl48]; simp))
            · rw [if_neg (by simpa using h48)]
              exact fin (by rw [e1']; simp [h48])
  · exact h.elim
/-- slots: 0 _law_e, 1 _law_found, 2 _law_k -/
def w_l_which : PS1 :=
  (wSeq (wSet 1 (wLst (wCons (wIsX [PySem.Str.ofString "NoText"] (PySem.Str.ofString "NoTurn") (wVar 0)) (wCons (wIsX [PySem.Str.ofString "NoText"] (PySem.Str.ofString "NoHanger") (wVar 0)) (wCons (wIsX [PySem.Str.ofString "NoText"] (PySem.Str.ofString "TooMany") (wVar 0)) (wCons (wIsX [PySem.Str.ofString "NoText"] (PySem.Str.ofString "NoJoint") (wVar 0)) wNil))))))
  (wSeq (wSet 1 (wBin pCat (wVar 1) (wLst (wCons (wIsX [PySem.Str.ofString "NoText"] (PySem.Str.ofString "NoReach") (wVar 0)) (wCons (wIsX [PySem.Str.ofString "NoText"] (PySem.Str.ofString "NoDeed") (wVar 0)) (wCons (wIsX [PySem.Str.ofString "NoText"] (PySem.Str.ofString "NoName") (wVar 0)) (wCons (wIsX [PySem.Str.ofString "NoText"] (PySem.Str.ofString "NoMark") (wVar 0)) wNil)))))))
  (wSeq (wSet 1 (wBin pCat (wVar 1) (wLst (wCons (wIsX [PySem.Str.ofString "NoText"] (PySem.Str.ofString "NoText") (wVar 0)) (wCons (wIsX [PySem.Str.ofString "NoText"] (PySem.Str.ofString "NoLine") (wVar 0)) (wCons (wIsX [PySem.Str.ofString "NoText"] (PySem.Str.ofString "NoKept") (wVar 0)) wNil))))))
  (wSeq (wIf (wOrT (wNotT (wTest (wIsX [PySem.Str.ofString "NoText"] (PySem.Str.ofString "ValueError") (wVar 0)))) (wNotT (wTest (wIsX [PySem.Str.ofString "NoText"] (PySem.Str.ofString "TurnError") (wVar 0))))) (wRet (wLst wNil)) wNext)
  (wRet (wLc (wRng1 (wCons (wC (.int 11)) wNil)) (fNm 2) (wTest (wBin pIx (wVar 1) (wVar 2))) (wVar 2) [2]))))))
def sp_l_which : SpZ := fun rs S W => match rs, S with
  | [.ex x], [] => x = PySem.Str.ofString "NoText" ∧ W (.loc 0) [.lst [.int 8]]
  | _, _ => False
theorem rd_l_which : ∀ rs S W, rs.length = 1 → sp_l_which rs S W → w_l_which { nx := fun _ S1 => retN S.length W (.d .non) S1, rt := retN S.length W } (start1 3 rs) S := by
  intro rs S W _ h
  unfold sp_l_which at h
  split at h
  · obtain ⟨rfl, h⟩ := h
    unfold w_l_which
    have f1 : ∀ x ∈ [PySem.Str.ofString "NoTurn", PySem.Str.ofString "NoHanger", PySem.Str.ofString "TooMany", PySem.Str.ofString "NoJoint", PySem.Str.ofString "NoReach", PySem.Str.ofString "NoDeed", PySem.Str.ofString "NoName", PySem.Str.ofString "NoMark", PySem.Str.ofString "NoLine", PySem.Str.ofString "NoKept"], subX (PySem.Str.ofString "NoText") x = false := by decide +kernel
    simp only [List.mem_cons, List.not_mem_nil, or_false, forall_eq_or_imp, forall_eq] at f1
    obtain ⟨f1, f2, f3, f4, f5, f6, f7, f8, f9, f10⟩ := f1
    have t1 : ∀ x ∈ [PySem.Str.ofString "NoText", PySem.Str.ofString "TurnError", PySem.Str.ofString "ValueError"], subX (PySem.Str.ofString "NoText") x = true := by decide +kernel
    simp only [List.mem_cons, List.not_mem_nil, or_false, forall_eq_or_imp, forall_eq] at t1
    obtain ⟨t1, t2, t3⟩ := t1
    have mm : ∀ x : Str, (x ∈ [x]) = True := fun x => by simp
    refine seqI fun P hP => ?_
    wide_open with (mm, f1, f2, f3, f4)
    refine hP _ _ ?_; clear hP
    refine seqI fun P hP => ?_
    wide_open with (mm, f5, f6, f7, f8)
    refine hP _ _ ?_; clear hP
    refine seqI fun P hP => ?_
    wide_open with (mm, t1, f9, f10)
    refine hP _ _ ?_; clear hP
    refine seqI fun P hP => ?_
    wide_open with (mm, t2, t3)
    refine hP _ _ ?_; clear hP
    have g4 : ∀ k ∈ ([0, 1, 2, 3, 4, 5, 6, 7, 9, 10] : List Int), getI [D.bl false, D.bl false, D.bl false, D.bl false, D.bl false, D.bl false, D.bl false, D.bl false, D.bl true, D.bl false, D.bl false] k = some (.bl false) := by
      intro k hk
      simp only [List.mem_cons, List.not_mem_nil, or_false] at hk
      rcases hk with rfl | rfl | rfl | rfl | rfl | rfl | rfl | rfl | rfl | rfl <;> rfl
    simp only [List.mem_cons, List.not_mem_nil, or_false, forall_eq_or_imp, forall_eq] at g4
    obtain ⟨g0, g1, g2, g3, g4, g5, g6, g7, g9, g10⟩ := g4
    have g8 : getI [D.bl false, D.bl false, D.bl false, D.bl false, D.bl false, D.bl false, D.bl false, D.bl false, D.bl true, D.bl false, D.bl false] 8 = some (.bl true) := rfl
    simp -failIfUnchanged (maxSteps := 3000000) only [wSeq, wSet, wFn, fAbs, fLen, fSum, fTup, fList, fMax2, fMin2, fInt, wCons, wVar, wNil, bindV, isLo, wTest, wBin, wUn, pNeg, pCmp, wC, wPar, pInt, pAddI, pMulI, pCat, wUnl, wNever, wFz, wRev, wItS, wSIdx, pSIn, pSCat, pSIx, fSLen, wrL, isLst, wRet, wRetN, wIf, wTup, wLst, dataOf, seqOf, pIx, wUnp, fTp, fNm, fCons, fNil, wStI, wAug, wDrop, wApp, wIt, itOf, wFor, wRng1, wRng2, wZip, wLc, wYes, wAndT, wOrT, wNotT, wAndV, wOrV, wNotV, wIfE, pEqB, pyOf, pyTr, py, pys, wIsi, isT, tyN, wSl, wNo, wSome, wCall, bindVs, rsOf, callL, locR, argLocs, renR, renum, pick, backL, putAll, wNext, retN, pIsN, isNon, pIsB, pInB, wipeR, start1, ixD_10, ixD_20, ixD_21, ixD_30, ixD_31, ixD_32, ixD_40, ixD_41, ixD_42, ixD_43, getI_0, getI_1, getI_2, getI_3, eqv_ii, eqv_bb, eqv_tt, eqv_ll, eqv_nn, eqv_tn, eqv_nt, eqv_it, eqv_ti, eqv_in, eqv_ni, eqa_nil, eqa_nc, eqa_cn, eqa_cc, PyData.depth, PyData.depthAll, Nat.min_zero, Nat.zero_min, Nat.max_zero, Nat.zero_max, Nat.max_self, Nat.min_self, Nat.zero_le, Nat.le_refl, List.append_assoc, List.length_append, at_k, at_0, set_k, set_0, lt_k, take_k, lt_kk, lt_0k, allD, prs, pSub, pDiv, pMod, pPow, pShl, pLt, pLe, pGt, pGe, pEq, pNe, Option.map_some, Option.map_none, Option.bind_some, Option.bind_none, List.getElem?_cons_zero, List.getElem?_cons_succ, List.getElem?_nil, List.set_cons_zero, List.set_cons_succ, List.set_nil, List.length_cons, List.length_nil, List.map_cons, List.map_nil, List.cons_append, List.nil_append, List.replicate_zero, List.replicate_succ, List.reduceReplicate, Nat.reduceAdd, Nat.reduceSub, Nat.reduceLT, Nat.reduceLeDiff, Int.reduceNeg, Int.reduceBEq, Int.reduceAdd, Int.reduceSub, Int.reduceMul, Int.reduceLE, Int.reduceLT, Int.reduceToNat, if_true, if_false, ite_true, ite_false, Bool.false_eq_true, Bool.not_true, Bool.not_false, true_and, and_true, List.nodup_nil, List.take_succ_cons, List.take_zero, List.take_nil, List.take_length, List.take_left, Bool.and_self, Bool.and_true, Bool.true_and, Bool.and_false, Bool.false_and, reduceCtorEq, Nat.zero_add, decide_true, decide_false, Nat.add_zero, List.append_nil, intsOf, Bool.or_false, Bool.or_true, Bool.false_or, Bool.true_or, beq_self_eq_true, String.reduceBEq, ne_eq, not_false_eq_true, forall_const, implies_true, Int.reduceDiv, Int.reduceMod, Int.reducePow, Nat.lt_irrefl, SV.r.injEq, R.d.injEq, false_implies, imp_self, Int.cast_ofNat_Int, List.nodup_cons, List.not_mem_nil, not_false_iff, Int.ofNat_zero, Int.natCast_zero, Int.natCast_one, Nat.reducePow, Int.reduceFDiv, Int.reduceFMod, wZipS, fStr, pRepT, wJoin, strsOf, wDGet, pLtD, fSorted, wFzL, fMin2D, fMax2D, wDIx, wRvX, fMin1D, fMax1D, xL, xNext, xSeq, xIf, xRaise, xDrop, xSet, xRet, xE, xaL, xaCons, xTup, wxCall, wwCall, wTryK, wIsX, wIsXT, wAugI, wLstA, wAtL, wUnlA, pIxA, fLenA, wItA, wAppA, wPopA, wClrA, wStIA, noLocs, noLoc, wSlT, pSMul, R.loc.injEq, forall_eq', List.mem_singleton, Nat.reduceEqDiff, wNum, wTupR, pIxT, fLenT, getR_0, getR_1, getR_2, wSplit, wPart, fIntT, wChn, wCpDa, pInDa, pIxDa, wPutDa, fSortDa, wFld2, pSNin, fIntTB, fStrB, xFor, wRepC, pSMulB, rgR_succ, rgR_zero, lcL, g0, g1, g2, g3, g4, g5, g6, g7, g8, g9, g10]
    exact h
  · exact h.elim
/-- slots: 0 _law_some -/
def w_l_odd : PS1 :=
  (wSeq (wSet 0 (wLst (wCons (wC (.str (PySem.Str.ofString ""))) (wCons (wC (.str (PySem.Str.ofString "-"))) (wCons (wC (.str (PySem.Str.ofString "--1"))) (wCons (wC (.str (PySem.Str.ofString "0"))) (wCons (wC (.str (PySem.Str.ofString "-0"))) (wCons (wC (.str (PySem.Str.ofString "00"))) (wCons (wC (.str (PySem.Str.ofString "01"))) (wCons (wC (.str (PySem.Str.ofString "-01"))) (wCons (wC (.str (PySem.Str.ofString "+1"))) (wCons (wC (.str (PySem.Str.ofString " 1"))) (wCons (wC (.str (PySem.Str.ofString "1 "))) (wCons (wC (.str (PySem.Str.ofString "1."))) (wCons (wC (.str (PySem.Str.ofString "1.0"))) (wCons (wC (.str (PySem.Str.ofString "1/1"))) (wCons (wC (.str (PySem.Str.ofString "2/4"))) (wCons (wC (.str (PySem.Str.ofString "0/1"))) (wCons (wC (.str (PySem.Str.ofString "0/5"))) wNil)))))))))))))))))))
  (wSeq (wSet 0 (wBin pCat (wVar 0) (wLst (wCons (wC (.str (PySem.Str.ofString "1/0"))) (wCons (wC (.str (PySem.Str.ofString "1/-2"))) (wCons (wC (.str (PySem.Str.ofString "-1/2"))) (wCons (wC (.str (PySem.Str.ofString "-1/-2"))) (wCons (wC (.str (PySem.Str.ofString "1/02"))) (wCons (wC (.str (PySem.Str.ofString "1/2"))) (wCons (wC (.str (PySem.Str.ofString "/2"))) (wCons (wC (.str (PySem.Str.ofString "1/"))) (wCons (wC (.str (PySem.Str.ofString "/"))) (wCons (wC (.str (PySem.Str.ofString "1//2"))) (wCons (wC (.str (PySem.Str.ofString "1/2/3"))) (wCons (wC (.str (PySem.Str.ofString "1 /2"))) (wCons (wC (.str (PySem.Str.ofString "1/ 2"))) wNil))))))))))))))))
  (wRet (wBin pCat (wVar 0) (wLst (wCons (wC (.str (PySem.Str.ofString "1e3"))) (wCons (wC (.str (PySem.Str.ofString "0x1"))) (wCons (wC (.str (PySem.Str.ofString "1_0"))) (wCons (wC (.str (PySem.Str.ofString "a"))) (wCons (wC (.str (PySem.Str.ofString "1a"))) (wCons (wC (.str (PySem.Str.ofString "1-"))) (wCons (wC (.str (PySem.Str.ofString "1-2"))) (wCons (wC (.str (PySem.Str.ofString "3:2"))) (wCons (wC (.str (PySem.Str.ofString "3;"))) (wCons (wC (.str (PySem.Str.ofString "-3/7"))) wNil)))))))))))))))
def sp_l_odd : SpZ := fun rs S W => match rs, S with
  | [], [] => ∀ xs : List Str, xs.length ≤ 50 → (∀ x ∈ xs, x.length ≤ 10) → W (.loc 0) [.lst (xs.map D.str)]
  | _, _ => False
theorem rd_l_odd : ∀ rs S W, rs.length = 0 → sp_l_odd rs S W → w_l_odd { nx := fun _ S1 => retN S.length W (.d .non) S1, rt := retN S.length W } (start1 1 rs) S := by
  intro rs S W _ h
  unfold sp_l_odd at h
  split at h
  · unfold w_l_odd
    have h := h [PySem.Str.ofString "", PySem.Str.ofString "-", PySem.Str.ofString "--1", PySem.Str.ofString "0", PySem.Str.ofString "-0", PySem.Str.ofString "00", PySem.Str.ofString "01", PySem.Str.ofString "-01", PySem.Str.ofString "+1", PySem.Str.ofString " 1", PySem.Str.ofString "1 ", PySem.Str.ofString "1.", PySem.Str.ofString "1.0", PySem.Str.ofString "1/1", PySem.Str.ofString "2/4", PySem.Str.ofString "0/1", PySem.Str.ofString "0/5", PySem.Str.ofString "1/0", PySem.Str.ofString "1/-2", PySem.Str.ofString "-1/2", PySem.Str.ofString "-1/-2", PySem.Str.ofString "1/02", PySem.Str.ofString "1/2", PySem.Str.ofString "/2", PySem.Str.ofString "1/", PySem.Str.ofString "/", PySem.Str.ofString "1//2", PySem.Str.ofString "1/2/3", PySem.Str.ofString "1 /2", PySem.Str.ofString "1/ 2", PySem.Str.ofString "1e3", PySem.Str.ofString "0x1", PySem.Str.ofString "1_0", PySem.Str.ofString "a", PySem.Str.ofString "1a", PySem.Str.ofString "1-", PySem.Str.ofString "1-2", PySem.Str.ofString "3:2", PySem.Str.ofString "3;", PySem.Str.ofString "-3/7"] (by decide) (by decide +kernel)
    refine seqI fun P hP => ?_
    wide_open with if_true
    refine hP _ _ ?_; clear hP
    refine seqI fun P hP => ?_
    wide_open with if_true
    refine hP _ _ ?_; clear hP
    wide_open with if_true
    exact h
  · exact h.elim
/-- slots: 0 text, 1 figures, 2 sign -/
def w_read_whole : PX1 :=
  (xSeq (xL (wSet 1 (wVar 0)))
  (xSeq (xL (wIf (wTest (wBin pEq (wSlT (wVar 0) wNo (wSome (wC (.int 1)))) (wC (.str (PySem.Str.ofString "-"))))) (wSet 1 (wSlT (wVar 0) (wSome (wC (.int 1))) wNo)) wNext))
  (xSeq (xDrop (wxCall sp_must 1 (wCons (wChn pLt pLe (wC (.int 0)) (wFn fSLen (wCons (wVar 1) wNil)) (wC (.int 1500))) wNil)))
  (xSeq (xFor (wItS (wVar 1)) (fNm 2) (xDrop (wxCall sp_must 1 (wCons (wBin pSIn (wVar 2) (wC (.str (PySem.Str.ofString "0123456789")))) wNil))))
  (xSeq (xDrop (wxCall sp_must 1 (wCons (wOrV (wBin pNe (wBin pSIx (wVar 1) (wC (.int 0))) (wC (.str (PySem.Str.ofString "0")))) (wBin pEq (wVar 0) (wC (.str (PySem.Str.ofString "0"))))) wNil)))
  (xL (wRet (wFn fIntTB (wCons (wVar 0) wNil)))))))))
def sp_read_whole : SpW := fun rs S W XW => match rs with
  | [.d (.str x)] => ∃ l : List Nat, x = Tx l ∧ l.length ≤ 16000000 ∧ (∀ i, whoL l = some i → Fg 1500 i → W (.d (.int i)) S) ∧ (whoL l = none → XW (PySem.Str.ofString "NoText") S)
  | _ => False
theorem rd_read_whole : ∀ rs S W XW, rs.length = 1 → sp_read_whole rs S W XW → w_read_whole { n := { nx := fun _ S1 => retN S.length W (.d .non) S1, rt := retN S.length W }, ex := fun x _ S1 => XW x (S1.take S.length) } (start1 3 rs) S := by
  intro rs S W XW _ h
  unfold sp_read_whole at h
  split at h
  · obtain ⟨l, rfl, hl, h1, h2⟩ := h
    unfold w_read_whole
    refine xseqI fun P hP => ?_
    wide_open with if_true
    refine hP _ _ ?_; clear hP
    refine xseqI fun P hP => ?_
    wide_open with tx_len
    refine ⟨by omega, ?_⟩
    have e1 : Txt.slice (Tx l) none (some 1) = Tx (l.take 1) := SX.slice_to (by decide)
    have e2 : Txt.slice (Tx l) (some 1) none = Tx (l.drop 1) := SX.slice_from (by decide)
    rw [e1, dash_tx]
    wide_open with (eqv_ss, tx_beq)
    have key : P [some (.d (.str (Tx l))), some (.d (.str (Tx (bkL l)))), none] S := by
      have hb : (bkL l).length ≤ l.length := by
        unfold bkL
        split
        · rw [List.length_drop]; omega
        · exact Nat.le_refl _
      refine hP _ _ ?_; clear hP
      refine xseqI fun P hP => ?_
      wide_open with tx_len
      refine ⟨by omega, ?_⟩
      by_cases c1 : (0 : Int) < ((bkL l).length : Nat)
      · rw [decide_eq_true c1]
        by_cases c2 : (((bkL l).length : Nat) : Int) ≤ 1500
        · wide_open with (decide_eq_true c2, sp_must)
          refine hP _ _ ?_; clear hP
          refine xseqI fun P hP => ?_
          wide_open with tx_chrs'
          refine forX_ix (fun j r S1 => S1 = S ∧ ((bkL l).take j).all dgL = true ∧ ∃ y : Option R, r = [some (.d (.str (Tx l))), some (.d (.str (Tx (bkL l)))), y]) ?_ ?_ ⟨rfl, rfl, none, rfl⟩
          · rintro j x hx r S1 ⟨rfl, ha, y, rfl⟩ M hM
            obtain ⟨c, hc, rfl⟩ := item_enc hx
            refine ⟨trivial, ?_⟩
            wide_open with (dig_mem, sp_must)
            refine ⟨fun hd => ⟨_, _, Cut.refl, hM _ _ ⟨rfl, ?_, _, rfl⟩⟩, fun hd => h2 (who_none ?_)⟩
            · rw [List.take_add_one, hc, List.all_append, ha]
              show (true && (dgL c && true)) = true
              unfold dgL
              simpa using hd
            · refine Bool.eq_false_iff.mpr fun e => ?_
              unfold okW at e
              simp only [Bool.and_eq_true, List.all_eq_true] at e
              have := e.2.2.1 c (List.mem_of_getElem? hc)
              unfold dgL at this
              rw [this] at hd
              cases hd
          · rintro r S1 ⟨rfl, ha, y, rfl⟩
            rw [List.length_map, List.take_length] at ha
            refine ⟨trivial, ?_⟩
            show P _ _
            refine hP _ _ ?_; clear hP
            refine xseqI fun P hP => ?_
            obtain ⟨d, r, ed⟩ : ∃ d r, bkL l = d :: r := by
              cases e : bkL l with
              | nil => rw [e] at c1; simp at c1
              | cons d r => exact ⟨d, r, rfl⟩
            have g0 : (Tx (bkL l)).cps[0]? = some d := by rw [ed]; rfl
            have t1 : (⟨#[d]⟩ : Str) = Tx [d] := rfl
            wide_open with (tx_len, g0)
            refine ⟨by omega, ?_⟩
            rw [t1, zero_tx]
            have fin : okW l = true → P [some (.d (.str (Tx l))), some (.d (.str (Tx (bkL l)))), y] S1 := fun hw => by
              obtain ⟨i, hi, ib, fg, l43, sn⟩ := who_some hw
              refine hP _ _ ?_; clear hP
              wide_open with if_true
              exact ⟨i, ib, Nat.le_trans l43 (by decide), sn, h1 i hi fg⟩
            have e1' : okW l = (decide ((bkL l).take 1 ≠ [48]) || decide (l = [48])) := by
              unfold okW
              have c1' : 0 < (bkL l).length := by omega
              have c2' : (bkL l).length ≤ 1500 := by omega
              rw [ha, decide_eq_true c1', decide_eq_true c2']
              simp
            have e2' : (bkL l).take 1 = [d] := by rw [ed]; rfl
            rw [e2'] at e1'
            by_cases h48 : d = 48
            · subst h48
              wide_open with (eqv_ss, tx_beq, sp_must)
              by_cases hl48 : l = [48]
              · rw [decide_eq_true hl48]
                refine ⟨fun _ => fin ?_, fun z => (by cases z)⟩
                rw [e1', decide_eq_true hl48]; simp
              · rw [decide_eq_false hl48]
                refine ⟨fun z => (by cases z), fun _ => h2 (who_none ?_)⟩
                rw [e1', decide_eq_false hl48]; simp
            · have dd : decide ([d] = [48]) = false := decide_eq_false fun e => h48 (by simpa using e)
              wide_open with (eqv_ss, tx_beq, dd, sp_must)
              exact fin (by rw [e1']; simp [h48])
        · wide_open with (decide_eq_false c2, sp_must)
          refine h2 (who_none ?_)
          unfold okW
          have c2' : ¬ (bkL l).length ≤ 1500 := by omega
          rw [decide_eq_false c2']
          simp
      · wide_open with (decide_eq_false c1, sp_must)
        refine h2 (who_none ?_)
        unfold okW
        have c1' : ¬ 0 < (bkL l).length := by omega
        rw [decide_eq_false c1']
        simp
    by_cases hm : l.take 1 = [45]
    · have eb : bkL l = l.drop 1 := if_pos hm
      rw [eb] at key
      rw [decide_eq_true hm]
      wide_open with tx_len
      refine ⟨by omega, ?_⟩
      rw [e2]
      exact key
    · have eb : bkL l = l := if_neg hm
      rw [eb] at key
      rw [decide_eq_false hm]
      wide_open with if_true
      exact key
  · exact h.elim
/-- slots: 0 _law_purse_here, 1 _law_kind -/
def w_l_number : PS1 :=
  (wSeq (wIf (wTest (wBin pLt (wVar 1) (wC (.int 3)))) (wRet (wBin pSub (wCall sp_l_take 2 (wCons (wVar 0) (wCons (wC (.int 7)) wNil))) (wC (.int 3)))) wNext)
  (wSeq (wIf (wTest (wBin pEq (wVar 1) (wC (.int 3)))) (wRet (wBin pSub (wCall sp_l_take 2 (wCons (wVar 0) (wCons (wC (.int 201)) wNil))) (wC (.int 100)))) wNext)
  (wSeq (wIf (wTest (wBin pEq (wVar 1) (wC (.int 4)))) (wRet (wBin pSub (wCall sp_l_take 2 (wCons (wVar 0) (wCons (wBin pAddI (wBin pMulI (wC (.int 2)) (wBin pPow (wC (.int 10)) (wC (.int 6)))) (wC (.int 1))) wNil))) (wBin pPow (wC (.int 10)) (wC (.int 6))))) wNext)
  (wRet (wBin pSub (wCall sp_l_take 2 (wCons (wVar 0) (wCons (wBin pSub (wBin pMulI (wC (.int 2)) (wBin pPow (wC (.int 10)) (wC (.int 30)))) (wC (.int 1))) wNil))) (wBin pSub (wBin pPow (wC (.int 10)) (wC (.int 30))) (wC (.int 1))))))))
def sp_l_number : SpZ := fun rs S W => match rs, S with
  | [.loc 0, .d (.int _)], [.lst [.int _, .int _]] => ∀ v a b : Int, Bd 100 v → W (.d (.int v)) [.lst [.int a, .int b]]
  | _, _ => False
theorem rd_l_number : ∀ rs S W, rs.length = 2 → sp_l_number rs S W → w_l_number { nx := fun _ S1 => retN S.length W (.d .non) S1, rt := retN S.length W } (start1 2 rs) S := by
  intro rs S W _ h
  unfold sp_l_number at h
  split at h
  · rename_i k a b _
    unfold w_l_number
    refine seqI fun P hP => ?_
    wide_open with sp_l_take
    by_cases h1 : k < 3
    · wide_open with (decide_eq_true h1, if_true)
      exact fun v a b v0 v1 => h _ _ _ (Bd.of_le (b := 10) (by omega) (by omega) (by decide))
    wide_open with (decide_eq_false h1, if_true)
    refine hP _ _ ?_; clear hP
    refine seqI fun P hP => ?_
    wide_open with sp_l_take
    cases (k == 3) with
    | true =>
      wide_open with if_true
      exact fun v a b v0 v1 => h _ _ _ (Bd.of_le (b := 200) (by omega) (by omega) (by decide))
    | false =>
      wide_open with if_true
      refine hP _ _ ?_; clear hP
      refine seqI fun P hP => ?_
      wide_open with sp_l_take
      cases (k == 4) with
      | true =>
        wide_open with if_true
        exact ⟨⟨by decide, by decide, by decide⟩, mulOk_l (by decide), fun v a b v0 v1 => ⟨⟨by decide, by decide, by decide⟩, h _ _ _ (Bd.of_le (b := 2000001) (by omega) (by omega) (by decide))⟩⟩
      | false =>
        wide_open with if_true
        refine hP _ _ ?_; clear hP
        wide_open with sp_l_take
        exact ⟨⟨by decide, by decide, by decide⟩, mulOk_l (by decide), fun v a b v0 v1 => ⟨⟨by decide, by decide, by decide⟩, h _ _ _ (Bd.of_le (b := 1000000000000000000000000000000) (by omega) (by omega) (by decide))⟩⟩
  · exact h.elim
/-- slots: 0 _law_top, 1 _law_bottom, 2 _law_share -/
def w_l_lowest : PS1 :=
  (wSeq (wSet 2 (wCall sp_l_divisor 2 (wCons (wVar 0) (wCons (wVar 1) wNil))))
  (wSeq (wIf (wTest (wBin pLt (wVar 1) (wC (.int 0)))) (wSet 2 (wUn pNeg (wVar 2))) wNext)
  (wRet (wTup (wCons (wBin pDiv (wVar 0) (wVar 2)) (wCons (wBin pDiv (wVar 1) (wVar 2)) wNil))))))
def sp_l_lowest : SpZ := spMade
theorem rd_l_lowest : ∀ rs S W, rs.length = 2 → sp_l_lowest rs S W → w_l_lowest { nx := fun _ S1 => retN S.length W (.d .non) S1, rt := retN S.length W } (start1 3 rs) S := by
  intro rs S W _ h
  unfold sp_l_lowest spMade at h
  split at h
  · rename_i t b _
    obtain ⟨hb, h1, h⟩ := h
    wide_open with (w_l_lowest, sp_l_divisor, spGcd)
    by_cases hn : b < 0
    · rw [frD_neg hn] at h
      wide_open with (decide_eq_true hn, if_true)
      exact ⟨(gcd_cdv hb h1 t).2, (gcd_cdv hb h1 b).2, h⟩
    · rw [frD_pos (by omega)] at h
      wide_open with (decide_eq_false hn, if_true)
      exact ⟨(gcd_cdv hb h1 t).1, (gcd_cdv hb h1 b).1, h⟩
  · exact h.elim
/-- slots: 0 _law_text, 1 _law_found, 2 _law_part -/
def w_l_fraction_of : PS1 :=
  (wSeq (wSet 1 (wLc (wIt (wSplit (wVar 0) (wC (.str (PySem.Str.ofString "/"))))) (fNm 2) wYes (wCall sp_l_whole_of 1 (wCons (wVar 2) wNil)) [2]))
  (wSeq (wIf (wOrT (wTest (wBin (pInB false) (wC .non) (wVar 1))) (wTest (wBin pGt (wFn fLen (wCons (wVar 1) wNil)) (wC (.int 2))))) (wRet (wC .non)) wNext)
  (wSeq (wIf (wTest (wBin pEq (wFn fLen (wCons (wVar 1) wNil)) (wC (.int 1)))) (wRet (wTup (wCons (wBin pIx (wVar 1) (wC (.int 0))) (wCons (wC (.int 1)) wNil)))) wNext)
  (wSeq (wIf (wOrT (wTest (wBin pLt (wBin pIx (wVar 1) (wC (.int 1))) (wC (.int 2)))) (wTest (wBin pNe (wCall sp_l_divisor 2 (wCons (wBin pIx (wVar 1) (wC (.int 0))) (wCons (wBin pIx (wVar 1) (wC (.int 1))) wNil))) (wC (.int 1))))) (wRet (wC .non)) wNext)
  (wRet (wFn fTup (wCons (wVar 1) wNil)))))))
def sp_l_fraction_of : SpZ := fun rs S W => match rs, S with
  | [.d (.str x)], [] => ∃ l : List Nat, x = Tx l ∧ l.length ≤ 16000000 ∧ (∀ p, fracL l = some p → FgP 1500 p → W (.d (prD p)) []) ∧ (fracL l = none → W (.d .non) [])
  | _, _ => False
theorem rd_l_fraction_of : ∀ rs S W, rs.length = 1 → sp_l_fraction_of rs S W → w_l_fraction_of { nx := fun _ S1 => retN S.length W (.d .non) S1, rt := retN S.length W } (start1 3 rs) S := by
  intro rs S W _ h
  unfold sp_l_fraction_of at h
  split at h
  · obtain ⟨l, rfl, hl, h1, h2⟩ := h
    unfold w_l_fraction_of
    refine seqI fun P hP => ?_
    wide_open with (one_len, tx_len)
    refine ⟨⟨by decide, by omega⟩, ?_⟩
    rw [slash_tx, split_prt (by decide)]
    rw [show (((prt 47 l).map Tx).map D.str).map R.d = (prt 47 l).map (fun p => R.d (.str (Tx p))) by rw [List.map_map, List.map_map]; rfl]
    refine ⟨by rw [List.length_map]; have := prt_len 47 l; omega, ?_⟩
    refine lcL_enc (fun p => R.d (.str (Tx p))) (fun p => wiD (whoL p)) (by rfl) (by trivial) (fun p hp => ?_) ?_
    · refine ⟨_, rfl, fun W1 h => h, fun W1 h => ?_⟩
      have := prt_mem 47 l p hp
      wide_open with sp_l_whole_of
      refine ⟨p, rfl, by omega, fun i hi fi => ?_, fun hn => ?_⟩
      · rw [hi] at h; exact h
      · rw [hn] at h; exact h
    · have hne := prt_ne 47 l
      have hl2 := prt_len 47 l
      unfold fracL at h1 h2
      generalize prt 47 l = ps at hne hl2 h1 h2 ⊢
      refine hP _ _ ?_; clear hP
      match ps, hne, hl2 with
      | [a], _, _ =>
        simp only at h1 h2
        cases hw : whoL a with
        | none =>
          rw [hw] at h2
          simp only [List.map_cons, List.map_nil, hw]
          refine seqI fun P hP => ?_
          wide_open with (wiD, eqv_nn)
          exact h2 rfl
        | some i =>
          rw [hw] at h1
          simp only [List.map_cons, List.map_nil, hw]
          refine seqI fun P hP => ?_
          wide_open with (wiD, eqv_in, eqv_ni)
          refine hP _ _ ?_; clear hP
          refine seqI fun P hP => ?_
          wide_open with if_true
          exact h1 (i, 1) rfl ⟨who_fg hw, fg_one _ (by decide)⟩
      | [a, b], _, _ =>
        simp only at h1 h2
        cases ha : whoL a with
        | none =>
          rw [ha] at h2
          cases hb : whoL b <;> simp only [List.map_cons, List.map_nil, ha, hb] <;> refine seqI fun P hP => ?_ <;> wide_open with (wiD, eqv_nn, eqv_in, eqv_ni) <;> exact h2 rfl
        | some i =>
          cases hb : whoL b with
          | none =>
            rw [ha, hb] at h2
            simp only [List.map_cons, List.map_nil, ha, hb]
            refine seqI fun P hP => ?_
            wide_open with (wiD, eqv_nn, eqv_in, eqv_ni)
            exact h2 rfl
          | some j =>
            rw [ha, hb] at h1 h2
            simp only at h1 h2
            simp only [List.map_cons, List.map_nil, ha, hb]
            refine seqI fun P hP => ?_
            wide_open with (wiD, eqv_nn, eqv_in, eqv_ni)
            refine hP _ _ ?_; clear hP
            refine seqI fun P hP => ?_
            wide_open with if_true
            refine hP _ _ ?_; clear hP
            refine seqI fun P hP => ?_
            wide_open with sp_l_divisor
            by_cases j2 : j < 2
            · rw [if_pos (decide_eq_true j2)]
              exact h2 (if_neg fun z => by omega)
            · rw [if_neg (by rw [decide_eq_false j2]; exact Bool.false_ne_true)]
              by_cases g1 : Int.gcd i j = 1
              · have g2 : (((Int.gcd i j : Nat) : Int) == 1) = true := by rw [g1]; rfl
                wide_open with (spGcd, g2, eqv_ii)
                refine hP _ _ ?_; clear hP
                wide_open with if_true
                exact h1 (i, j) (if_pos ⟨by omega, g1⟩) ⟨who_fg ha, who_fg hb⟩
              · have g2 : (((Int.gcd i j : Nat) : Int) == 1) = false := beq_eq_false_iff_ne.mpr fun e => g1 (by omega)
                wide_open with (spGcd, g2, eqv_ii)
                exact h2 (if_neg fun z => g1 z.2)
      | a :: b :: c :: r, _, hl3 =>
        refine seqI fun P hP => ?_
        wide_open with if_true
        split
        · exact h2 rfl
        · rw [if_pos (decide_eq_true (by omega))]
          exact h2 rfl
  · exact h.elim
/-- slots: 0 _law_text, 1 _law_purse_here, 2 _law_sort, 3 _law_at, 4 _law_sign, 5 _law_pair -/
def w_l_bent_text : PS1 :=
  (wSeq (wSet 2 (wCall sp_l_take 2 (wCons (wVar 1) (wCons (wC (.int 11)) wNil))))
  (wSeq (wSet 3 (wCall sp_l_take 2 (wCons (wVar 1) (wCons (wBin pAddI (wFn fSLen (wCons (wVar 0) wNil)) (wC (.int 1))) wNil))))
  (wSeq (wSet 4 (wBin pSIx (wC (.str (PySem.Str.ofString "0123456789-/ :;+.ax_"))) (wCall sp_l_take 2 (wCons (wVar 1) (wCons (wC (.int 20)) wNil)))))
  (wSeq (wIf (wTest (wBin pEq (wVar 2) (wC (.int 0)))) (wRet (wBin pSCat (wBin pSCat (wSlT (wVar 0) wNo (wSome (wVar 3))) (wVar 4)) (wSlT (wVar 0) (wSome (wVar 3)) wNo))) wNext)
  (wSeq (wIf (wTest (wBin pEq (wVar 2) (wC (.int 1)))) (wRet (wBin pSCat (wSlT (wVar 0) wNo (wSome (wVar 3))) (wSlT (wVar 0) (wSome (wBin pAddI (wVar 3) (wC (.int 1)))) wNo))) wNext)
  (wSeq (wIf (wTest (wBin pEq (wVar 2) (wC (.int 2)))) (wRet (wBin pSCat (wBin pSCat (wSlT (wVar 0) wNo (wSome (wVar 3))) (wVar 4)) (wSlT (wVar 0) (wSome (wBin pAddI (wVar 3) (wC (.int 1)))) wNo))) wNext)
  (wSeq (wIf (wTest (wBin pEq (wVar 2) (wC (.int 3)))) (wSeq (wSet 5 (wBin pSCat (wSlT (wVar 0) (wSome (wBin pAddI (wVar 3) (wC (.int 1)))) (wSome (wBin pAddI (wVar 3) (wC (.int 2))))) (wSlT (wVar 0) (wSome (wVar 3)) (wSome (wBin pAddI (wVar 3) (wC (.int 1)))))))
  (wRet (wBin pSCat (wBin pSCat (wSlT (wVar 0) wNo (wSome (wVar 3))) (wVar 5)) (wSlT (wVar 0) (wSome (wBin pAddI (wVar 3) (wC (.int 2)))) wNo)))) wNext)
  (wSeq (wIf (wTest (wBin pEq (wVar 2) (wC (.int 4)))) (wRet (wBin pIx (wLst (wCons (wBin pSCat (wVar 0) (wC (.str (PySem.Str.ofString " ")))) (wCons (wBin pSCat (wC (.str (PySem.Str.ofString " "))) (wVar 0)) (wCons (wBin pSCat (wVar 0) (wC (.str (PySem.Str.ofString ";")))) (wCons (wBin pSCat (wVar 0) (wC (.str (PySem.Str.ofString "/1")))) wNil))))) (wCall sp_l_take 2 (wCons (wVar 1) (wCons (wC (.int 4)) wNil))))) wNext)
  (wSeq (wIf (wTest (wBin pEq (wVar 2) (wC (.int 5)))) (wRet (wSlT (wVar 0) wNo (wSome (wVar 3)))) wNext)
  (wSeq (wIf (wAndT (wTest (wBin pEq (wVar 2) (wC (.int 6)))) (wTest (wBin pLt (wFn fSLen (wCons (wVar 0) wNil)) (wC (.int 15000))))) (wRet (wBin pIx (wLst (wCons (wBin pSCat (wBin pSCat (wVar 0) (wC (.str (PySem.Str.ofString " ")))) (wVar 0)) (wCons (wBin pSCat (wBin pSCat (wVar 0) (wC (.str (PySem.Str.ofString "; ")))) (wVar 0)) (wCons (wBin pSCat (wBin pSCat (wVar 0) (wC (.str (PySem.Str.ofString ":")))) (wVar 0)) wNil)))) (wCall sp_l_take 2 (wCons (wVar 1) (wCons (wC (.int 3)) wNil))))) wNext)
  (wSeq (wIf (wTest (wBin pEq (wVar 2) (wC (.int 7)))) (wRet (wRepC (PySem.Str.ofString " ") [(PySem.Str.ofString "  "), (PySem.Str.ofString ""), (PySem.Str.ofString ":"), (PySem.Str.ofString "; ")] (wVar 0) (wCall sp_l_take 2 (wCons (wVar 1) (wCons (wC (.int 4)) wNil))))) wNext)
  (wSeq (wIf (wTest (wBin pEq (wVar 2) (wC (.int 8)))) (wRet (wRepC (PySem.Str.ofString "; ") [(PySem.Str.ofString ";"), (PySem.Str.ofString " ; "), (PySem.Str.ofString ";  "), (PySem.Str.ofString " ")] (wVar 0) (wCall sp_l_take 2 (wCons (wVar 1) (wCons (wC (.int 4)) wNil))))) wNext)
  (wSeq (wIf (wTest (wBin pEq (wVar 2) (wC (.int 9)))) (wRet (wBin pSCat (wBin pSCat (wSlT (wVar 0) wNo (wSome (wVar 3))) (wBin pIx (wLst (wCons (wC (.str (PySem.Str.ofString "0"))) (wCons (wC (.str (PySem.Str.ofString "-"))) (wCons (wC (.str (PySem.Str.ofString "00"))) (wCons (wC (.str (PySem.Str.ofString "-0"))) (wCons (wC (.str (PySem.Str.ofString "/1"))) (wCons (wC (.str (PySem.Str.ofString "/0"))) wNil))))))) (wCall sp_l_take 2 (wCons (wVar 1) (wCons (wC (.int 6)) wNil))))) (wSlT (wVar 0) (wSome (wVar 3)) wNo))) wNext)
  (wRet (wVar 0)))))))))))))))
def sp_l_bent_text : SpZ := fun rs S W => match rs, S with
  | [.d (.str x), .loc 0], [.lst [.int _, .int _]] => x.length ≤ 3000000 ∧ ∀ (z : Str) (a b : Int), z.length ≤ 4 * x.length + 6 → W (.d (.str z)) [.lst [.int a, .int b]]
  | _, _ => False
theorem rd_l_bent_text : ∀ rs S W, rs.length = 2 → sp_l_bent_text rs S W → w_l_bent_text { nx := fun _ S1 => retN S.length W (.d .non) S1, rt := retN S.length W } (start1 6 rs) S := by
  intro rs S W _ h
  unfold sp_l_bent_text at h
  split at h
  · rename_i x _ _ _
    obtain ⟨hl, h⟩ := h
    unfold w_l_bent_text
    refine seqI fun P hP => ?_
    wide_open with sp_l_take
    intro sort a b s0 s1
    refine hP _ _ ?_; clear hP
    refine seqI fun P hP => ?_
    wide_open with sp_l_take
    refine ⟨by omega, by omega, fun at_ a b a0 a1 => ?_⟩
    refine hP _ _ ?_; clear hP
    refine seqI fun P hP => ?_
    wide_open with sp_l_take
    intro u a b u0 u1
    have l20 : (PySem.Str.ofString "0123456789-/ :;+.ax_").length = 20 := by decide +kernel
    obtain ⟨c, hc⟩ : ∃ c, (PySem.Str.ofString "0123456789-/ :;+.ax_").cps[u.toNat]? = some c := ⟨_, Array.getElem?_eq_getElem (by
      show u.toNat < (PySem.Str.ofString "0123456789-/ :;+.ax_").length
      omega)⟩
    rw [hc]
    refine ⟨⟨u0, by omega, by omega⟩, ?_⟩
    have g1 : (⟨#[c]⟩ : Str).length = 1 := rfl
    generalize (⟨#[c]⟩ : Str) = sg at g1 ⊢
    have q1 := Txt.slice_le x none (some at_)
    have q2 := Txt.slice_le x (some at_) none
    have q3 := Txt.slice_le x (some (at_ + 1)) none
    have q4 := Txt.slice_le x (some (at_ + 1)) (some (at_ + 2))
    have q5 := Txt.slice_le x (some at_) (some (at_ + 1))
    have q6 := Txt.slice_le x (some (at_ + 2)) none
    have w1 : (PySem.Str.ofString " ").length = 1 := by decide +kernel
    have w2 : (PySem.Str.ofString ";").length = 1 := by decide +kernel
    have w3 : (PySem.Str.ofString "/1").length = 2 := by decide +kernel
    have w4 : (PySem.Str.ofString "; ").length = 2 := by decide +kernel
    have w5 : (PySem.Str.ofString ":").length = 1 := by decide +kernel
    have w6 : (PySem.Str.ofString "0").length = 1 := by decide +kernel
    have w7 : (PySem.Str.ofString "-").length = 1 := by decide +kernel
    have w8 : (PySem.Str.ofString "00").length = 2 := by decide +kernel
    have w9 : (PySem.Str.ofString "-0").length = 2 := by decide +kernel
    have w10 : (PySem.Str.ofString "/0").length = 2 := by decide +kernel
    have w11 : (PySem.Str.ofString "  ").length = 2 := by decide +kernel
    have w12 : (PySem.Str.ofString "").length = 0 := by decide +kernel
    have w13 : (PySem.Str.ofString " ; ").length = 3 := by decide +kernel
    have w14 : (PySem.Str.ofString ";  ").length = 3 := by decide +kernel
    have rp : ∀ (y z : Str) (a b : Int), z.length ≤ 3 → x.length + (x.length + 1) * z.length ≤ 16777216 ∧ W (.d (.str (Txt.replace x y z))) [.lst [.int a, .int b]] := fun y z a b hz => by
      have r1 := TK.replace_len x y z
      have r2 : (x.length + 1) * z.length ≤ (x.length + 1) * 3 := Nat.mul_le_mul_left _ hz
      exact ⟨by omega, h _ a b (by omega)⟩
    refine hP _ _ ?_; clear hP
    rcases (by omega : sort = 0 ∨ sort = 1 ∨ sort = 2 ∨ sort = 3 ∨ sort = 4 ∨ sort = 5 ∨ sort = 6 ∨ sort = 7 ∨ sort = 8 ∨ sort = 9 ∨ sort = 10) with rfl | rfl | rfl | rfl | rfl | rfl | rfl | rfl | rfl | rfl | rfl
    · refine seqI fun P hP => ?_
      wide_open with app_len
      repeat (refine ⟨by omega, ?_⟩)
      exact h _ _ _ (by simp only [app_len]; omega)
    · refine seqI fun P hP => ?_
      wide_open with if_true
      refine hP _ _ ?_; clear hP
      refine seqI fun P hP => ?_
      wide_open with app_len
      repeat (refine ⟨by omega, ?_⟩)
      exact h _ _ _ (by simp only [app_len]; omega)
    · refine seqI fun P hP => ?_
      wide_open with if_true
      refine hP _ _ ?_; clear hP
      refine seqI fun P hP => ?_
      wide_open with if_true
      refine hP _ _ ?_; clear hP
      refine seqI fun P hP => ?_
      wide_open with app_len
      repeat (refine ⟨by omega, ?_⟩)
      exact h _ _ _ (by simp only [app_len]; omega)
    · refine seqI fun P hP => ?_
      wide_open with if_true
      refine hP _ _ ?_; clear hP
      refine seqI fun P hP => ?_
      wide_open with if_true
      refine hP _ _ ?_; clear hP
      refine seqI fun P hP => ?_
      wide_open with if_true
      refine hP _ _ ?_; clear hP
      refine seqI fun P hP => ?_
      wide_open with app_len
      repeat (refine ⟨by omega, ?_⟩)
      exact h _ _ _ (by simp only [app_len]; omega)
    · refine seqI fun P hP => ?_
      wide_open with if_true
      refine hP _ _ ?_; clear hP
      refine seqI fun P hP => ?_
      wide_open with if_true
      refine hP _ _ ?_; clear hP
      refine seqI fun P hP => ?_
      wide_open with if_true
      refine hP _ _ ?_; clear hP
      refine seqI fun P hP => ?_
      wide_open with if_true
      refine hP _ _ ?_; clear hP
      refine seqI fun P hP => ?_
      wide_open with (app_len, w1, w2, w3, sp_l_take)
      repeat (refine ⟨by omega, ?_⟩)
      intro t a b t0 t1
      rcases (by omega : t = 0 ∨ t = 1 ∨ t = 2 ∨ t = 3) with rfl | rfl | rfl | rfl <;> exact h _ _ _ (by simp only [app_len]; omega)
    · refine seqI fun P hP => ?_
      wide_open with if_true
      refine hP _ _ ?_; clear hP
      refine seqI fun P hP => ?_
      wide_open with if_true
      refine hP _ _ ?_; clear hP
      refine seqI fun P hP => ?_
      wide_open with if_true
      refine hP _ _ ?_; clear hP
      refine seqI fun P hP => ?_
      wide_open with if_true
      refine hP _ _ ?_; clear hP
      refine seqI fun P hP => ?_
      wide_open with if_true
      refine hP _ _ ?_; clear hP
      refine seqI fun P hP => ?_
      wide_open with if_true
      refine ⟨by omega, ?_⟩
      exact h _ _ _ (by omega)
    · refine seqI fun P hP => ?_
      wide_open with if_true
      refine hP _ _ ?_; clear hP
      refine seqI fun P hP => ?_
      wide_open with if_true
      refine hP _ _ ?_; clear hP
      refine seqI fun P hP => ?_
      wide_open with if_true
      refine hP _ _ ?_; clear hP
      refine seqI fun P hP => ?_
      wide_open with if_true
      refine hP _ _ ?_; clear hP
      refine seqI fun P hP => ?_
      wide_open with if_true
      refine hP _ _ ?_; clear hP
      refine seqI fun P hP => ?_
      wide_open with if_true
      refine hP _ _ ?_; clear hP
      refine seqI fun P hP => ?_
      by_cases hq : ((x.length : Nat) : Int) < 15000
      · wide_open with (decide_eq_true hq, app_len, w1, w4, w5, sp_l_take)
        repeat (refine ⟨by omega, ?_⟩)
        intro t a b t0 t1
        rcases (by omega : t = 0 ∨ t = 1 ∨ t = 2) with rfl | rfl | rfl <;> exact h _ _ _ (by simp only [app_len]; omega)
      · wide_open with (decide_eq_false hq, if_true)
        refine ⟨by omega, ?_⟩
        refine hP _ _ ?_; clear hP
        refine seqI fun P hP => ?_
        wide_open with if_true
        refine hP _ _ ?_; clear hP
        refine seqI fun P hP => ?_
        wide_open with if_true
        refine hP _ _ ?_; clear hP
        refine seqI fun P hP => ?_
        wide_open with if_true
        refine hP _ _ ?_; clear hP
        wide_open with if_true
        exact h _ _ _ (by omega)
    · refine seqI fun P hP => ?_
      wide_open with if_true
      refine hP _ _ ?_; clear hP
      refine seqI fun P hP => ?_
      wide_open with if_true
      refine hP _ _ ?_; clear hP
      refine seqI fun P hP => ?_
      wide_open with if_true
      refine hP _ _ ?_; clear hP
      refine seqI fun P hP => ?_
      wide_open with if_true
      refine hP _ _ ?_; clear hP
      refine seqI fun P hP => ?_
      wide_open with if_true
      refine hP _ _ ?_; clear hP
      refine seqI fun P hP => ?_
      wide_open with if_true
      refine hP _ _ ?_; clear hP
      refine seqI fun P hP => ?_
      wide_open with if_true
      refine hP _ _ ?_; clear hP
      refine seqI fun P hP => ?_
      wide_open with sp_l_take
      intro t a b t0 t1
      rcases (by omega : t = 0 ∨ t = 1 ∨ t = 2 ∨ t = 3) with rfl | rfl | rfl | rfl <;> exact ⟨_, ⟨by decide, by decide⟩, rfl, rp _ _ a b (by omega)⟩
    · refine seqI fun P hP => ?_
      wide_open with if_true
      refine hP _ _ ?_; clear hP
      refine seqI fun P hP => ?_
      wide_open with if_true
      refine hP _ _ ?_; clear hP
      refine seqI fun P hP => ?_
      wide_open with if_true
      refine hP _ _ ?_; clear hP
      refine seqI fun P hP => ?_
      wide_open with if_true
      refine hP _ _ ?_; clear hP
      refine seqI fun P hP => ?_
      wide_open with if_true
      refine hP _ _ ?_; clear hP
      refine seqI fun P hP => ?_
      wide_open with if_true
      refine hP _ _ ?_; clear hP
      refine seqI fun P hP => ?_
      wide_open with if_true
      refine hP _ _ ?_; clear hP
      refine seqI fun P hP => ?_
      wide_open with if_true
      refine hP _ _ ?_; clear hP
      refine seqI fun P hP => ?_
      wide_open with sp_l_take
      intro t a b t0 t1
      rcases (by omega : t = 0 ∨ t = 1 ∨ t = 2 ∨ t = 3) with rfl | rfl | rfl | rfl <;> exact ⟨_, ⟨by decide, by decide⟩, rfl, rp _ _ a b (by omega)⟩
    · refine seqI fun P hP => ?_
      wide_open with if_true
      refine hP _ _ ?_; clear hP
      refine seqI fun P hP => ?_
      wide_open with if_true
      refine hP _ _ ?_; clear hP
      refine seqI fun P hP => ?_
      wide_open with if_true
      refine hP _ _ ?_; clear hP
      refine seqI fun P hP => ?_
      wide_open with if_true
      refine hP _ _ ?_; clear hP
      refine seqI fun P hP => ?_
      wide_open with if_true
      refine hP _ _ ?_; clear hP
      refine seqI fun P hP => ?_
      wide_open with if_true
      refine hP _ _ ?_; clear hP
      refine seqI fun P hP => ?_
      wide_open with if_true
      refine hP _ _ ?_; clear hP
      refine seqI fun P hP => ?_
      wide_open with if_true
      refine hP _ _ ?_; clear hP
      refine seqI fun P hP => ?_
      wide_open with if_true
      refine hP _ _ ?_; clear hP
      refine seqI fun P hP => ?_
      wide_open with (app_len, sp_l_take)
      repeat (refine ⟨by omega, ?_⟩)
      intro t a b t0 t1
      rcases (by omega : t = 0 ∨ t = 1 ∨ t = 2 ∨ t = 3 ∨ t = 4 ∨ t = 5) with rfl | rfl | rfl | rfl | rfl | rfl <;> (show _ ∧ _ ∧ _ ∧ _; exact ⟨by omega, by omega, by omega, h _ _ _ (by simp only [app_len]; omega)⟩)
    · refine seqI fun P hP => ?_
      wide_open with if_true
      refine hP _ _ ?_; clear hP
      refine seqI fun P hP => ?_
      wide_open with if_true
      refine hP _ _ ?_; clear hP
      refine seqI fun P hP => ?_
      wide_open with if_true
      refine hP _ _ ?_; clear hP
      refine seqI fun P hP => ?_
      wide_open with if_true
      refine hP _ _ ?_; clear hP
      refine seqI fun P hP => ?_
      wide_open with if_true
      refine hP _ _ ?_; clear hP
      refine seqI fun P hP => ?_
      wide_open with if_true
      refine hP _ _ ?_; clear hP
      refine seqI fun P hP => ?_
      wide_open with if_true
      refine hP _ _ ?_; clear hP
      refine seqI fun P hP => ?_
      wide_open with if_true
      refine hP _ _ ?_; clear hP
      refine seqI fun P hP => ?_
      wide_open with if_true
      refine hP _ _ ?_; clear hP
      refine seqI fun P hP => ?_
      wide_open with if_true
      refine hP _ _ ?_; clear hP
      wide_open with if_true
      exact h _ _ _ (by omega)
  · exact h.elim
/-- slots: 0 text, 1 top, 2 stroke, 3 bottom, 4 number -/
def w_read_number : PX1 :=
  (xSeq (xL (wUnp (fTp 3 (fCons (fNm 1) (fCons (fNm 2) (fCons (fNm 3) fNil)))) (wPart (wVar 0) (wC (.str (PySem.Str.ofString "/"))))))
  (xSeq (xIf (wTest (wBin pEq (wVar 2) (wC (.str (PySem.Str.ofString ""))))) (xRet (xTup (xaCons (wxCall sp_read_whole 1 (wCons (wVar 1) wNil)) (xaCons (xE (wC (.int 1))) (xaL wNil))))) xNext)
  (xSeq (xSet 4 (xTup (xaCons (wxCall sp_read_whole 1 (wCons (wVar 1) wNil)) (xaCons (wxCall sp_read_whole 1 (wCons (wVar 3) wNil)) (xaL wNil)))))
  (xSeq (xDrop (wxCall sp_must 1 (wCons (wAndV (wBin pGt (wBin pIx (wVar 4) (wC (.int 1))) (wC (.int 1))) (wBin pEq (wCall sp_divisor 2 (wCons (wBin pIx (wVar 4) (wC (.int 0))) (wCons (wBin pIx (wVar 4) (wC (.int 1))) wNil))) (wC (.int 1)))) wNil)))
  (xL (wRet (wVar 4)))))))
def sp_read_number : SpW := fun rs S W XW => match rs with
  | [.d (.str x)] => ∃ l : List Nat, x = Tx l ∧ l.length ≤ 16000000 ∧ (∀ p, fracL l = some p → FgP 1500 p → W (.d (prD p)) S) ∧ (fracL l = none → XW (PySem.Str.ofString "NoText") S)
  | _ => False
theorem rd_read_number : ∀ rs S W XW, rs.length = 1 → sp_read_number rs S W XW → w_read_number { n := { nx := fun _ S1 => retN S.length W (.d .non) S1, rt := retN S.length W }, ex := fun x _ S1 => XW x (S1.take S.length) } (start1 5 rs) S := by
  intro rs S W XW _ h
  unfold sp_read_number at h
  split at h
  · obtain ⟨l, rfl, hl, h1, h2⟩ := h
    have o1 : Fg 1500 1 := fg_one 1500 (by decide)
    unfold w_read_number
    refine xseqI fun P hP => ?_
    wide_open with (one_len, tx_len)
    refine ⟨⟨by decide, by omega⟩, ?_⟩
    rw [slash_tx]
    rcases part_prt l with ⟨hf, ep, e⟩ | ⟨p, q, hp, rfl, ep, e⟩
    · rw [e]
      wide_open with if_true
      refine hP _ _ ?_; clear hP
      refine xseqI fun P hP => ?_
      wide_open with (eqv_ss, empty_tx, tx_beq, sp_read_whole)
      refine ⟨l, rfl, by omega, fun i hi fi => ?_, fun hn => h2 ?_⟩
      · exact h1 (i, 1) (by unfold fracL; rw [ep]; show (whoL l).map _ = _; rw [hi]; rfl) ⟨fi, o1⟩
      · unfold fracL; rw [ep]; show (whoL l).map _ = _; rw [hn]; rfl
    · rw [e]
      wide_open with if_true
      refine hP _ _ ?_; clear hP
      refine xseqI fun P hP => ?_
      wide_open with (eqv_ss, empty_tx, tx_beq)
      have lp : p.length ≤ 16000000 := by rw [List.length_append] at hl; omega
      have lq : q.length ≤ 16000000 := by rw [List.length_append, List.length_cons] at hl; omega
      refine hP _ _ ?_; clear hP
      refine xseqI fun P hP => ?_
      wide_open with sp_read_whole
      refine ⟨p, rfl, lp, fun i hi fi => ⟨q, rfl, lq, fun j hj fj => ?_, fun hn => h2 ?_⟩, fun hn => h2 ?_⟩
      · have eq : prt 47 q = [q] := by
          by_cases m : 47 ∈ q
          · unfold whoL at hj
            rw [okW_slash m] at hj
            cases hj
          · rcases part_prt q with ⟨_, z, _⟩ | ⟨a, b, _, rfl, _, _⟩
            · exact z
            · exact absurd (by simp) m
        have ef : fracL (p ++ 47 :: q) = if 1 < j ∧ Int.gcd i j = 1 then some (i, j) else none := by
          unfold fracL
          rw [ep, eq]
          show (match whoL p, whoL q with | some i, some j => if 1 < j ∧ Int.gcd i j = 1 then some (i, j) else none | _, _ => none) = _
          rw [hi, hj]
        refine hP _ _ ?_; clear hP
        refine xseqI fun P hP => ?_
        wide_open with (sp_divisor, spGcd)
        by_cases j1 : j > 1
        · by_cases g1 : Int.gcd i j = 1
          · have g2 : (((Int.gcd i j : Nat) : Int) == 1) = true := by rw [g1]; rfl
            wide_open with (decide_eq_true j1, g2, sp_must)
            refine hP _ _ ?_; clear hP
            wide_open with if_true
            exact h1 (i, j) (by rw [ef, if_pos ⟨j1, g1⟩]) ⟨fi, fj⟩
          · have g2 : (((Int.gcd i j : Nat) : Int) == 1) = false := beq_eq_false_iff_ne.mpr fun e => g1 (by omega)
            wide_open with (decide_eq_true j1, g2, sp_must)
            exact h2 (by rw [ef, if_neg fun z => g1 z.2])
        · wide_open with (decide_eq_false j1, sp_must)
          exact h2 (by rw [ef, if_neg fun z => j1 z.1])
      · unfold fracL
        rw [ep]
        cases eq : prt 47 q with
        | nil => exact absurd eq (prt_ne 47 q)
        | cons a b => cases b with
          | nil =>
            have : a = q := by
              have := prt_join 47 q
              rw [eq] at this
              exact this
            subst this
            show (match whoL p, whoL a with | some i, some j => if 1 < j ∧ Int.gcd i j = 1 then some (i, j) else none | _, _ => none) = _
            rw [hn]
            cases whoL p <;> rfl
          | cons c d => rfl
      · unfold fracL
        rw [ep]
        cases eq : prt 47 q with
        | nil => exact absurd eq (prt_ne 47 q)
        | cons a b => cases b with
          | nil =>
            show (match whoL p, whoL a with | some i, some j => if 1 < j ∧ Int.gcd i j = 1 then some (i, j) else none | _, _ => none) = _
            rw [hn]
          | cons c d => rfl
  · exact h.elim
/-- slots: 0 _law_text, 1 _law_found, 2 _law_kept, 3 _law_e -/
def w_l_told : PX1 :=
  (xSeq (xL (wSet 1 (wC .non)))
  (xSeq (xL (wSet 2 (wC .non)))
  (xSeq (xL (wTryK [PySem.Str.ofString "NoText"] 3 2 (xSet 1 (wxCall sp_read_number 1 (wCons (wVar 0) wNil)))))
  (xL (wRet (wLstA (wCons (wVar 1) (wCons (wVar 2) wNil))))))))
def sp_l_told : SpW := fun rs S W _ => match rs with
  | [.d (.str x)] => ∃ l : List Nat, x = Tx l ∧ l.length ≤ 16000000 ∧ (fracL l = none → ∀ a, W (.ad a) (S ++ [.la a [.d .non, .ex (PySem.Str.ofString "NoText")]])) ∧ (∀ p, fracL l = some p → FgP 1500 p → ∀ a, W (.ad a) (S ++ [.la a [.d (prD p), .d .non]]))
  | _ => False
theorem rd_l_told : ∀ rs S W XW, rs.length = 1 → sp_l_told rs S W XW → w_l_told { n := { nx := fun _ S1 => W (.d .non) S1, rt := W }, ex := fun x _ S1 => XW x S1 } (start1 4 rs) S := by
  intro rs S W XW _ h
  unfold sp_l_told at h
  split at h
  · obtain ⟨l, rfl, hl, h1, h2⟩ := h
    unfold w_l_told
    refine xseqI fun P hP => ?_
    wide_open with if_true
    refine hP _ _ ?_; clear hP
    refine xseqI fun P hP => ?_
    wide_open with if_true
    refine hP _ _ ?_; clear hP
    refine xseqI fun P hP => ?_
    wide_open with sp_read_number
    refine ⟨l, rfl, hl, fun p hp fp => ?_, fun hn => ?_⟩
    · refine hP _ _ ?_; clear hP
      wide_open with if_true
      exact fun a => h2 p hp fp a
    · refine hP _ _ ?_; clear hP
      wide_open with if_true
      exact fun a => h1 hn a
  · exact h.elim
/-- slots: 0 _law_kind, 1 _law_thing_here, 2 _law_one, 3 _law_row -/
def w_l_written (spr : SpZ) : PS1 :=
  (wSeq (wIf (wAndT (wTest (wBin pEq (wVar 0) (wC (.int 0)))) (wTest (wBin pEq (wBin pIx (wVar 1) (wC (.int 1))) (wC (.int 1))))) (wRet (wFn fStrB (wCons (wBin pIx (wVar 1) (wC (.int 0))) wNil))) wNext)
  (wSeq (wIf (wTest (wBin pEq (wVar 0) (wC (.int 0)))) (wRet (wBin pSCat (wBin pSCat (wFn fStrB (wCons (wBin pIx (wVar 1) (wC (.int 0))) wNil)) (wC (.str (PySem.Str.ofString "/")))) (wFn fStrB (wCons (wBin pIx (wVar 1) (wC (.int 1))) wNil)))) wNext)
  (wSeq (wIf (wTest (wBin pEq (wVar 0) (wC (.int 3)))) (wRet (wJoin (wC (.str (PySem.Str.ofString " "))) (wLc (wIt (wVar 1)) (fNm 2) wYes (wCall spr 2 (wCons (wC (.int 0)) (wCons (wVar 2) wNil))) [2]))) wNext)
  (wSeq (wIf (wTest (wBin pEq (wVar 0) (wC (.int 4)))) (wRet (wJoin (wC (.str (PySem.Str.ofString "; "))) (wLc (wIt (wVar 1)) (fNm 3) wYes (wCall spr 2 (wCons (wC (.int 3)) (wCons (wVar 3) wNil))) [3]))) wNext)
  (wRet (wJoin (wBin pIx (wLst (wCons (wC (.str (PySem.Str.ofString " "))) (wCons (wC (.str (PySem.Str.ofString ":"))) wNil))) (wFn fInt (wCons (wBin pEq (wVar 0) (wC (.int 5))) wNil))) (wLc (wIt (wVar 1)) (fNm 2) wYes (wFn fStrB (wCons (wVar 2) wNil)) [2])))))))
def sp_l_written_n (j : Nat) : SpZ := fun rs S W => match rs with
  | [.d (.int kind), .d x] => dep kind ≤ j ∧ ∃ t, ThB 1480 kind x t ∧ W (.d (.str t)) S
  | _ => False
def sp_l_written : SpZ := sp_l_written_n 4
theorem no_l_written : ∀ rs S W, ¬ sp_l_written_n 0 rs S W := by
  intro rs S W h
  unfold sp_l_written_n at h
  split at h
  · exact absurd (Nat.le_trans (dep_pos _) h.1) (by decide)
  · exact h
theorem rd_l_written : ∀ (j : Nat) rs S W, rs.length = 2 → sp_l_written_n (j + 1) rs S W → w_l_written (sp_l_written_n j) { nx := fun _ S1 => retN S.length W (.d .non) S1, rt := retN S.length W } (start1 4 rs) S := by
  intro j rs S W _ h
  unfold sp_l_written_n at h
  split at h
  · obtain ⟨hj, t, h, hw⟩ := h
    rcases h with ⟨rfl, p, rfl, o, lw, rfl⟩ | ⟨rfl, ns, rfl, hl, o, nz, rfl⟩ | ⟨rfl, ns, rfl, hl, o, nz, rfl⟩ | ⟨rfl, ps, rfl, o, lw, rfl⟩ | ⟨rfl, qs, rfl, o, lw, rfl⟩ | ⟨rfl, ns, rfl, hl, o, nz, rfl⟩
    · obtain ⟨t, b⟩ := p
      have l1 := numT_lenF (by decide) o.1
      have l2 := numT_lenF (by decide) o.2
      have g1 := o.1.mono (show 1480 ≤ 4300 by decide)
      have g2 := o.2.mono (show 1480 ≤ 4300 by decide)
      have e0 := one_len "/" (by decide)
      unfold w_l_written
      refine seqI fun P hP => ?_
      wide_open with if_true
      by_cases hb : b = 1
      · subst hb
        wide_open with if_true
        exact ⟨g1, hw⟩
      · have e : (b == 1) = false := by simpa using hb
        have e2 : frT (t, b) = (numT t ++ PySem.Str.ofString "/") ++ numT b := if_neg hb
        rw [e2] at hw
        wide_open with e
        refine hP _ _ ?_; clear hP
        refine seqI fun P hP => ?_
        wide_open with app_len
        simp only at l1 l2 g1 g2
        exact ⟨g1, by omega, g2, by omega, hw⟩
    · have f := (rwT_fitF (by decide) (by decide) o sp_len).1
      unfold w_l_written
      refine seqI fun P hP => ?_
      wide_open with if_true
      refine hP _ _ ?_; clear hP
      refine seqI fun P hP => ?_
      wide_open with if_true
      refine hP _ _ ?_; clear hP
      refine seqI fun P hP => ?_
      wide_open with if_true
      refine hP _ _ ?_; clear hP
      refine seqI fun P hP => ?_
      wide_open with if_true
      refine hP _ _ ?_; clear hP
      wide_open with if_true
      refine ⟨by simp only [List.length_map]; have := o.1; omega, ?_⟩
      refine lcL_mapD (fun n => D.str (numT n)) (by simp) trivial (fun n hn => ?_) ?_
      · exact ⟨_, rfl, fun W1 h => h, fun W1 h => (by wide_open with if_true; exact ⟨(o.2 n hn).mono (by decide), h⟩)⟩
      · have e : strsOf (ns.map fun n => D.str (numT n)) = some (ns.map numT) := by rw [← strsOf_map, List.map_map]; rfl
        wide_open with e
        exact ⟨f, hw⟩
    · have f := (rwT_fitF (by decide) (by decide) o sp_len).1
      unfold w_l_written
      refine seqI fun P hP => ?_
      wide_open with if_true
      refine hP _ _ ?_; clear hP
      refine seqI fun P hP => ?_
      wide_open with if_true
      refine hP _ _ ?_; clear hP
      refine seqI fun P hP => ?_
      wide_open with if_true
      refine hP _ _ ?_; clear hP
      refine seqI fun P hP => ?_
      wide_open with if_true
      refine hP _ _ ?_; clear hP
      wide_open with if_true
      refine ⟨by simp only [List.length_map]; have := o.1; omega, ?_⟩
      refine lcL_mapD (fun n => D.str (numT n)) (by simp) trivial (fun n hn => ?_) ?_
      · exact ⟨_, rfl, fun W1 h => h, fun W1 h => (by wide_open with if_true; exact ⟨(o.2 n hn).mono (by decide), h⟩)⟩
      · have e : strsOf (ns.map fun n => D.str (numT n)) = some (ns.map numT) := by rw [← strsOf_map, List.map_map]; rfl
        wide_open with e
        exact ⟨f, hw⟩
    · have f := (ptT_fitF (by decide) (by decide) o).1
      unfold w_l_written
      refine seqI fun P hP => ?_
      wide_open with if_true
      refine hP _ _ ?_; clear hP
      refine seqI fun P hP => ?_
      wide_open with if_true
      refine hP _ _ ?_; clear hP
      refine seqI fun P hP => ?_
      wide_open with if_true
      refine ⟨by simp only [List.length_map]; have := o.1; omega, ?_⟩
      refine lcL_mapD (fun p => D.str (frT p)) (by simp) trivial (fun p hp => ?_) ?_
      · exact ⟨_, rfl, fun W1 h => h, fun W1 h => (by wide_open with sp_l_written_n; exact ⟨by have : dep 3 = 2 := rfl; have : dep 0 = 1 := rfl; omega, _, .inl ⟨rfl, p, rfl, o.2 p hp, lw p hp, rfl⟩, h⟩)⟩
      · have e : strsOf (ps.map fun p => D.str (frT p)) = some (ps.map frT) := by rw [← strsOf_map, List.map_map]; rfl
        wide_open with e
        exact ⟨f, hw⟩
    · have f := (tbT_fitF (by decide) (by decide) o).1
      unfold w_l_written
      refine seqI fun P hP => ?_
      wide_open with if_true
      refine hP _ _ ?_; clear hP
      refine seqI fun P hP => ?_
      wide_open with if_true
      refine hP _ _ ?_; clear hP
      refine seqI fun P hP => ?_
      wide_open with if_true
      refine hP _ _ ?_; clear hP
      refine seqI fun P hP => ?_
      wide_open with if_true
      refine ⟨by simp only [List.length_map]; have := o.1; omega, ?_⟩
      refine lcL_mapD (fun q => D.str (ptT q)) (by simp) trivial (fun q hq => ?_) ?_
      · exact ⟨_, rfl, fun W1 h => h, fun W1 h => (by wide_open with sp_l_written_n; exact ⟨by have : dep 3 = 2 := rfl; have : dep 4 = 3 := rfl; omega, _, .inr (.inr (.inr (.inl ⟨rfl, q, rfl, o.2 q hq, lw q hq, rfl⟩))), h⟩)⟩
      · have e : strsOf (qs.map fun q => D.str (ptT q)) = some (qs.map ptT) := by rw [← strsOf_map, List.map_map]; rfl
        wide_open with e
        exact ⟨f, hw⟩
    · have f := (rwT_fitF (by decide) (by decide) o co_len).1
      unfold w_l_written
      refine seqI fun P hP => ?_
      wide_open with if_true
      refine hP _ _ ?_; clear hP
      refine seqI fun P hP => ?_
      wide_open with if_true
      refine hP _ _ ?_; clear hP
      refine seqI fun P hP => ?_
      wide_open with if_true
      refine hP _ _ ?_; clear hP
      refine seqI fun P hP => ?_
      wide_open with if_true
      refine hP _ _ ?_; clear hP
      wide_open with if_true
      refine ⟨by simp only [List.length_map]; have := o.1; omega, ?_⟩
      refine lcL_mapD (fun n => D.str (numT n)) (by simp) trivial (fun n hn => ?_) ?_
      · exact ⟨_, rfl, fun W1 h => h, fun W1 h => (by wide_open with if_true; exact ⟨(o.2 n hn).mono (by decide), h⟩)⟩
      · have e : strsOf (ns.map fun n => D.str (numT n)) = some (ns.map numT) := by rw [← strsOf_map, List.map_map]; rfl
        wide_open with e
        exact ⟨f, hw⟩
  · exact h.elim
/-- slots: 0 _law_found, 1 _law_due, 2 _law_k -/
def w_l_same (spr : SpZ) : PS1 :=
  (wSeq (wIf (wOrT (wTest (wIsi "tuple" (wVar 1))) (wTest (wIsi "list" (wVar 1)))) (wSeq (wIf (wOrT (wTest (wBin pNe (wIsi "tuple" (wVar 0)) (wIsi "tuple" (wVar 1)))) (wTest (wBin pNe (wIsi "list" (wVar 0)) (wIsi "list" (wVar 1))))) (wRet (wC (.bl false))) wNext)
  (wSeq (wIf (wTest (wBin pNe (wFn fLen (wCons (wVar 0) wNil)) (wFn fLen (wCons (wVar 1) wNil)))) (wRet (wC (.bl false))) wNext)
  (wRet (wBin pEq (wFn fLen (wCons (wLc (wRng1 (wCons (wFn fLen (wCons (wVar 1) wNil)) wNil)) (fNm 2) (wNotT (wTest (wCall spr 2 (wCons (wBin pIx (wVar 0) (wVar 2)) (wCons (wBin pIx (wVar 1) (wVar 2)) wNil))))) (wVar 2) [2]) wNil)) (wC (.int 0)))))) wNext)
  (wSeq (wIf (wOrT (wTest (wIsi "str" (wVar 1))) (wTest (wBin (pIsN false) (wVar 1) (wC .non)))) (wRet (wAndV (wBin pEq (wVar 0) (wVar 1)) (wBin pEq (wIsi "str" (wVar 0)) (wIsi "str" (wVar 1))))) wNext)
  (wRet (wAndV (wCall sp_l_whole 1 (wCons (wVar 0) wNil)) (wBin pEq (wVar 0) (wVar 1))))))
def sp_l_same_n (j : Nat) : SpZ := fun rs S W => match rs with
  | [.d x, .d y] => x = y ∧ okD j x ∧ W (.d (.bl true)) S
  | _ => False
def sp_l_same : SpZ := sp_l_same_n 4
theorem no_l_same : ∀ rs S W, ¬ sp_l_same_n 0 rs S W := by
  intro rs S W h
  unfold sp_l_same_n at h
  split at h
  · exact h.2.1.elim
  · exact h
theorem rd_l_same : ∀ (j : Nat) rs S W, rs.length = 2 → sp_l_same_n (j + 1) rs S W → w_l_same (sp_l_same_n j) { nx := fun _ S1 => retN S.length W (.d .non) S1, rt := retN S.length W } (start1 3 rs) S := by
  intro j rs S W _ h
  unfold sp_l_same_n at h
  split at h
  · rename_i x y _
    obtain ⟨rfl, hk, h⟩ := h
    cases x with
    | bl b => exact hk.elim
    | non =>
      have a1 : isT "tuple" (.r (.d .non)) = false := rfl
      have a2 : isT "list" (.r (.d .non)) = false := rfl
      have a3 : isT "str" (.r (.d .non)) = false := rfl
      wide_open with (w_l_same, a1, a2, a3, isNon)
      exact h
    | int i =>
      have a1 : isT "tuple" (.r (.d (.int i))) = false := rfl
      have a2 : isT "list" (.r (.d (.int i))) = false := rfl
      have a3 : isT "str" (.r (.d (.int i))) = false := rfl
      wide_open with (w_l_same, a1, a2, a3, isNon, sp_l_whole)
      exact h
    | str s =>
      have a1 : isT "tuple" (.r (.d (.str s))) = false := rfl
      have a2 : isT "list" (.r (.d (.str s))) = false := rfl
      have a3 : isT "str" (.r (.d (.str s))) = true := rfl
      wide_open with (w_l_same, a1, a2, a3, eqv_ss)
      exact h
    | tup xs =>
      obtain ⟨hl, hk⟩ := hk
      have a1 : isT "tuple" (.r (.d (.tup xs))) = true := rfl
      have a2 : isT "list" (.r (.d (.tup xs))) = false := rfl
      unfold w_l_same
      refine seqI fun P hP => ?_
      have e2 : (((xs.length : Nat) : Int) == ((xs.length : Nat) : Int)) = true := by simp
      wide_open with (a1, a2, e2)
      refine ⟨by omega, by omega, by simp [rgR_len]; omega, lcL_pure (fun _ => .non) (fun _ => false) (by simp) trivial (fun x hx => ?_) ?_⟩
      · obtain ⟨i, hi⟩ := List.getElem?_of_mem hx
        obtain ⟨hi2, rfl⟩ := rgR_get hi
        have hi : i < xs.length := by simpa using hi2
        refine ⟨_, rfl, fun W1 h1 => ?_, fun z => nomatch z⟩
        have gi : getI xs ((0 : Int) + (i : Nat)) = some xs[i] := by
          rw [getI_of (by omega) (by omega)]
          simp [hi]
        wide_open with (gi, sp_l_same_n)
        exact ⟨hk _ (List.getElem_mem hi), h1⟩
      · have e : (rgR 0 ((xs.length : Nat) : Int).toNat).filter (fun _ => false) = [] := by simp
        rw [e]
        wide_open with if_true
        exact h
    | lst xs =>
      obtain ⟨hl, hk⟩ := hk
      have a1 : isT "tuple" (.r (.d (.lst xs))) = false := rfl
      have a2 : isT "list" (.r (.d (.lst xs))) = true := rfl
      unfold w_l_same
      refine seqI fun P hP => ?_
      have e2 : (((xs.length : Nat) : Int) == ((xs.length : Nat) : Int)) = true := by simp
      wide_open with (a1, a2, e2)
      refine ⟨by omega, by omega, by simp [rgR_len]; omega, lcL_pure (fun _ => .non) (fun _ => false) (by simp) trivial (fun x hx => ?_) ?_⟩
      · obtain ⟨i, hi⟩ := List.getElem?_of_mem hx
        obtain ⟨hi2, rfl⟩ := rgR_get hi
        have hi : i < xs.length := by simpa using hi2
        refine ⟨_, rfl, fun W1 h1 => ?_, fun z => nomatch z⟩
        have gi : getI xs ((0 : Int) + (i : Nat)) = some xs[i] := by
          rw [getI_of (by omega) (by omega)]
          simp [hi]
        wide_open with (gi, sp_l_same_n)
        exact ⟨hk _ (List.getElem_mem hi), h1⟩
      · have e : (rgR 0 ((xs.length : Nat) : Int).toNat).filter (fun _ => false) = [] := by simp
        rw [e]
        wide_open with if_true
        exact h
  · exact h.elim
/-- slots: 0 _law_kind, 1 _law_purse_here, 2 _law_most, 3 _law_top, 4 _law_k, 5 _law_found, 6 _law_one -/
def w_l_thing (spr : SpZ) : PS1 :=
  (wSeq (wIf (wTest (wBin pEq (wVar 0) (wC (.int 0)))) (wSeq (wSet 3 (wCall sp_l_number 2 (wCons (wVar 1) (wCons (wBin pIx (wLst (wCons (wC (.int 0)) (wCons (wC (.int 3)) (wCons (wC (.int 4)) (wCons (wC (.int 5)) wNil))))) (wCall sp_l_take 2 (wCons (wVar 1) (wCons (wC (.int 4)) wNil)))) wNil))))
  (wSeq (wIf (wTest (wBin pGe (wCall sp_l_take 2 (wCons (wVar 1) (wCons (wC (.int 12)) wNil))) (wVar 2))) (wSeq (wSet 3 (wC (.int 1)))
  (wSeq (wFor (wRng1 (wCons (wBin pIx (wLst (wCons (wC (.int 3)) (wCons (wC (.int 48)) (wCons (wC (.int 49)) wNil)))) (wCall sp_l_take 2 (wCons (wVar 1) (wCons (wC (.int 3)) wNil)))) wNil)) (fNm 4) (wSet 3 (wBin pAddI (wBin pMulI (wVar 3) (wBin pPow (wC (.int 10)) (wC (.int 30)))) (wCall sp_l_take 2 (wCons (wVar 1) (wCons (wBin pPow (wC (.int 10)) (wC (.int 9))) wNil))))))
  (wSet 3 (wBin pMulI (wVar 3) (wBin pIx (wLst (wCons (wC (.int 1)) (wCons (wUn pNeg (wC (.int 1))) wNil))) (wCall sp_l_take 2 (wCons (wVar 1) (wCons (wC (.int 2)) wNil)))))))) wNext)
  (wRet (wCall sp_l_lowest 2 (wCons (wVar 3) (wCons (wBin pAddI (wC (.int 1)) (wCall sp_l_take 2 (wCons (wVar 1) (wCons (wBin pIx (wLst (wCons (wC (.int 1)) (wCons (wC (.int 12)) (wCons (wBin pSub (wBin pPow (wC (.int 10)) (wC (.int 30))) (wC (.int 1))) wNil)))) (wCall sp_l_take 2 (wCons (wVar 1) (wCons (wC (.int 3)) wNil)))) wNil)))) wNil)))))) wNext)
  (wSeq (wIf (wTest (wBin pEq (wVar 0) (wC (.int 3)))) (wRet (wFn fTup (wCons (wLc (wRng1 (wCons (wC (.int 3)) wNil)) (fNm 4) wYes (wCall spr 3 (wCons (wC (.int 0)) (wCons (wVar 1) (wCons (wVar 2) wNil)))) [4]) wNil))) wNext)
  (wSeq (wIf (wTest (wBin pEq (wVar 0) (wC (.int 4)))) (wRet (wFn fTup (wCons (wLc (wRng1 (wCons (wC (.int 3)) wNil)) (fNm 4) wYes (wCall spr 3 (wCons (wC (.int 3)) (wCons (wVar 1) (wCons (wVar 2) wNil)))) [4]) wNil))) wNext)
  (wSeq (wSet 5 (wLc (wRng1 (wCons (wBin pIx (wLst (wCons (wC (.int 0)) (wCons (wC (.int 4)) (wCons (wC (.int 3)) (wCons (wC (.int 0)) (wCons (wC (.int 0)) (wCons (wC (.int 2)) wNil))))))) (wVar 0)) wNil)) (fNm 4) wYes (wBin pIx (wCall spr 3 (wCons (wC (.int 0)) (wCons (wVar 1) (wCons (wVar 2) wNil)))) (wC (.int 0))) [4]))
  (wSeq (wIf (wTest (wBin pEq (wFn fLen (wCons (wLc (wIt (wVar 5)) (fNm 6) (wTest (wBin pNe (wVar 6) (wC (.int 0)))) (wVar 6) [6]) wNil)) (wC (.int 0)))) (wStI (wVar 5) (wCall sp_l_take 2 (wCons (wVar 1) (wCons (wFn fLen (wCons (wVar 5) wNil)) wNil))) (wC (.int 1))) wNext)
  (wRet (wFn fTup (wCons (wVar 5) wNil))))))))
def sp_l_thing_n (j : Nat) : SpZ := fun rs S W => match rs, S with
  | [.d (.int kind), .loc 0, .d (.int most)], [.lst [.int _, .int _]] => depD kind ≤ j ∧ (0 ≤ kind ∧ kind < 6) ∧ ∀ (d : D) (a b : Int), DrB 1480 kind d → W (.d d) [.lst [.int a, .int b]]
  | _, _ => False
def sp_l_thing : SpZ := sp_l_thing_n 4
theorem no_l_thing : ∀ rs S W, ¬ sp_l_thing_n 0 rs S W := by
  intro rs S W h
  unfold sp_l_thing_n at h
  split at h
  · exact absurd (Nat.le_trans (depD_pos _) h.1) (by decide)
  · exact h
theorem rd_l_thing : ∀ (j : Nat) rs S W, rs.length = 3 → sp_l_thing_n (j + 1) rs S W → w_l_thing (sp_l_thing_n j) { nx := fun _ S1 => retN S.length W (.d .non) S1, rt := retN S.length W } (start1 7 rs) S := by
  intro j rs S W _ h
  unfold sp_l_thing_n at h
  split at h
  · rename_i kind most pa pb _
    obtain ⟨hj, ⟨k0, k1⟩, h⟩ := h
    have d0 : depD 0 = 1 := rfl
    have d3 : depD 3 = 2 := rfl
    rcases (by omega : kind = 0 ∨ kind = 1 ∨ kind = 2 ∨ kind = 3 ∨ kind = 4 ∨ kind = 5) with rfl | rfl | rfl | rfl | rfl | rfl
    · unfold w_l_thing
      refine seqI fun P hP => ?_
      refine ifI fun Pb hb => ?_
      wide_open with if_true
      refine hb _ _ ?_
      clear hb
      rw [if_pos rfl]
      refine seq2 fun P4 h4 P3 h3 => ?_
      wide_open with sp_l_take
      intro v a b v0 v1
      obtain ⟨z, hz, hm⟩ := getI_ints (ns := [0, 3, 4, 5]) v0 (by simpa using v1)
      have hz' : getI [D.int 0, D.int 3, D.int 4, D.int 5] v = some (.int z) := hz
      wide_open with (hz', sp_l_number)
      intro t a b ht
      have key : ∀ (t a b : Int) (y : Option R), Fg 1480 t → P4 [some (.d (.int 0)), some (.loc 0), some (.d (.int most)), some (.d (.int t)), y, none, none] [.lst [.int a, .int b]] := by
        intro t a b y ht
        refine h4 _ _ ?_
        clear h4 h3
        wide_open with sp_l_take
        refine ⟨⟨by decide, by decide, by decide⟩, fun i _ _ i0 i1 => ?_⟩
        obtain ⟨y, hy, hn⟩ := getI_ints (ns := [1, 12, 999999999999999999999999999999]) i0 (by simpa using i1)
        have hy' : getI [D.int 1, D.int 12, D.int 999999999999999999999999999999] i = some (.int y) := hy
        have yb : 1 ≤ y ∧ y ≤ 999999999999999999999999999999 := by
          simp only [List.mem_cons, List.not_mem_nil, or_false] at hn
          omega
        wide_open with (hy', sp_l_lowest, spMade)
        refine ⟨⟨by omega, by omega⟩, fun x a b x0 x1 => ?_⟩
        have bx : Bd 100 (1 + x) := Bd.of_le (b := 1000000000000000000000000000000) (by omega) (by omega) (by decide)
        refine ⟨by omega, bx.mono (by decide), ?_⟩
        exact h _ a b (mk0 (p := (((t : Rat) / ((1 + x : Int) : Rat)).num, (((t : Rat) / ((1 + x : Int) : Rat)).den : Int))) (fg_frac (by omega) ht (bd_fg bx)) (low_frac _))
      refine h3 _ _ ?_
      clear h3 h4
      refine ifI fun Pb hb => ?_
      wide_open with sp_l_take
      intro u a b u0 u1
      refine hb _ _ ?_
      clear hb
      by_cases hu : most ≤ u
      · rw [if_pos (decide_eq_true hu)]
        refine seq2 fun P6 h6 P5 h5 => ?_
        wide_open with if_true
        refine h5 _ _ ?_
        clear h5
        wide_open with sp_l_take
        intro i a b i0 i1
        obtain ⟨n, hn, hnm⟩ := getI_ints (ns := [3, 48, 49]) i0 (by simpa using i1)
        have hn' : getI [D.int 3, D.int 48, D.int 49] i = some (.int n) := hn
        obtain ⟨m, rfl, hm⟩ : ∃ m : Nat, n = (m : Int) ∧ m ≤ 49 := ⟨n.toNat, by
          simp only [List.mem_cons, List.not_mem_nil, or_false] at hnm
          omega, by
          simp only [List.mem_cons, List.not_mem_nil, or_false] at hnm
          omega⟩
        wide_open with hn'
        refine ⟨by omega, by omega, ?_⟩
        have en : (m : Int).toNat = m := Int.toNat_natCast m
        rw [en]
        refine forL_ix (fun i r S1 => ∃ (t a b : Int) (y : Option R), 0 ≤ t ∧ Fg (30 * i + 1) t ∧ S1 = [.lst [.int a, .int b]] ∧ r = [some (.d (.int 0)), some (.loc 0), some (.d (.int most)), some (.d (.int t)), y, none, none]) ?_ ?_ ⟨1, a, b, none, by decide, fg_one _ (by decide), rfl, rfl⟩
        · rintro i x hx r S1 ⟨t, a, b, y, t0, ft, rfl, rfl⟩ M hM
          obtain ⟨hi, rfl⟩ := rgR_get hx
          refine ⟨trivial, ?_⟩
          wide_open with sp_l_take
          refine ⟨⟨by decide, by decide, .inl (by decide)⟩, mulOk (fg_bd (ft.mono (by omega))) (Bd.lit (n := 100) (by decide)) (by decide), ⟨by decide, by decide, .inl (by decide)⟩, fun v a b v0 v1 => ?_⟩
          obtain ⟨q0, q1⟩ := fg_step t0 ft v0 v1
          exact ⟨_, _, Cut.refl, hM _ _ ⟨_, _, _, _, q0, q1, rfl, rfl⟩⟩
        · rintro r S1 ⟨t, a, b, y, t0, ft, rfl, rfl⟩
          rw [rgR_len] at ft
          have ft := ft.mono (show 30 * m + 1 ≤ 1480 by omega)
          refine ⟨trivial, ?_⟩
          show P6 _ _
          refine h6 _ _ ?_
          clear h6
          wide_open with sp_l_take
          intro v a b v0 v1
          obtain ⟨z, hz, hm⟩ := getI_ints (ns := [1, -1]) v0 (by simpa using v1)
          have hz' : getI [D.int 1, D.int (-1)] v = some (.int z) := hz
          wide_open with hz'
          simp only [List.mem_cons, List.not_mem_nil, or_false] at hm
          rcases hm with rfl | rfl
          · refine ⟨mulOk_r (by decide), ?_⟩
            rw [Int.mul_one]
            exact key t a b _ ft
          · refine ⟨mulOk_r (by decide), ?_⟩
            rw [show t * -1 = -t by omega]
            exact key (-t) a b _ (fg_neg ft)
      · rw [if_neg (by simpa using hu)]
        exact key t a b none (bd_fg ht)
    · have dk : depD 1 = 2 := rfl
      have fin : ∀ ns : List Int, ns.length = 4 → (∀ n ∈ ns, Fg 1480 n) → (∃ n ∈ ns, n ≠ 0) → ∀ a b : Int, W (.d (.tup (ns.map D.int))) [.lst [.int a, .int b]] := fun ns hl hb nz a b => h _ a b (mkR (m := 4) (by decide) hl hb nz)
      unfold w_l_thing
      refine seqI fun P hP => ?_
      refine ifI fun Pb hb => ?_
      wide_open with if_true
      refine hb _ _ ?_
      clear hb
      rw [if_neg (by decide)]
      refine hP _ _ ?_; clear hP
      refine seqI fun P hP => ?_
      refine ifI fun Pb hb => ?_
      wide_open with if_true
      refine hb _ _ ?_
      clear hb
      rw [if_neg (by decide)]
      refine hP _ _ ?_; clear hP
      refine seqI fun P hP => ?_
      refine ifI fun Pb hb => ?_
      wide_open with if_true
      refine hb _ _ ?_
      clear hb
      rw [if_neg (by decide)]
      refine hP _ _ ?_; clear hP
      refine seqI fun P hP => ?_
      wide_open with if_true
      refine ⟨by first | (rw [rgR_len]; decide) | decide, ?_⟩
      refine lcL_inv (fun S => ∃ a b : Int, S = [.lst [.int a, .int b]]) (fun d => ∃ n : Int, Fg 1480 n ∧ d = .int n) (fun S ⟨a, b, e⟩ => by subst e; rfl) (fun _ _ => trivial) (fun x hx S ⟨a, b, e⟩ => ?_) ⟨_, _, rfl⟩ (fun ds S hl hd hS => ?_)
      · subst e
        obtain ⟨i, hi⟩ := List.getElem?_of_mem hx
        obtain ⟨_, rfl⟩ := rgR_get hi
        refine ⟨_, rfl, fun W1 h => h, fun W1 hw => ?_⟩
        wide_open with sp_l_thing_n
        refine ⟨by omega, fun d a b hd => ?_⟩
        obtain ⟨p, rfl, fp, _⟩ := dr0 hd
        wide_open with if_true
        exact hw _ _ ⟨p.1, fp.1, rfl⟩ ⟨a, b, rfl⟩
      obtain ⟨a, b, rfl⟩ := hS
      obtain ⟨ns, rfl, hb⟩ := ints_ofP hd
      have hn : ns.length = 4 := by rw [List.length_map, rgR_len] at hl; omega
      clear hd hl
      wide_open with if_true
      refine hP _ _ ?_; clear hP
      refine seqI fun P hP => ?_
      have ln := filt_len ns
      wide_open with if_true
      refine ⟨by simp only [List.length_map]; omega, ?_⟩
      refine lcL_intsF (fun n => n != 0) (by simp) rfl (fun n hn => ⟨_, rfl, fun W1 h => (by wide_open with if_true; exact h), fun _ W1 h => (by wide_open with if_true; exact h)⟩) ?_
      wide_open with if_true
      by_cases h0 : ((List.map D.int (ns.filter fun n => n != 0)).length : Int) = 0
      · have e0 : (((List.map D.int (ns.filter fun n => n != 0)).length : Int) == 0) = true := by simpa using h0
        wide_open with (e0, sp_l_take)
        have ll : (List.map D.int ns).length = ns.length := List.length_map _
        refine ⟨by omega, fun v a b v0 v1 => ?_⟩
        rw [ixD_of (n := (List.map D.int ns).length) (k := v) v0 v1]
        refine hP _ _ ?_; clear hP
        have se : (List.map D.int ns).set v.toNat (D.int 1) = (ns.set v.toNat 1).map D.int := by simp
        wide_open with se
        refine fin (ns.set v.toNat 1) (by rw [List.length_set]; exact hn) (fun n hm => ?_) (set_nz (by omega)) a b
        rcases List.mem_or_eq_of_mem_set hm with q | rfl
        · exact hb n q
        · exact fg_one _ (by decide)
      · have e0 : (((List.map D.int (ns.filter fun n => n != 0)).length : Int) == 0) = false := by simpa using h0
        wide_open with e0
        refine hP _ _ ?_; clear hP
        wide_open with if_true
        exact fin ns hn hb (filt_nz (by rw [List.length_map] at h0; omega)) a b
    · have dk : depD 2 = 2 := rfl
      have fin : ∀ ns : List Int, ns.length = 3 → (∀ n ∈ ns, Fg 1480 n) → (∃ n ∈ ns, n ≠ 0) → ∀ a b : Int, W (.d (.tup (ns.map D.int))) [.lst [.int a, .int b]] := fun ns hl hb nz a b => h _ a b (mkR (m := 3) (by decide) hl hb nz)
      unfold w_l_thing
      refine seqI fun P hP => ?_
      refine ifI fun Pb hb => ?_
      wide_open with if_true
      refine hb _ _ ?_
      clear hb
      rw [if_neg (by decide)]
      refine hP _ _ ?_; clear hP
      refine seqI fun P hP => ?_
      refine ifI fun Pb hb => ?_
      wide_open with if_true
      refine hb _ _ ?_
      clear hb
      rw [if_neg (by decide)]
      refine hP _ _ ?_; clear hP
      refine seqI fun P hP => ?_
      refine ifI fun Pb hb => ?_
      wide_open with if_true
      refine hb _ _ ?_
      clear hb
      rw [if_neg (by decide)]
      refine hP _ _ ?_; clear hP
      refine seqI fun P hP => ?_
      wide_open with if_true
      refine ⟨by first | (rw [rgR_len]; decide) | decide, ?_⟩
      refine lcL_inv (fun S => ∃ a b : Int, S = [.lst [.int a, .int b]]) (fun d => ∃ n : Int, Fg 1480 n ∧ d = .int n) (fun S ⟨a, b, e⟩ => by subst e; rfl) (fun _ _ => trivial) (fun x hx S ⟨a, b, e⟩ => ?_) ⟨_, _, rfl⟩ (fun ds S hl hd hS => ?_)
      · subst e
        obtain ⟨i, hi⟩ := List.getElem?_of_mem hx
        obtain ⟨_, rfl⟩ := rgR_get hi
        refine ⟨_, rfl, fun W1 h => h, fun W1 hw => ?_⟩
        wide_open with sp_l_thing_n
        refine ⟨by omega, fun d a b hd => ?_⟩
        obtain ⟨p, rfl, fp, _⟩ := dr0 hd
        wide_open with if_true
        exact hw _ _ ⟨p.1, fp.1, rfl⟩ ⟨a, b, rfl⟩
      obtain ⟨a, b, rfl⟩ := hS
      obtain ⟨ns, rfl, hb⟩ := ints_ofP hd
      have hn : ns.length = 3 := by rw [List.length_map, rgR_len] at hl; omega
      clear hd hl
      wide_open with if_true
      refine hP _ _ ?_; clear hP
      refine seqI fun P hP => ?_
      have ln := filt_len ns
      wide_open with if_true
      refine ⟨by simp only [List.length_map]; omega, ?_⟩
      refine lcL_intsF (fun n => n != 0) (by simp) rfl (fun n hn => ⟨_, rfl, fun W1 h => (by wide_open with if_true; exact h), fun _ W1 h => (by wide_open with if_true; exact h)⟩) ?_
      wide_open with if_true
      by_cases h0 : ((List.map D.int (ns.filter fun n => n != 0)).length : Int) = 0
      · have e0 : (((List.map D.int (ns.filter fun n => n != 0)).length : Int) == 0) = true := by simpa using h0
        wide_open with (e0, sp_l_take)
        have ll : (List.map D.int ns).length = ns.length := List.length_map _
        refine ⟨by omega, fun v a b v0 v1 => ?_⟩
        rw [ixD_of (n := (List.map D.int ns).length) (k := v) v0 v1]
        refine hP _ _ ?_; clear hP
        have se : (List.map D.int ns).set v.toNat (D.int 1) = (ns.set v.toNat 1).map D.int := by simp
        wide_open with se
        refine fin (ns.set v.toNat 1) (by rw [List.length_set]; exact hn) (fun n hm => ?_) (set_nz (by omega)) a b
        rcases List.mem_or_eq_of_mem_set hm with q | rfl
        · exact hb n q
        · exact fg_one _ (by decide)
      · have e0 : (((List.map D.int (ns.filter fun n => n != 0)).length : Int) == 0) = false := by simpa using h0
        wide_open with e0
        refine hP _ _ ?_; clear hP
        wide_open with if_true
        exact fin ns hn hb (filt_nz (by rw [List.length_map] at h0; omega)) a b
    · have d3' : depD 3 = 2 := rfl
      unfold w_l_thing
      refine seqI fun P hP => ?_
      refine ifI fun Pb hb => ?_
      wide_open with if_true
      refine hb _ _ ?_
      clear hb
      rw [if_neg (by decide)]
      refine hP _ _ ?_; clear hP
      refine seqI fun P hP => ?_
      refine ifI fun Pb hb => ?_
      wide_open with if_true
      refine hb _ _ ?_
      clear hb
      rw [if_pos rfl]
      wide_open with (rgR_succ, rgR_zero, lcL, sp_l_thing_n)
      refine ⟨by omega, fun d1 h1 => ⟨by omega, fun d2 h2 => ⟨by omega, fun d3 a b h3 => ?_⟩⟩⟩
      obtain ⟨p, rfl, fp, lp⟩ := dr0 h1
      obtain ⟨q, rfl, fq, lq⟩ := dr0 h2
      obtain ⟨r, rfl, fr, lr⟩ := dr0 h3
      exact h _ a b (mk3 (ps := [p, q, r]) ⟨rfl, by simp only [List.mem_cons, List.not_mem_nil, or_false, forall_eq_or_imp, forall_eq]; exact ⟨fp, fq, fr⟩⟩ (by simp only [List.mem_cons, List.not_mem_nil, or_false, forall_eq_or_imp, forall_eq]; exact ⟨lp, lq, lr⟩))
    · have d4 : depD 4 = 3 := rfl
      unfold w_l_thing
      refine seqI fun P hP => ?_
      refine ifI fun Pb hb => ?_
      wide_open with if_true
      refine hb _ _ ?_
      clear hb
      rw [if_neg (by decide)]
      refine hP _ _ ?_; clear hP
      refine seqI fun P hP => ?_
      refine ifI fun Pb hb => ?_
      wide_open with if_true
      refine hb _ _ ?_
      clear hb
      rw [if_neg (by decide)]
      refine hP _ _ ?_; clear hP
      refine seqI fun P hP => ?_
      refine ifI fun Pb hb => ?_
      wide_open with if_true
      refine hb _ _ ?_
      clear hb
      rw [if_pos rfl]
      wide_open with (rgR_succ, rgR_zero, lcL, sp_l_thing_n)
      refine ⟨by omega, fun d1 h1 => ⟨by omega, fun d2 h2 => ⟨by omega, fun d3 a b h3 => ?_⟩⟩⟩
      obtain ⟨p, rfl, fp, lp⟩ := dr3 h1
      obtain ⟨q, rfl, fq, lq⟩ := dr3 h2
      obtain ⟨r, rfl, fr, lr⟩ := dr3 h3
      exact h _ a b (mk4 (qs := [p, q, r]) ⟨rfl, by simp only [List.mem_cons, List.not_mem_nil, or_false, forall_eq_or_imp, forall_eq]; exact ⟨fp, fq, fr⟩⟩ (by simp only [List.mem_cons, List.not_mem_nil, or_false, forall_eq_or_imp, forall_eq]; exact ⟨lp, lq, lr⟩))
    · have dk : depD 5 = 2 := rfl
      have fin : ∀ ns : List Int, ns.length = 2 → (∀ n ∈ ns, Fg 1480 n) → (∃ n ∈ ns, n ≠ 0) → ∀ a b : Int, W (.d (.tup (ns.map D.int))) [.lst [.int a, .int b]] := fun ns hl hb nz a b => h _ a b (mkR (m := 2) (by decide) hl hb nz)
      unfold w_l_thing
      refine seqI fun P hP => ?_
      refine ifI fun Pb hb => ?_
      wide_open with if_true
      refine hb _ _ ?_
      clear hb
      rw [if_neg (by decide)]
      refine hP _ _ ?_; clear hP
      refine seqI fun P hP => ?_
      refine ifI fun Pb hb => ?_
      wide_open with if_true
      refine hb _ _ ?_
      clear hb
      rw [if_neg (by decide)]
      refine hP _ _ ?_; clear hP
      refine seqI fun P hP => ?_
      refine ifI fun Pb hb => ?_
      wide_open with if_true
      refine hb _ _ ?_
      clear hb
      rw [if_neg (by decide)]
      refine hP _ _ ?_; clear hP
      refine seqI fun P hP => ?_
      wide_open with if_true
      refine ⟨by decide, by decide, by rw [rgR_len]; decide, ?_⟩
      refine lcL_inv (fun S => ∃ a b : Int, S = [.lst [.int a, .int b]]) (fun d => ∃ n : Int, Fg 1480 n ∧ d = .int n) (fun S ⟨a, b, e⟩ => by subst e; rfl) (fun _ _ => trivial) (fun x hx S ⟨a, b, e⟩ => ?_) ⟨_, _, rfl⟩ (fun ds S hl hd hS => ?_)
      · subst e
        obtain ⟨i, hi⟩ := List.getElem?_of_mem hx
        obtain ⟨_, rfl⟩ := rgR_get hi
        refine ⟨_, rfl, fun W1 h => h, fun W1 hw => ?_⟩
        wide_open with sp_l_thing_n
        refine ⟨by omega, fun d a b hd => ?_⟩
        obtain ⟨p, rfl, fp, _⟩ := dr0 hd
        wide_open with if_true
        exact hw _ _ ⟨p.1, fp.1, rfl⟩ ⟨a, b, rfl⟩
      obtain ⟨a, b, rfl⟩ := hS
      obtain ⟨ns, rfl, hb⟩ := ints_ofP hd
      have hn : ns.length = 2 := by rw [List.length_map, rgR_len] at hl; omega
      clear hd hl
      wide_open with if_true
      refine hP _ _ ?_; clear hP
      refine seqI fun P hP => ?_
      have ln := filt_len ns
      wide_open with if_true
      refine ⟨by simp only [List.length_map]; omega, ?_⟩
      refine lcL_intsF (fun n => n != 0) (by simp) rfl (fun n hn => ⟨_, rfl, fun W1 h => (by wide_open with if_true; exact h), fun _ W1 h => (by wide_open with if_true; exact h)⟩) ?_
      wide_open with if_true
      by_cases h0 : ((List.map D.int (ns.filter fun n => n != 0)).length : Int) = 0
      · have e0 : (((List.map D.int (ns.filter fun n => n != 0)).length : Int) == 0) = true := by simpa using h0
        wide_open with (e0, sp_l_take)
        have ll : (List.map D.int ns).length = ns.length := List.length_map _
        refine ⟨by omega, fun v a b v0 v1 => ?_⟩
        rw [ixD_of (n := (List.map D.int ns).length) (k := v) v0 v1]
        refine hP _ _ ?_; clear hP
        have se : (List.map D.int ns).set v.toNat (D.int 1) = (ns.set v.toNat 1).map D.int := by simp
        wide_open with se
        refine fin (ns.set v.toNat 1) (by rw [List.length_set]; exact hn) (fun n hm => ?_) (set_nz (by omega)) a b
        rcases List.mem_or_eq_of_mem_set hm with q | rfl
        · exact hb n q
        · exact fg_one _ (by decide)
      · have e0 : (((List.map D.int (ns.filter fun n => n != 0)).length : Int) == 0) = false := by simpa using h0
        wide_open with e0
        refine hP _ _ ?_; clear hP
        wide_open with if_true
        exact fin ns hn hb (filt_nz (by rw [List.length_map] at h0; omega)) a b
  · exact h.elim
/-- slots: 0 _law_text, 1 _law_due, 2 _law_found, 3 _law_kept -/
def w_l_good : PS1 :=
  (wSeq (wSet 1 (wCall sp_l_fraction_of 1 (wCons (wVar 0) wNil)))
  (wSeq (wUnlA 2 (fCons (fNm 2) (fCons (fNm 3) fNil)) (wwCall sp_l_told 1 (wCons (wVar 0) wNil)))
  (wSeq (wIf (wTest (wBin (pIsN false) (wVar 1) (wC .non))) (wRet (wBin pEq (wCall sp_l_which 1 (wCons (wVar 3) wNil)) (wLst (wCons (wC (.int 8)) wNil)))) wNext)
  (wRet (wAndV (wBin (pIsN false) (wVar 3) (wC .non)) (wCall sp_l_same 2 (wCons (wVar 2) (wCons (wVar 1) wNil))))))))
def sp_l_good : SpZ := fun rs S W => match rs, S with
  | [.d (.str x)], [] => x.length ≤ 16000000 ∧ W (.d (.bl true)) []
  | _, _ => False
theorem rd_l_good : ∀ rs S W, rs.length = 1 → sp_l_good rs S W → w_l_good { nx := fun _ S1 => retN S.length W (.d .non) S1, rt := retN S.length W } (start1 4 rs) S := by
  intro rs S W _ h
  unfold sp_l_good at h
  split at h
  · rename_i x _
    obtain ⟨hl, h⟩ := h
    obtain ⟨l, rfl⟩ : ∃ l, x = Tx l := ⟨_, tx_all x⟩
    rw [tx_len] at hl
    unfold w_l_good
    refine seqI fun P hP => ?_
    wide_open with sp_l_fraction_of
    refine ⟨l, rfl, hl, fun p hp fp => ?_, fun hn => ?_⟩
    · refine hP _ _ ?_; clear hP
      refine seqI fun P hP => ?_
      wide_open with sp_l_told
      refine ⟨l, rfl, hl, fun hn => ?_, fun p' hp' _ a => ?_⟩
      · rw [hp] at hn; cases hn
      · rw [hp] at hp'
        cases hp'
        refine ⟨0, _, rfl, rfl, ?_⟩
        refine hP _ _ ?_; clear hP
        refine seqI fun P hP => ?_
        wide_open with if_true
        refine hP _ _ ?_; clear hP
        wide_open with (sp_l_same, sp_l_same_n)
        exact ⟨⟨by simp, fun x hx => by
          simp only [List.mem_cons, List.not_mem_nil, or_false] at hx
          rcases hx with rfl | rfl <;> trivial⟩, h⟩
    · refine hP _ _ ?_; clear hP
      refine seqI fun P hP => ?_
      wide_open with sp_l_told
      refine ⟨l, rfl, hl, fun _ a => ?_, fun p' hp' _ a => ?_⟩
      · refine ⟨0, _, rfl, rfl, ?_⟩
        refine hP _ _ ?_; clear hP
        refine seqI fun P hP => ?_
        wide_open with sp_l_which
        exact h
      · rw [hn] at hp'; cases hp'
  · exact h.elim
/-- slots: 0 _law_script, 1 _law_text, 2 _law_cell, 3 _law_purse_here, 4 _law_k -/
def w_law : PS1 :=
  (wSeq (wFor (wIt (wBin pCat (wCall sp_l_odd 0 wNil) (wLst (wCons (wBin pSMulB (wC (.str (PySem.Str.ofString "9"))) (wC (.int 1499))) (wCons (wBin pSMulB (wC (.str (PySem.Str.ofString "9"))) (wC (.int 1500))) (wCons (wBin pSCat (wC (.str (PySem.Str.ofString "-"))) (wBin pSMulB (wC (.str (PySem.Str.ofString "9"))) (wC (.int 1500)))) (wCons (wBin pSMulB (wC (.str (PySem.Str.ofString "9"))) (wC (.int 1501))) (wCons (wBin pSCat (wC (.str (PySem.Str.ofString "1/"))) (wBin pSMulB (wC (.str (PySem.Str.ofString "3"))) (wC (.int 1501)))) (wCons (wBin pSMulB (wC (.str (PySem.Str.ofString "0"))) (wC (.int 1500))) wNil))))))))) (fNm 1) (wIf (wNotT (wTest (wCall sp_l_good 1 (wCons (wVar 1) wNil)))) (wRet (wC (.bl false))) wNext))
  (wSeq (wFor (wIt (wBin pCat (wLst (wCons (wC (.int 0)) (wCons (wC (.int 3)) wNil))) (wSl (wVar 0) wNo (wSome (wC (.int 12)))))) (fNm 2) (wSeq (wSet 3 (wCall sp_l_purse 1 (wCons (wVar 2) wNil)))
  (wSeq (wSet 1 (wCall sp_l_written 2 (wCons (wC (.int 0)) (wCons (wCall sp_l_thing 3 (wCons (wC (.int 0)) (wCons (wVar 3) (wCons (wC (.int 12)) wNil)))) wNil))))
  (wFor (wRng1 (wCons (wC (.int 3)) wNil)) (fNm 4) (wSeq (wIf (wNotT (wTest (wCall sp_l_good 1 (wCons (wVar 1) wNil)))) (wRet (wC (.bl false))) wNext)
  (wSet 1 (wCall sp_l_bent_text 2 (wCons (wVar 1) (wCons (wVar 3) wNil)))))))))
  (wRet (wC (.bl true)))))
def sp_law : SpZ := spLaw Script
theorem rd_law : ∀ rs S W, rs.length = 1 → sp_law rs S W → w_law { nx := fun _ S1 => retN S.length W (.d .non) S1, rt := retN S.length W } (start1 5 rs) S := by
  intro rs S W _ h
  unfold sp_law spLaw at h
  split at h
  · obtain ⟨ns, rfl, hs, h⟩ := h
    unfold w_law
    have n1 : (PySem.Str.ofString "9").length = 1 := by decide +kernel
    have n2 : (PySem.Str.ofString "-").length = 1 := by decide +kernel
    have n3 : (PySem.Str.ofString "1/").length = 2 := by decide +kernel
    have n4 : (PySem.Str.ofString "3").length = 1 := by decide +kernel
    have n5 : (PySem.Str.ofString "0").length = 1 := by decide +kernel
    have m1 : (Txt.mul (PySem.Str.ofString "9") 1499).length = (PySem.Str.ofString "9").length * 1499 := mul_len _ (n := 1499) (by decide)
    have m2 : (Txt.mul (PySem.Str.ofString "9") 1500).length = (PySem.Str.ofString "9").length * 1500 := mul_len _ (n := 1500) (by decide)
    have m3 : (Txt.mul (PySem.Str.ofString "9") 1501).length = (PySem.Str.ofString "9").length * 1501 := mul_len _ (n := 1501) (by decide)
    have m4 : (Txt.mul (PySem.Str.ofString "3") 1501).length = (PySem.Str.ofString "3").length * 1501 := mul_len _ (n := 1501) (by decide)
    have m5 : (Txt.mul (PySem.Str.ofString "0") 1500).length = (PySem.Str.ofString "0").length * 1500 := mul_len _ (n := 1500) (by decide)
    have cs := cells_of hs [0, 3] 12 (by decide)
    have el : [D.int 0, D.int 3] ++ cutD (ns.map D.int) none (some 12) = ([0, 3] ++ ns.take 12 : List Int).map D.int := by
      rw [show (12 : Int) = ((12 : Nat) : Int) from rfl, cutD_take]; simp
    have ll : (cutD (ns.map D.int) none (some 12)).length ≤ 63 := by
      rw [show (12 : Int) = ((12 : Nat) : Int) from rfl, cutD_take]; have := hs.1; simp; omega
    refine seqI fun P hP => ?_
    wide_open with sp_l_odd
    intro xs hx0 hx
    refine ⟨by omega, by omega, by omega, by omega, by omega, by omega, by omega, by omega, by rw [List.length_map]; omega, ?_⟩
    refine forL_mem (fun r S1 => S1 = [] ∧ ∃ y1 y2 y3 y4 : Option R, r = [some (.ro (ns.map D.int)), y1, y2, y3, y4]) ⟨rfl, _, _, _, _, rfl⟩ ?_ ?_
    · rintro x hx1 r S1 ⟨rfl, y1, y2, y3, y4, rfl⟩ M hM
      obtain ⟨z, rfl, hz⟩ : ∃ z : Str, x = .d (.str z) ∧ z.length ≤ 16000000 := by
        rw [List.map_append, List.map_map, List.mem_append] at hx1
        rcases hx1 with hx1 | hx1
        · obtain ⟨w, hw, rfl⟩ := List.mem_map.mp hx1
          exact ⟨w, rfl, Nat.le_trans (hx w hw) (by decide)⟩
        · simp only [List.map_cons, List.map_nil, List.mem_cons, List.not_mem_nil, or_false] at hx1
          rcases hx1 with rfl | rfl | rfl | rfl | rfl | rfl
          · exact ⟨_, rfl, by omega⟩
          · exact ⟨_, rfl, by omega⟩
          · exact ⟨_, rfl, by rw [app_len]; omega⟩
          · exact ⟨_, rfl, by omega⟩
          · exact ⟨_, rfl, by rw [app_len]; omega⟩
          · exact ⟨_, rfl, by omega⟩
      refine ⟨trivial, ?_⟩
      wide_open with sp_l_good
      exact ⟨hz, _, _, Cut.refl, hM _ _ ⟨rfl, _, _, _, _, rfl⟩⟩
    · rintro r S1 ⟨rfl, y1, y2, y3, y4, rfl⟩
      refine ⟨trivial, ?_⟩
      show P _ _
      refine hP _ _ ?_; clear hP
      refine seqI fun P hP => ?_
      wide_open with if_true
      refine ⟨by omega, ?_⟩
      rw [show R.d (D.int 0) :: R.d (D.int 3) :: List.map R.d (cutD (ns.map D.int) none (some 12)) = (([0, 3] ++ ns.take 12 : List Int).map D.int).map R.d from congrArg (List.map R.d) el]
      generalize ([0, 3] ++ ns.take 12 : List Int) = ms at *
      refine forL_mem (fun r S1 => S1 = [] ∧ ∃ y1 y2 y3 y4 : Option R, r = [some (.ro (ns.map D.int)), y1, y2, y3, y4]) ⟨rfl, _, _, _, _, rfl⟩ ?_ ?_
      · rintro x hx1 r S1 ⟨rfl, y1, y2, y3, y4, rfl⟩ M hM
        obtain ⟨c, hc, rfl⟩ : ∃ c, c ∈ ms ∧ x = .d (.int c) := by
          rw [List.map_map] at hx1
          obtain ⟨c, hc, rfl⟩ := List.mem_map.mp hx1
          exact ⟨c, hc, rfl⟩
        have ci := cs c hc
        refine ⟨trivial, seqI fun P hP => ?_⟩
        wide_open with sp_l_purse
        refine ⟨ci, fun a b => ?_⟩
        refine hP _ _ ?_; clear hP
        refine seqI fun P hP => ?_
        wide_open with (sp_l_thing, sp_l_thing_n)
        refine ⟨by decide, fun d a b hd => ?_⟩
        obtain ⟨t, ht⟩ := hd
        wide_open with (sp_l_written, sp_l_written_n)
        refine ⟨by decide, t, ht, ?_⟩
        refine hP _ _ ?_; clear hP
        have tl : t.length ≤ 3000 := by
          rcases ht with ⟨_, p, _, fp, _, rfl⟩ | ⟨z, _⟩ | ⟨z, _⟩ | ⟨z, _⟩ | ⟨z, _⟩ | ⟨z, _⟩
          · have := frT_lenF (by decide) fp
            omega
          all_goals exact absurd z (by decide)
        wide_open with if_true
        refine forL_ix (fun i r S1 => ∃ (z : Str) (a b : Int) (y : Option R), z.length ≤ 3000 * 8 ^ i ∧ S1 = [.lst [.int a, .int b]] ∧ r = [some (.ro (ns.map D.int)), some (.d (.str z)), some (.d (.int c)), some (.loc 0), y]) ?_ ?_ ⟨t, a, b, _, by omega, rfl, rfl⟩
        · rintro i x hx r S1 ⟨z, a, b, y, hz, rfl, rfl⟩ M2 hM2
          obtain ⟨hi, rfl⟩ := rgR_get hx
          have h8 : 3000 * 8 ^ i ≤ 200000 := by
            have : 8 ^ i ≤ 8 ^ 2 := Nat.pow_le_pow_right (by decide) (by omega)
            omega
          refine ⟨trivial, seqI fun P2 hP2 => ?_⟩
          wide_open with sp_l_good
          refine ⟨by omega, ?_⟩
          refine hP2 _ _ ?_
          clear hP2
          wide_open with sp_l_bent_text
          refine ⟨by omega, fun z2 a b h2 => ⟨_, _, Cut.refl, hM2 _ _ ⟨z2, a, b, _, ?_, rfl, rfl⟩⟩⟩
          have : 1 ≤ 8 ^ i := Nat.one_le_pow _ _ (by decide)
          rw [Nat.pow_succ]
          omega
        · rintro r S1 ⟨z, a, b, y, hz, rfl, rfl⟩
          exact ⟨trivial, _, _, Cut.to (n := 0) (Nat.le_refl _) (Nat.zero_le _), hM _ _ ⟨rfl, _, _, _, _, rfl⟩⟩
      · rintro r S1 ⟨rfl, y1, y2, y3, y4, rfl⟩
        refine ⟨trivial, ?_⟩
        show P _ _
        refine hP _ _ ?_; clear hP
        wide_open with if_true
        exact h
  · exact h.elim
def topS (i : Nat) : Stmt := PySem.Challenge.pw_hangrings_k46_numbers_read.main.body.getD i (.Pass ⟨0, 0, 0, 0⟩)
abbrev st_divisor : Stmt := topS 14
abbrev N_divisor : List Str := ["one", "other"]
theorem sc_divisor : FnScope N_divisor ["one", "other"] (defScope st_divisor) := ⟨rfl, rfl, rfl, by decide +kernel, rfl, by decide +kernel, by decide +kernel⟩
theorem tm_divisor {P : Program} {w : World} {K : PySem.W.Frag} {mg : Str → Option Value} {base : Heap} {f : Addr} (hb_abs : mg "abs" = none) (cdv : Value) (A : Around) (outer : List Env) (s : Shared) (H : Hp) (E : XK) (hr : Room 0 (A.deeper (envOfC "divisor" (defScope st_divisor) s.heap.objs.size f cdv))) :
    WSs (cxOf CX0 P w K mg base N_divisor "divisor" (defScope st_divisor) f cdv A outer s H E).nox (defBody st_divisor) w_divisor := by
  have nd := sc_divisor.nd
  unfold w_divisor
  exact (ws_cons (ws_set (i := 0) nd rfl (by first | exact Or.inl rfl | exact Or.inr rfl) (we_blt f_abs (by rfl) hb_abs PyProof.Rows.boot_abs (wa_cons (we_var 0 (pv 0)) wa_nil)))
    (ws_cons (ws_set (i := 1) nd rfl (by first | exact Or.inl rfl | exact Or.inr rfl) (we_blt f_abs (by rfl) hb_abs PyProof.Rows.boot_abs (wa_cons (we_var 1 (pv 1)) wa_nil)))
    (ws_cons (ws_while PassesOwn.never (wt_cmp o_gt (we_var 1 (pv 1)) we_int (nomark _)) (ws_one (ws_par (i := 0) (j := 1) rfl nd rfl rfl (by decide) rfl rfl (wa_cons (we_var 1 (pv 1)) (wa_cons (we_bin o_mod (we_var 0 (pv 0)) (we_var 1 (pv 1))) wa_nil)) (by with_unfolding_all rfl))))
    (ws_one (ws_ret (we_var 0 (pv 0)))))))
abbrev st_must : Stmt := topS 18
abbrev N_must : List Str := ["fine"]
theorem sc_must : FnScope N_must ["fine"] (defScope st_must) := ⟨rfl, rfl, rfl, by decide +kernel, rfl, by decide +kernel, by decide +kernel⟩
theorem tm_must {P : Program} {w : World} {K : PySem.W.Frag} {mg : Str → Option Value} {base : Heap} {f : Addr} (hX_cls_NoText : ClsX K mg (PySem.Str.ofString "NoText")) (cdv : Value) (A : Around) (outer : List Env) (s : Shared) (H : Hp) (E : XK) (hr : Room 0 (A.deeper (envOfC "must" (defScope st_must) s.heap.objs.size f cdv)))
    (tk : Takes (cxOf (L2.CX P w) P w K mg base N_must "must" (defScope st_must) f cdv A outer s H E) (fun cls d _ H => E cls d H)) (po : PassesOwn (model P w) (A.deeper (envOfC "must" (defScope st_must) s.heap.objs.size f cdv)) (envOfC "must" (defScope st_must) s.heap.objs.size f cdv) (cxOf (L2.CX P w) P w K mg base N_must "must" (defScope st_must) f cdv A outer s H E).xe) :
    WXs (cxOf (L2.CX P w) P w K mg base N_must "must" (defScope st_must) f cdv A outer s H E) (fun cls d _ H => E cls d H) (defBody st_must) w_must := by
  have nd := sc_must.nd
  unfold w_must
  exact (xs_one (xs_if (wt_not (wt_val (we_var 0 (pv 0)))) (xs_one (xs_raise rfl tk hX_cls_NoText (by rfl))) xs_nil))
abbrev st_read_whole : Stmt := topS 19
abbrev N_read_whole : List Str := ["text", "figures", "sign"]
theorem sc_read_whole : FnScope N_read_whole ["text"] (defScope st_read_whole) := ⟨rfl, rfl, rfl, by decide +kernel, rfl, by decide +kernel, by decide +kernel⟩
theorem tm_read_whole {P : Program} {w : World} {K : PySem.W.Frag} {mg : Str → Option Value} {base : Heap} {f : Addr} (nodig : base.NoDigits) (F_must : FnW P w K mg base 1 "must" 1 sp_must) (hb_len : mg "len" = none) (hb_int : mg "int" = none) (hc_MOST_FIGURES : ConAt K mg "MOST_FIGURES" (.int 1500)) (hc_FIGURES : ConAt K mg "FIGURES" (.str (PySem.Str.ofString "0123456789"))) (cdv : Value) (A : Around) (outer : List Env) (s : Shared) (H : Hp) (E : XK) (hr : Room 1 (A.deeper (envOfC "read_whole" (defScope st_read_whole) s.heap.objs.size f cdv)))
    (tk : Takes (cxOf (L2.CX P w) P w K mg base N_read_whole "read_whole" (defScope st_read_whole) f cdv A outer s H E) (fun cls d _ H => E cls d H)) (po : PassesOwn (model P w) (A.deeper (envOfC "read_whole" (defScope st_read_whole) s.heap.objs.size f cdv)) (envOfC "read_whole" (defScope st_read_whole) s.heap.objs.size f cdv) (cxOf (L2.CX P w) P w K mg base N_read_whole "read_whole" (defScope st_read_whole) f cdv A outer s H E).xe) :
    WXs (cxOf (L2.CX P w) P w K mg base N_read_whole "read_whole" (defScope st_read_whole) f cdv A outer s H E) (fun cls d _ H => E cls d H) (defBody st_read_whole) w_read_whole := by
  have nd := sc_read_whole.nd
  unfold w_read_whole
  exact (xs_cons (xs_l (ws_set (i := 1) nd rfl (by first | exact Or.inl rfl | exact Or.inr rfl) (we_var 0 (pv 0))))
    (xs_cons (xs_l (ws_if (wt_cmp (o_eq hr.units) (we_slT (we_var 0 (pv 0)) wo_none (wo_some we_int)) we_str (nomark _)) (ws_one (ws_set (i := 1) nd rfl (by first | exact Or.inl rfl | exact Or.inr rfl) (we_slT (we_var 0 (pv 0)) (wo_some we_int) wo_none))) ws_nil))
    (xs_cons (xs_drop (wex_call F_must hr tk (by rfl) (wa_cons (we_chn o_lt o_le we_int (we_blt f_slen (by rfl) hb_len PySem.boot_len (wa_cons (we_var 1 (pv 1)) wa_nil)) (we_gc (by rfl) hc_MOST_FIGURES)) wa_nil)))
    (xs_cons (xs_for po rfl (wi_str (we_var 1 (pv 1))) (pg_name (i := 2) nd rfl (by first | exact Or.inl rfl | exact Or.inr rfl)) (tg_name 2) (xs_one (xs_drop (wex_call F_must hr tk (by rfl) (wa_cons (we_cmp o_sin (we_var 2 (pv 2)) (we_gc (by rfl) hc_FIGURES) (by with_unfolding_all rfl)) wa_nil)))))
    (xs_cons (xs_drop (wex_call F_must hr tk (by rfl) (wa_cons (we_or (we_cmp (o_ne hr.units) (we_six (we_var 1 (pv 1)) we_int (fun _ _ => rfl)) we_str (nomark _)) (we_one (we_cmp (o_eq hr.units) (we_var 0 (pv 0)) we_str (nomark _)))) wa_nil)))
    (xs_one (xs_l (ws_ret (we_ty (f_intTB nodig) (by rfl) hb_int PyProof.Rows.boot_int (wa_cons (we_var 0 (pv 0)) wa_nil))))))))))
abbrev st_read_number : Stmt := topS 20
abbrev N_read_number : List Str := ["text", "top", "stroke", "bottom", "number"]
theorem sc_read_number : FnScope N_read_number ["text"] (defScope st_read_number) := ⟨rfl, rfl, rfl, by decide +kernel, rfl, by decide +kernel, by decide +kernel⟩
theorem tm_read_number {P : Program} {w : World} {K : PySem.W.Frag} {mg : Str → Option Value} {base : Heap} {f : Addr} (F_read_whole : FnW P w K mg base 2 "read_whole" 1 sp_read_whole) (F_must : FnW P w K mg base 2 "must" 1 sp_must) (F_divisor : FnZ P w K mg base 2 "divisor" 2 sp_divisor) (cdv : Value) (A : Around) (outer : List Env) (s : Shared) (H : Hp) (E : XK) (hr : Room 2 (A.deeper (envOfC "read_number" (defScope st_read_number) s.heap.objs.size f cdv)))
    (tk : Takes (cxOf (L2.CX P w) P w K mg base N_read_number "read_number" (defScope st_read_number) f cdv A outer s H E) (fun cls d _ H => E cls d H)) (po : PassesOwn (model P w) (A.deeper (envOfC "read_number" (defScope st_read_number) s.heap.objs.size f cdv)) (envOfC "read_number" (defScope st_read_number) s.heap.objs.size f cdv) (cxOf (L2.CX P w) P w K mg base N_read_number "read_number" (defScope st_read_number) f cdv A outer s H E).xe) :
    WXs (cxOf (L2.CX P w) P w K mg base N_read_number "read_number" (defScope st_read_number) f cdv A outer s H E) (fun cls d _ H => E cls d H) (defBody st_read_number) w_read_number := by
  have nd := sc_read_number.nd
  unfold w_read_number
  exact (xs_cons (xs_l (ws_unp (we_part (we_var 0 (pv 0)) we_str) (pg_tup rfl (pgs_cons (pg_name (i := 1) nd rfl (by first | exact Or.inl rfl | exact Or.inr rfl)) (pgs_cons (pg_name (i := 2) nd rfl (by first | exact Or.inl rfl | exact Or.inr rfl)) (pgs_cons (pg_name (i := 3) nd rfl (by first | exact Or.inl rfl | exact Or.inr rfl)) pgs_nil)))) (tg_tup (n := 3) (tgs_cons (tg_name 1) (tgs_cons (tg_name 2) (tgs_cons (tg_name 3) tgs_nil))))))
    (xs_cons (xs_if (wt_cmp (o_eq hr.units) (we_var 2 (pv 2)) we_str (nomark _)) (xs_one (xs_ret (wex_tup (wax_cons (wex_call F_read_whole hr tk (by rfl) (wa_cons (we_var 1 (pv 1)) wa_nil)) (wax_cons (wex_l we_int) (wax_l wa_nil)))))) xs_nil)
    (xs_cons (xs_set (i := 4) nd rfl (by first | exact Or.inl rfl | exact Or.inr rfl) (wex_tup (wax_cons (wex_call F_read_whole hr tk (by rfl) (wa_cons (we_var 1 (pv 1)) wa_nil)) (wax_cons (wex_call F_read_whole hr tk (by rfl) (wa_cons (we_var 3 (pv 3)) wa_nil)) (wax_l wa_nil)))))
    (xs_cons (xs_drop (wex_call F_must hr tk (by rfl) (wa_cons (we_and (we_cmp o_gt (we_ix (we_var 4 (pv 4)) we_int (fun _ _ => rfl)) we_int (nomark _)) (we_one (we_cmp (o_eq hr.units) (we_call F_divisor hr (by rfl) (wa_cons (we_ix (we_var 4 (pv 4)) we_int (fun _ _ => rfl)) (wa_cons (we_ix (we_var 4 (pv 4)) we_int (fun _ _ => rfl)) wa_nil))) we_int (nomark _)))) wa_nil)))
    (xs_one (xs_l (ws_ret (we_var 4 (pv 4)))))))))
abbrev st_l_purse : Stmt := topS 22
abbrev N_l_purse : List Str := ["_law_cell", "_law_number_here", "_law_found", "_law_k"]
theorem sc_l_purse : FnScope N_l_purse ["_law_cell"] (defScope st_l_purse) := ⟨rfl, rfl, rfl, by decide +kernel, rfl, by decide +kernel, by decide +kernel⟩
theorem tm_l_purse {P : Program} {w : World} {K : PySem.W.Frag} {mg : Str → Option Value} {base : Heap} {f : Addr} (hb_range : mg "range" = none) (cdv : Value) (A : Around) (outer : List Env) (s : Shared) (H : Hp) (E : XK) (hr : Room 0 (A.deeper (envOfC "_law_purse" (defScope st_l_purse) s.heap.objs.size f cdv))) :
    WSs (cxOf CX0 P w K mg base N_l_purse "_law_purse" (defScope st_l_purse) f cdv A outer s H E).nox (defBody st_l_purse) w_l_purse := by
  have nd := sc_l_purse.nd
  unfold w_l_purse
  exact (ws_cons (ws_set (i := 1) nd rfl (by first | exact Or.inl rfl | exact Or.inr rfl) (we_bin o_mod (we_var 0 (pv 0)) we_int))
    (ws_cons (ws_set (i := 2) nd rfl (by first | exact Or.inl rfl | exact Or.inr rfl) we_int)
    (ws_cons (ws_for PassesOwn.never rfl (wi_rng1 (by rfl) hb_range (wa_cons we_int wa_nil)) (pg_name (i := 3) nd rfl (by first | exact Or.inl rfl | exact Or.inr rfl)) (tg_name 3) (ws_cons (ws_set (i := 1) nd rfl (by first | exact Or.inl rfl | exact Or.inr rfl) (we_bin o_mod (we_bin o_addI (we_bin o_addI (we_bin o_addI (we_bin o_mulI (we_var 1 (pv 1)) (we_var 1 (pv 1))) (we_bin o_mulI (we_bin o_mulI we_int (we_var 3 (pv 3))) (we_var 3 (pv 3)))) (we_var 3 (pv 3))) we_int) we_int))
    (ws_one (ws_set (i := 2) nd rfl (by first | exact Or.inl rfl | exact Or.inr rfl) (we_bin o_addI (we_bin o_mulI (we_var 2 (pv 2)) we_int) (we_bin o_mod (we_bin o_mulI (we_var 1 (pv 1)) (we_var 1 (pv 1))) we_int))))))
    (ws_cons (ws_if (wt_cmp o_ge (we_var 0 (pv 0)) (we_bin o_pow we_int we_int) (nomark _)) (ws_one (ws_ret (we_lst (wa_cons (we_bin o_sub (we_var 0 (pv 0)) (we_bin o_pow we_int we_int)) (wa_cons (we_var 2 (pv 2)) wa_nil))))) ws_nil)
    (ws_one (ws_ret (we_lst (wa_cons we_int (wa_cons (we_var 2 (pv 2)) wa_nil)))))))))
abbrev st_l_take : Stmt := topS 23
abbrev N_l_take : List Str := ["_law_purse_here", "_law_many", "_law_at", "_law_found"]
theorem sc_l_take : FnScope N_l_take ["_law_purse_here", "_law_many"] (defScope st_l_take) := ⟨rfl, rfl, rfl, by decide +kernel, rfl, by decide +kernel, by decide +kernel⟩
theorem tm_l_take {P : Program} {w : World} {K : PySem.W.Frag} {mg : Str → Option Value} {base : Heap} {f : Addr} (hb_int : mg "int" = none) (cdv : Value) (A : Around) (outer : List Env) (s : Shared) (H : Hp) (E : XK) (hr : Room 0 (A.deeper (envOfC "_law_take" (defScope st_l_take) s.heap.objs.size f cdv))) :
    WSs (cxOf CX0 P w K mg base N_l_take "_law_take" (defScope st_l_take) f cdv A outer s H E).nox (defBody st_l_take) w_l_take := by
  have nd := sc_l_take.nd
  unfold w_l_take
  exact (ws_cons (ws_set (i := 2) nd rfl (by first | exact Or.inl rfl | exact Or.inr rfl) (we_ty f_int (by rfl) hb_int PyProof.Rows.boot_int (wa_cons (we_cmp (o_eq hr.units) (we_ix (we_var 0 (pv 0)) we_int (fun _ _ => rfl)) we_int (nomark _)) wa_nil)))
    (ws_cons (ws_set (i := 3) nd rfl (by first | exact Or.inl rfl | exact Or.inr rfl) (we_bin o_mod (we_ix (we_var 0 (pv 0)) (we_var 2 (pv 2)) (fun _ _ => rfl)) (we_var 1 (pv 1))))
    (ws_cons (ws_stI (we_var 0 (pv 0)) (we_var 2 (pv 2)) (we_bin o_div (we_ix (we_var 0 (pv 0)) (we_var 2 (pv 2)) (fun _ _ => rfl)) (we_var 1 (pv 1))))
    (ws_one (ws_ret (we_var 3 (pv 3)))))))
abbrev st_l_number : Stmt := topS 24
abbrev N_l_number : List Str := ["_law_purse_here", "_law_kind"]
theorem sc_l_number : FnScope N_l_number ["_law_purse_here", "_law_kind"] (defScope st_l_number) := ⟨rfl, rfl, rfl, by decide +kernel, rfl, by decide +kernel, by decide +kernel⟩
theorem tm_l_number {P : Program} {w : World} {K : PySem.W.Frag} {mg : Str → Option Value} {base : Heap} {f : Addr} (F_l_take : FnZ P w K mg base 1 "_law_take" 2 sp_l_take) (cdv : Value) (A : Around) (outer : List Env) (s : Shared) (H : Hp) (E : XK) (hr : Room 1 (A.deeper (envOfC "_law_number" (defScope st_l_number) s.heap.objs.size f cdv))) :
    WSs (cxOf CX0 P w K mg base N_l_number "_law_number" (defScope st_l_number) f cdv A outer s H E).nox (defBody st_l_number) w_l_number := by
  have nd := sc_l_number.nd
  unfold w_l_number
  exact (ws_cons (ws_if (wt_cmp o_lt (we_var 1 (pv 1)) we_int (nomark _)) (ws_one (ws_ret (we_bin o_sub (we_call F_l_take hr (by rfl) (wa_cons (we_var 0 (pv 0)) (wa_cons we_int wa_nil))) we_int))) ws_nil)
    (ws_cons (ws_if (wt_cmp (o_eq hr.units) (we_var 1 (pv 1)) we_int (nomark _)) (ws_one (ws_ret (we_bin o_sub (we_call F_l_take hr (by rfl) (wa_cons (we_var 0 (pv 0)) (wa_cons we_int wa_nil))) we_int))) ws_nil)
    (ws_cons (ws_if (wt_cmp (o_eq hr.units) (we_var 1 (pv 1)) we_int (nomark _)) (ws_one (ws_ret (we_bin o_sub (we_call F_l_take hr (by rfl) (wa_cons (we_var 0 (pv 0)) (wa_cons (we_bin o_addI (we_bin o_mulI we_int (we_bin o_pow we_int we_int)) we_int) wa_nil))) (we_bin o_pow we_int we_int)))) ws_nil)
    (ws_one (ws_ret (we_bin o_sub (we_call F_l_take hr (by rfl) (wa_cons (we_var 0 (pv 0)) (wa_cons (we_bin o_sub (we_bin o_mulI we_int (we_bin o_pow we_int we_int)) we_int) wa_nil))) (we_bin o_sub (we_bin o_pow we_int we_int) we_int)))))))
abbrev st_l_divisor : Stmt := topS 25
abbrev N_l_divisor : List Str := ["_law_one", "_law_other"]
theorem sc_l_divisor : FnScope N_l_divisor ["_law_one", "_law_other"] (defScope st_l_divisor) := ⟨rfl, rfl, rfl, by decide +kernel, rfl, by decide +kernel, by decide +kernel⟩
theorem tm_l_divisor {P : Program} {w : World} {K : PySem.W.Frag} {mg : Str → Option Value} {base : Heap} {f : Addr} (hb_abs : mg "abs" = none) (cdv : Value) (A : Around) (outer : List Env) (s : Shared) (H : Hp) (E : XK) (hr : Room 0 (A.deeper (envOfC "_law_divisor" (defScope st_l_divisor) s.heap.objs.size f cdv))) :
    WSs (cxOf CX0 P w K mg base N_l_divisor "_law_divisor" (defScope st_l_divisor) f cdv A outer s H E).nox (defBody st_l_divisor) w_l_divisor := by
  have nd := sc_l_divisor.nd
  unfold w_l_divisor
  exact (ws_cons (ws_while PassesOwn.never (wt_cmp (o_ne hr.units) (we_var 1 (pv 1)) we_int (nomark _)) (ws_one (ws_par (i := 0) (j := 1) rfl nd rfl rfl (by decide) rfl rfl (wa_cons (we_var 1 (pv 1)) (wa_cons (we_bin o_mod (we_var 0 (pv 0)) (we_var 1 (pv 1))) wa_nil)) (by with_unfolding_all rfl))))
    (ws_one (ws_ret (we_blt f_abs (by rfl) hb_abs PyProof.Rows.boot_abs (wa_cons (we_var 0 (pv 0)) wa_nil)))))
abbrev st_l_lowest : Stmt := topS 26
abbrev N_l_lowest : List Str := ["_law_top", "_law_bottom", "_law_share"]
theorem sc_l_lowest : FnScope N_l_lowest ["_law_top", "_law_bottom"] (defScope st_l_lowest) := ⟨rfl, rfl, rfl, by decide +kernel, rfl, by decide +kernel, by decide +kernel⟩
theorem tm_l_lowest {P : Program} {w : World} {K : PySem.W.Frag} {mg : Str → Option Value} {base : Heap} {f : Addr} (F_l_divisor : FnZ P w K mg base 1 "_law_divisor" 2 sp_l_divisor) (cdv : Value) (A : Around) (outer : List Env) (s : Shared) (H : Hp) (E : XK) (hr : Room 1 (A.deeper (envOfC "_law_lowest" (defScope st_l_lowest) s.heap.objs.size f cdv))) :
    WSs (cxOf CX0 P w K mg base N_l_lowest "_law_lowest" (defScope st_l_lowest) f cdv A outer s H E).nox (defBody st_l_lowest) w_l_lowest := by
  have nd := sc_l_lowest.nd
  unfold w_l_lowest
  exact (ws_cons (ws_set (i := 2) nd rfl (by first | exact Or.inl rfl | exact Or.inr rfl) (we_call F_l_divisor hr (by rfl) (wa_cons (we_var 0 (pv 0)) (wa_cons (we_var 1 (pv 1)) wa_nil))))
    (ws_cons (ws_if (wt_cmp o_lt (we_var 1 (pv 1)) we_int (nomark _)) (ws_one (ws_set (i := 2) nd rfl (by first | exact Or.inl rfl | exact Or.inr rfl) (we_un u_neg (we_var 2 (pv 2))))) ws_nil)
    (ws_one (ws_ret (we_tup (wa_cons (we_bin o_div (we_var 0 (pv 0)) (we_var 2 (pv 2))) (wa_cons (we_bin o_div (we_var 1 (pv 1)) (we_var 2 (pv 2))) wa_nil)))))))
abbrev st_l_whole : Stmt := topS 28
abbrev N_l_whole : List Str := ["_law_found"]
theorem sc_l_whole : FnScope N_l_whole ["_law_found"] (defScope st_l_whole) := ⟨rfl, rfl, rfl, by decide +kernel, rfl, by decide +kernel, by decide +kernel⟩
theorem tm_l_whole {P : Program} {w : World} {K : PySem.W.Frag} {mg : Str → Option Value} {base : Heap} {f : Addr} (hb_isinstance : mg "isinstance" = none) (hb_int : mg "int" = none) (hb_bool : mg "bool" = none) (cdv : Value) (A : Around) (outer : List Env) (s : Shared) (H : Hp) (E : XK) (hr : Room 0 (A.deeper (envOfC "_law_whole" (defScope st_l_whole) s.heap.objs.size f cdv))) :
    WSs (cxOf CX0 P w K mg base N_l_whole "_law_whole" (defScope st_l_whole) f cdv A outer s H E).nox (defBody st_l_whole) w_l_whole := by
  have nd := sc_l_whole.nd
  unfold w_l_whole
  exact (ws_one (ws_ret (we_and (we_isi (T := "int") (by decide) (by rfl) hb_isinstance (by rfl) hb_int PyProof.Rows.boot_int (we_var 0 (pv 0))) (we_one (we_not (we_isi (T := "bool") (by decide) (by rfl) hb_isinstance (by rfl) hb_bool PyProof.Rows.boot_bool (we_var 0 (pv 0))))))))
abbrev st_l_same : Stmt := topS 29
abbrev N_l_same : List Str := ["_law_found", "_law_due", "_law_k"]
theorem sc_l_same : FnScope N_l_same ["_law_found", "_law_due"] (defScope st_l_same) := ⟨rfl, rfl, rfl, by decide +kernel, rfl, by decide +kernel, by decide +kernel⟩
theorem tm_l_same {P : Program} {w : World} {K : PySem.W.Frag} {mg : Str → Option Value} {base : Heap} {f : Addr} {kk : Nat} {spr : SpZ} (Fr : FnZ P w K mg base kk "_law_same" 2 spr) (F_l_whole : FnZ P w K mg base kk "_law_whole" 1 sp_l_whole) (hb_isinstance : mg "isinstance" = none) (hb_tuple : mg "tuple" = none) (hb_list : mg "list" = none) (hb_len : mg "len" = none) (hb_range : mg "range" = none) (hb_str : mg "str" = none) (cdv : Value) (A : Around) (outer : List Env) (s : Shared) (H : Hp) (E : XK) (hr : Room kk (A.deeper (envOfC "_law_same" (defScope st_l_same) s.heap.objs.size f cdv))) :
    WSs (cxOf CX0 P w K mg base N_l_same "_law_same" (defScope st_l_same) f cdv A outer s H E).nox (defBody st_l_same) (w_l_same spr) := by
  have nd := sc_l_same.nd
  unfold w_l_same
  exact (ws_cons (ws_if ((ww_or (wt_val (we_isi (T := "tuple") (by decide) (by rfl) hb_isinstance (by rfl) hb_tuple PyProof.Rows.boot_tuple (we_var 1 (pv 1)))) (ww_or1 (wt_val (we_isi (T := "list") (by decide) (by rfl) hb_isinstance (by rfl) hb_list PyProof.Rows.boot_list (we_var 1 (pv 1))))))).wt (ws_cons (ws_if ((ww_or (wt_cmp (o_ne hr.units) (we_isi (T := "tuple") (by decide) (by rfl) hb_isinstance (by rfl) hb_tuple PyProof.Rows.boot_tuple (we_var 0 (pv 0))) (we_isi (T := "tuple") (by decide) (by rfl) hb_isinstance (by rfl) hb_tuple PyProof.Rows.boot_tuple (we_var 1 (pv 1))) (nomark _)) (ww_or1 (wt_cmp (o_ne hr.units) (we_isi (T := "list") (by decide) (by rfl) hb_isinstance (by rfl) hb_list PyProof.Rows.boot_list (we_var 0 (pv 0))) (we_isi (T := "list") (by decide) (by rfl) hb_isinstance (by rfl) hb_list PyProof.Rows.boot_list (we_var 1 (pv 1))) (nomark _))))).wt (ws_one (ws_ret we_bl)) ws_nil)
    (ws_cons (ws_if (wt_cmp (o_ne hr.units) (we_blt f_len (by rfl) hb_len PySem.boot_len (wa_cons (we_var 0 (pv 0)) wa_nil)) (we_blt f_len (by rfl) hb_len PySem.boot_len (wa_cons (we_var 1 (pv 1)) wa_nil)) (nomark _)) (ws_one (ws_ret we_bl)) ws_nil)
    (ws_one (ws_ret (we_cmp (o_eq hr.units) (we_blt f_len (by rfl) hb_len PySem.boot_len (wa_cons (we_lc (own := [("_law_k", 2)]) rfl nd (wi_rng1 (by rfl) hb_range (wa_cons (we_blt f_len (by rfl) hb_len PySem.boot_len (wa_cons (we_var 1 (pv 1)) wa_nil)) wa_nil)) (blkOk_by (N := N_l_same) (sc := defScope st_l_same) (by decide +kernel)) (fun _ _ _ _ _ => (pg_name (i := 2) nd rfl (by first | exact Or.inl rfl | exact Or.inr rfl))) (tg_name 2) (by decide) (fun _ _ _ _ _ => (wts_one (wt_not (wt_val (we_call Fr hr (by rfl) (wa_cons (we_ix (we_var 0 (pv 0)) (we_var 2 (pv 2)) (fun _ _ => rfl)) (wa_cons (we_ix (we_var 1 (pv 1)) (we_var 2 (pv 2)) (fun _ _ => rfl)) wa_nil))))))) (fun _ _ _ _ _ => (we_var 2 (pv 2)))) wa_nil)) we_int (nomark _)))))) ws_nil)
    (ws_cons (ws_if ((ww_or (wt_val (we_isi (T := "str") (by decide) (by rfl) hb_isinstance (by rfl) hb_str PyProof.Rows.boot_str (we_var 1 (pv 1)))) (ww_or1 (wt_cmp o_isN (we_var 1 (pv 1)) we_non (nomark _))))).wt (ws_one (ws_ret (we_and (we_cmp (o_eq hr.units) (we_var 0 (pv 0)) (we_var 1 (pv 1)) (nomark _)) (we_one (we_cmp (o_eq hr.units) (we_isi (T := "str") (by decide) (by rfl) hb_isinstance (by rfl) hb_str PyProof.Rows.boot_str (we_var 0 (pv 0))) (we_isi (T := "str") (by decide) (by rfl) hb_isinstance (by rfl) hb_str PyProof.Rows.boot_str (we_var 1 (pv 1))) (nomark _)))))) ws_nil)
    (ws_one (ws_ret (we_and (we_call F_l_whole hr (by rfl) (wa_cons (we_var 0 (pv 0)) wa_nil)) (we_one (we_cmp (o_eq hr.units) (we_var 0 (pv 0)) (we_var 1 (pv 1)) (nomark _))))))))
abbrev st_l_thing : Stmt := topS 30
abbrev N_l_thing : List Str := ["_law_kind", "_law_purse_here", "_law_most", "_law_top", "_law_k", "_law_found", "_law_one"]
theorem sc_l_thing : FnScope N_l_thing ["_law_kind", "_law_purse_here", "_law_most"] (defScope st_l_thing) := ⟨rfl, rfl, rfl, by decide +kernel, rfl, by decide +kernel, by decide +kernel⟩
theorem tm_l_thing {P : Program} {w : World} {K : PySem.W.Frag} {mg : Str → Option Value} {base : Heap} {f : Addr} {kk : Nat} {spr : SpZ} (Fr : FnZ P w K mg base kk "_law_thing" 3 spr) (F_l_number : FnZ P w K mg base kk "_law_number" 2 sp_l_number) (F_l_take : FnZ P w K mg base kk "_law_take" 2 sp_l_take) (F_l_lowest : FnZ P w K mg base kk "_law_lowest" 2 sp_l_lowest) (hb_range : mg "range" = none) (hb_tuple : mg "tuple" = none) (hb_len : mg "len" = none) (cdv : Value) (A : Around) (outer : List Env) (s : Shared) (H : Hp) (E : XK) (hr : Room kk (A.deeper (envOfC "_law_thing" (defScope st_l_thing) s.heap.objs.size f cdv))) :
    WSs (cxOf CX0 P w K mg base N_l_thing "_law_thing" (defScope st_l_thing) f cdv A outer s H E).nox (defBody st_l_thing) (w_l_thing spr) := by
  have nd := sc_l_thing.nd
  unfold w_l_thing
  exact (ws_cons (ws_if (wt_cmp (o_eq hr.units) (we_var 0 (pv 0)) we_int (nomark _)) (ws_cons (ws_set (i := 3) nd rfl (by first | exact Or.inl rfl | exact Or.inr rfl) (we_call F_l_number hr (by rfl) (wa_cons (we_var 1 (pv 1)) (wa_cons (we_ix (we_lst (wa_cons we_int (wa_cons we_int (wa_cons we_int (wa_cons we_int wa_nil))))) (we_call F_l_take hr (by rfl) (wa_cons (we_var 1 (pv 1)) (wa_cons we_int wa_nil))) (fun _ _ => rfl)) wa_nil))))
    (ws_cons (ws_if (wt_cmp o_ge (we_call F_l_take hr (by rfl) (wa_cons (we_var 1 (pv 1)) (wa_cons we_int wa_nil))) (we_var 2 (pv 2)) (nomark _)) (ws_cons (ws_set (i := 3) nd rfl (by first | exact Or.inl rfl | exact Or.inr rfl) we_int)
    (ws_cons (ws_for PassesOwn.never rfl (wi_rng1 (by rfl) hb_range (wa_cons (we_ix (we_lst (wa_cons we_int (wa_cons we_int (wa_cons we_int wa_nil)))) (we_call F_l_take hr (by rfl) (wa_cons (we_var 1 (pv 1)) (wa_cons we_int wa_nil))) (fun _ _ => rfl)) wa_nil)) (pg_name (i := 4) nd rfl (by first | exact Or.inl rfl | exact Or.inr rfl)) (tg_name 4) (ws_one (ws_set (i := 3) nd rfl (by first | exact Or.inl rfl | exact Or.inr rfl) (we_bin o_addI (we_bin o_mulI (we_var 3 (pv 3)) (we_bin o_pow we_int we_int)) (we_call F_l_take hr (by rfl) (wa_cons (we_var 1 (pv 1)) (wa_cons (we_bin o_pow we_int we_int) wa_nil)))))))
    (ws_one (ws_set (i := 3) nd rfl (by first | exact Or.inl rfl | exact Or.inr rfl) (we_bin o_mulI (we_var 3 (pv 3)) (we_ix (we_lst (wa_cons we_int (wa_cons (we_un u_neg we_int) wa_nil))) (we_call F_l_take hr (by rfl) (wa_cons (we_var 1 (pv 1)) (wa_cons we_int wa_nil))) (fun _ _ => rfl))))))) ws_nil)
    (ws_one (ws_ret (we_call F_l_lowest hr (by rfl) (wa_cons (we_var 3 (pv 3)) (wa_cons (we_bin o_addI we_int (we_call F_l_take hr (by rfl) (wa_cons (we_var 1 (pv 1)) (wa_cons (we_ix (we_lst (wa_cons we_int (wa_cons we_int (wa_cons (we_bin o_sub (we_bin o_pow we_int we_int) we_int) wa_nil)))) (we_call F_l_take hr (by rfl) (wa_cons (we_var 1 (pv 1)) (wa_cons we_int wa_nil))) (fun _ _ => rfl)) wa_nil)))) wa_nil))))))) ws_nil)
    (ws_cons (ws_if (wt_cmp (o_eq hr.units) (we_var 0 (pv 0)) we_int (nomark _)) (ws_one (ws_ret (we_ty f_tup (by rfl) hb_tuple PyProof.Rows.boot_tuple (wa_cons (we_lc (own := [("_law_k", 4)]) rfl nd (wi_rng1 (by rfl) hb_range (wa_cons we_int wa_nil)) (blkOk_by (N := N_l_thing) (sc := defScope st_l_thing) (by decide +kernel)) (fun _ _ _ _ _ => (pg_name (i := 4) nd rfl (by first | exact Or.inl rfl | exact Or.inr rfl))) (tg_name 4) (by decide) (fun _ _ _ _ _ => wts_nil) (fun _ _ _ _ _ => (we_call Fr hr (by rfl) (wa_cons we_int (wa_cons (we_var 1 (pv 1)) (wa_cons (we_var 2 (pv 2)) wa_nil)))))) wa_nil)))) ws_nil)
    (ws_cons (ws_if (wt_cmp (o_eq hr.units) (we_var 0 (pv 0)) we_int (nomark _)) (ws_one (ws_ret (we_ty f_tup (by rfl) hb_tuple PyProof.Rows.boot_tuple (wa_cons (we_lc (own := [("_law_k", 4)]) rfl nd (wi_rng1 (by rfl) hb_range (wa_cons we_int wa_nil)) (blkOk_by (N := N_l_thing) (sc := defScope st_l_thing) (by decide +kernel)) (fun _ _ _ _ _ => (pg_name (i := 4) nd rfl (by first | exact Or.inl rfl | exact Or.inr rfl))) (tg_name 4) (by decide) (fun _ _ _ _ _ => wts_nil) (fun _ _ _ _ _ => (we_call Fr hr (by rfl) (wa_cons we_int (wa_cons (we_var 1 (pv 1)) (wa_cons (we_var 2 (pv 2)) wa_nil)))))) wa_nil)))) ws_nil)
    (ws_cons (ws_setLc (own := [("_law_k", 4)]) (i := 5) rfl nd rfl rfl (sw_true rfl rfl rfl (by decide +kernel)) (wi_rng1 (by rfl) hb_range (wa_cons (we_ix (we_lst (wa_cons we_int (wa_cons we_int (wa_cons we_int (wa_cons we_int (wa_cons we_int (wa_cons we_int wa_nil))))))) (we_var 0 (pv 0)) (fun _ _ => rfl)) wa_nil)) (blkOk_by (N := N_l_thing) (sc := defScope st_l_thing) (by decide +kernel)) (fun _ _ _ _ _ => (pg_name (i := 4) nd rfl (by first | exact Or.inl rfl | exact Or.inr rfl))) (tg_name 4) (by decide) (fun _ _ _ _ _ => wts_nil) (fun _ _ _ _ _ => (we_ix (we_call Fr hr (by rfl) (wa_cons we_int (wa_cons (we_var 1 (pv 1)) (wa_cons (we_var 2 (pv 2)) wa_nil)))) we_int (fun _ _ => rfl))))
    (ws_cons (ws_if (wt_cmp (o_eq hr.units) (we_blt f_len (by rfl) hb_len PySem.boot_len (wa_cons (we_lc (own := [("_law_one", 6)]) rfl nd (wi_seq (we_var 5 (pv 5))) (blkOk_by (N := N_l_thing) (sc := defScope st_l_thing) (by decide +kernel)) (fun _ _ _ _ _ => (pg_name (i := 6) nd rfl (by first | exact Or.inl rfl | exact Or.inr rfl))) (tg_name 6) (by decide) (fun _ _ _ _ _ => (wts_one (wt_cmp (o_ne hr.units) (we_var 6 (pv 6)) we_int (nomark _)))) (fun _ _ _ _ _ => (we_var 6 (pv 6)))) wa_nil)) we_int (nomark _)) (ws_one (ws_stI (we_var 5 (pv 5)) (we_call F_l_take hr (by rfl) (wa_cons (we_var 1 (pv 1)) (wa_cons (we_blt f_len (by rfl) hb_len PySem.boot_len (wa_cons (we_var 5 (pv 5)) wa_nil)) wa_nil))) we_int)) ws_nil)
    (ws_one (ws_ret (we_ty f_tup (by rfl) hb_tuple PyProof.Rows.boot_tuple (wa_cons (we_var 5 (pv 5)) wa_nil)))))))))
abbrev st_l_written : Stmt := topS 31
abbrev N_l_written : List Str := ["_law_kind", "_law_thing_here", "_law_one", "_law_row"]
theorem sc_l_written : FnScope N_l_written ["_law_kind", "_law_thing_here"] (defScope st_l_written) := ⟨rfl, rfl, rfl, by decide +kernel, rfl, by decide +kernel, by decide +kernel⟩
theorem tm_l_written {P : Program} {w : World} {K : PySem.W.Frag} {mg : Str → Option Value} {base : Heap} {f : Addr} {kk : Nat} {spr : SpZ} (Fr : FnZ P w K mg base kk "_law_written" 2 spr) (nodig : base.NoDigits) (hb_str : mg "str" = none) (hb_int : mg "int" = none) (cdv : Value) (A : Around) (outer : List Env) (s : Shared) (H : Hp) (E : XK) (hr : Room kk (A.deeper (envOfC "_law_written" (defScope st_l_written) s.heap.objs.size f cdv))) :
    WSs (cxOf CX0 P w K mg base N_l_written "_law_written" (defScope st_l_written) f cdv A outer s H E).nox (defBody st_l_written) (w_l_written spr) := by
  have nd := sc_l_written.nd
  unfold w_l_written
  exact (ws_cons (ws_if ((ww_and (wt_cmp (o_eq hr.units) (we_var 0 (pv 0)) we_int (nomark _)) (ww_and1 (wt_cmp (o_eq hr.units) (we_ix (we_var 1 (pv 1)) we_int (fun _ _ => rfl)) we_int (nomark _))))).wt (ws_one (ws_ret (we_ty (f_strB nodig) (by rfl) hb_str PyProof.Rows.boot_str (wa_cons (we_ix (we_var 1 (pv 1)) we_int (fun _ _ => rfl)) wa_nil)))) ws_nil)
    (ws_cons (ws_if (wt_cmp (o_eq hr.units) (we_var 0 (pv 0)) we_int (nomark _)) (ws_one (ws_ret (we_bin o_scat (we_bin o_scat (we_ty (f_strB nodig) (by rfl) hb_str PyProof.Rows.boot_str (wa_cons (we_ix (we_var 1 (pv 1)) we_int (fun _ _ => rfl)) wa_nil)) we_str) (we_ty (f_strB nodig) (by rfl) hb_str PyProof.Rows.boot_str (wa_cons (we_ix (we_var 1 (pv 1)) we_int (fun _ _ => rfl)) wa_nil))))) ws_nil)
    (ws_cons (ws_if (wt_cmp (o_eq hr.units) (we_var 0 (pv 0)) we_int (nomark _)) (ws_one (ws_ret (we_join we_str (we_lc (own := [("_law_one", 2)]) rfl nd (wi_seq (we_var 1 (pv 1))) (blkOk_by (N := N_l_written) (sc := defScope st_l_written) (by decide +kernel)) (fun _ _ _ _ _ => (pg_name (i := 2) nd rfl (by first | exact Or.inl rfl | exact Or.inr rfl))) (tg_name 2) (by decide) (fun _ _ _ _ _ => wts_nil) (fun _ _ _ _ _ => (we_call Fr hr (by rfl) (wa_cons we_int (wa_cons (we_var 2 (pv 2)) wa_nil)))))))) ws_nil)
    (ws_cons (ws_if (wt_cmp (o_eq hr.units) (we_var 0 (pv 0)) we_int (nomark _)) (ws_one (ws_ret (we_join we_str (we_lc (own := [("_law_row", 3)]) rfl nd (wi_seq (we_var 1 (pv 1))) (blkOk_by (N := N_l_written) (sc := defScope st_l_written) (by decide +kernel)) (fun _ _ _ _ _ => (pg_name (i := 3) nd rfl (by first | exact Or.inl rfl | exact Or.inr rfl))) (tg_name 3) (by decide) (fun _ _ _ _ _ => wts_nil) (fun _ _ _ _ _ => (we_call Fr hr (by rfl) (wa_cons we_int (wa_cons (we_var 3 (pv 3)) wa_nil)))))))) ws_nil)
    (ws_one (ws_ret (we_join (we_ix (we_lst (wa_cons we_str (wa_cons we_str wa_nil))) (we_ty f_int (by rfl) hb_int PyProof.Rows.boot_int (wa_cons (we_cmp (o_eq hr.units) (we_var 0 (pv 0)) we_int (nomark _)) wa_nil)) (fun _ _ => rfl)) (we_lc (own := [("_law_one", 2)]) rfl nd (wi_seq (we_var 1 (pv 1))) (blkOk_by (N := N_l_written) (sc := defScope st_l_written) (by decide +kernel)) (fun _ _ _ _ _ => (pg_name (i := 2) nd rfl (by first | exact Or.inl rfl | exact Or.inr rfl))) (tg_name 2) (by decide) (fun _ _ _ _ _ => wts_nil) (fun _ _ _ _ _ => (we_ty (f_strB nodig) (by rfl) hb_str PyProof.Rows.boot_str (wa_cons (we_var 2 (pv 2)) wa_nil)))))))))))
abbrev st_l_whole_of : Stmt := topS 32
abbrev N_l_whole_of : List Str := ["_law_text", "_law_row", "_law_strange", "_law_sign"]
theorem sc_l_whole_of : FnScope N_l_whole_of ["_law_text"] (defScope st_l_whole_of) := ⟨rfl, rfl, rfl, by decide +kernel, rfl, by decide +kernel, by decide +kernel⟩
theorem tm_l_whole_of {P : Program} {w : World} {K : PySem.W.Frag} {mg : Str → Option Value} {base : Heap} {f : Addr} (nodig : base.NoDigits) (hb_int : mg "int" = none) (hb_len : mg "len" = none) (cdv : Value) (A : Around) (outer : List Env) (s : Shared) (H : Hp) (E : XK) (hr : Room 0 (A.deeper (envOfC "_law_whole_of" (defScope st_l_whole_of) s.heap.objs.size f cdv))) :
    WSs (cxOf CX0 P w K mg base N_l_whole_of "_law_whole_of" (defScope st_l_whole_of) f cdv A outer s H E).nox (defBody st_l_whole_of) w_l_whole_of := by
  have nd := sc_l_whole_of.nd
  unfold w_l_whole_of
  exact (ws_cons (ws_set (i := 1) nd rfl (by first | exact Or.inl rfl | exact Or.inr rfl) (we_slT (we_var 0 (pv 0)) (wo_some (we_ty f_int (by rfl) hb_int PyProof.Rows.boot_int (wa_cons (we_cmp (o_eq hr.units) (we_slT (we_var 0 (pv 0)) wo_none (wo_some we_int)) we_str (nomark _)) wa_nil))) wo_none))
    (ws_cons (ws_setLc (own := [("_law_sign", 3)]) (i := 2) rfl nd rfl rfl (sw_true rfl rfl rfl (by decide +kernel)) (wi_str (we_var 1 (pv 1))) (blkOk_by (N := N_l_whole_of) (sc := defScope st_l_whole_of) (by decide +kernel)) (fun _ _ _ _ _ => (pg_name (i := 3) nd rfl (by first | exact Or.inl rfl | exact Or.inr rfl))) (tg_name 3) (by decide) (fun _ _ _ _ _ => (wts_one (wt_cmp o_snin (we_var 3 (pv 3)) we_str (by with_unfolding_all rfl)))) (fun _ _ _ _ _ => (we_var 3 (pv 3))))
    (ws_cons (ws_if ((ww_or (wt_cmp (o_eq hr.units) (we_var 1 (pv 1)) we_str (nomark _)) (ww_or (wt_cmp o_gt (we_blt f_slen (by rfl) hb_len PySem.boot_len (wa_cons (we_var 1 (pv 1)) wa_nil)) we_int (nomark _)) (ww_or (wt_cmp (o_ne hr.units) (we_var 2 (pv 2)) (we_lst wa_nil) (nomark _)) (ww_or1 ((ww_and (wt_cmp (o_eq hr.units) (we_six (we_var 1 (pv 1)) we_int (fun _ _ => rfl)) we_str (nomark _)) (ww_and1 (wt_cmp (o_ne hr.units) (we_var 0 (pv 0)) we_str (nomark _))))).wt))))).wt (ws_one (ws_ret we_non)) ws_nil)
    (ws_one (ws_ret (we_ty (f_intTB nodig) (by rfl) hb_int PyProof.Rows.boot_int (wa_cons (we_var 0 (pv 0)) wa_nil)))))))
abbrev st_l_fraction_of : Stmt := topS 33
abbrev N_l_fraction_of : List Str := ["_law_text", "_law_found", "_law_part"]
theorem sc_l_fraction_of : FnScope N_l_fraction_of ["_law_text"] (defScope st_l_fraction_of) := ⟨rfl, rfl, rfl, by decide +kernel, rfl, by decide +kernel, by decide +kernel⟩
theorem tm_l_fraction_of {P : Program} {w : World} {K : PySem.W.Frag} {mg : Str → Option Value} {base : Heap} {f : Addr} (F_l_whole_of : FnZ P w K mg base 1 "_law_whole_of" 1 sp_l_whole_of) (F_l_divisor : FnZ P w K mg base 1 "_law_divisor" 2 sp_l_divisor) (hb_len : mg "len" = none) (hb_tuple : mg "tuple" = none) (cdv : Value) (A : Around) (outer : List Env) (s : Shared) (H : Hp) (E : XK) (hr : Room 1 (A.deeper (envOfC "_law_fraction_of" (defScope st_l_fraction_of) s.heap.objs.size f cdv))) :
    WSs (cxOf CX0 P w K mg base N_l_fraction_of "_law_fraction_of" (defScope st_l_fraction_of) f cdv A outer s H E).nox (defBody st_l_fraction_of) w_l_fraction_of := by
  have nd := sc_l_fraction_of.nd
  unfold w_l_fraction_of
  exact (ws_cons (ws_setLc (own := [("_law_part", 2)]) (i := 1) rfl nd rfl rfl (sw_true rfl rfl rfl (by decide +kernel)) (wi_seq (we_split (we_var 0 (pv 0)) we_str)) (blkOk_by (N := N_l_fraction_of) (sc := defScope st_l_fraction_of) (by decide +kernel)) (fun _ _ _ _ _ => (pg_name (i := 2) nd rfl (by first | exact Or.inl rfl | exact Or.inr rfl))) (tg_name 2) (by decide) (fun _ _ _ _ _ => wts_nil) (fun _ _ _ _ _ => (we_call F_l_whole_of hr (by rfl) (wa_cons (we_var 2 (pv 2)) wa_nil))))
    (ws_cons (ws_if ((ww_or (wt_cmp (o_in hr.units) we_non (we_var 1 (pv 1)) (by with_unfolding_all rfl)) (ww_or1 (wt_cmp o_gt (we_blt f_len (by rfl) hb_len PySem.boot_len (wa_cons (we_var 1 (pv 1)) wa_nil)) we_int (nomark _))))).wt (ws_one (ws_ret we_non)) ws_nil)
    (ws_cons (ws_if (wt_cmp (o_eq hr.units) (we_blt f_len (by rfl) hb_len PySem.boot_len (wa_cons (we_var 1 (pv 1)) wa_nil)) we_int (nomark _)) (ws_one (ws_ret (we_tup (wa_cons (we_ix (we_var 1 (pv 1)) we_int (fun _ _ => rfl)) (wa_cons we_int wa_nil))))) ws_nil)
    (ws_cons (ws_if ((ww_or (wt_cmp o_lt (we_ix (we_var 1 (pv 1)) we_int (fun _ _ => rfl)) we_int (nomark _)) (ww_or1 (wt_cmp (o_ne hr.units) (we_call F_l_divisor hr (by rfl) (wa_cons (we_ix (we_var 1 (pv 1)) we_int (fun _ _ => rfl)) (wa_cons (we_ix (we_var 1 (pv 1)) we_int (fun _ _ => rfl)) wa_nil))) we_int (nomark _))))).wt (ws_one (ws_ret we_non)) ws_nil)
    (ws_one (ws_ret (we_ty f_tup (by rfl) hb_tuple PyProof.Rows.boot_tuple (wa_cons (we_var 1 (pv 1)) wa_nil))))))))
abbrev st_l_which : Stmt := topS 34
abbrev N_l_which : List Str := ["_law_e", "_law_found", "_law_k"]
theorem sc_l_which : FnScope N_l_which ["_law_e"] (defScope st_l_which) := ⟨rfl, rfl, rfl, by decide +kernel, rfl, by decide +kernel, by decide +kernel⟩
theorem tm_l_which {P : Program} {w : World} {K : PySem.W.Frag} {mg : Str → Option Value} {base : Heap} {f : Addr} (hI_NoJoint : XI K mg [PySem.Str.ofString "NoText"] (PySem.Str.ofString "NoJoint")) (hI_TooMany : XI K mg [PySem.Str.ofString "NoText"] (PySem.Str.ofString "TooMany")) (hI_NoHanger : XI K mg [PySem.Str.ofString "NoText"] (PySem.Str.ofString "NoHanger")) (hI_NoTurn : XI K mg [PySem.Str.ofString "NoText"] (PySem.Str.ofString "NoTurn")) (hI_NoMark : XI K mg [PySem.Str.ofString "NoText"] (PySem.Str.ofString "NoMark")) (hI_NoName : XI K mg [PySem.Str.ofString "NoText"] (PySem.Str.ofString "NoName")) (hI_NoDeed : XI K mg [PySem.Str.ofString "NoText"] (PySem.Str.ofString "NoDeed")) (hI_NoReach : XI K mg [PySem.Str.ofString "NoText"] (PySem.Str.ofString "NoReach")) (hI_NoKept : XI K mg [PySem.Str.ofString "NoText"] (PySem.Str.ofString "NoKept")) (hI_NoLine : XI K mg [PySem.Str.ofString "NoText"] (PySem.Str.ofString "NoLine")) (hI_NoText : XI K mg [PySem.Str.ofString "NoText"] (PySem.Str.ofString "NoText")) (hI_TurnError : XI K mg [PySem.Str.ofString "NoText"] (PySem.Str.ofString "TurnError")) (hX_v : XV K [PySem.Str.ofString "NoText"]) (hb_isinstance : mg "isinstance" = none) (hb_ValueError : mg "ValueError" = none) (hb_range : mg "range" = none) (cdv : Value) (A : Around) (outer : List Env) (s : Shared) (H : Hp) (E : XK) (hr : Room 0 (A.deeper (envOfC "_law_which" (defScope st_l_which) s.heap.objs.size f cdv))) :
    WSs (cxOf CX0 P w K mg base N_l_which "_law_which" (defScope st_l_which) f cdv A outer s H E).nox (defBody st_l_which) w_l_which := by
  have nd := sc_l_which.nd
  unfold w_l_which
  exact (ws_cons (ws_set (i := 1) nd rfl (by first | exact Or.inl rfl | exact Or.inr rfl) (we_lst (wa_cons (we_isx1 (by rfl) hb_isinstance (by rfl) hI_NoTurn (we_var 0 (pv 0))) (wa_cons (we_isx1 (by rfl) hb_isinstance (by rfl) hI_NoHanger (we_var 0 (pv 0))) (wa_cons (we_isx1 (by rfl) hb_isinstance (by rfl) hI_TooMany (we_var 0 (pv 0))) (wa_cons (we_isx1 (by rfl) hb_isinstance (by rfl) hI_NoJoint (we_var 0 (pv 0))) wa_nil))))))
    (ws_cons (ws_set (i := 1) nd rfl (by first | exact Or.inl rfl | exact Or.inr rfl) (we_bin o_cat (we_var 1 (pv 1)) (we_lst (wa_cons (we_isx1 (by rfl) hb_isinstance (by rfl) hI_NoReach (we_var 0 (pv 0))) (wa_cons (we_isx1 (by rfl) hb_isinstance (by rfl) hI_NoDeed (we_var 0 (pv 0))) (wa_cons (we_isx1 (by rfl) hb_isinstance (by rfl) hI_NoName (we_var 0 (pv 0))) (wa_cons (we_isx1 (by rfl) hb_isinstance (by rfl) hI_NoMark (we_var 0 (pv 0))) wa_nil)))))))
    (ws_cons (ws_set (i := 1) nd rfl (by first | exact Or.inl rfl | exact Or.inr rfl) (we_bin o_cat (we_var 1 (pv 1)) (we_lst (wa_cons (we_isx1 (by rfl) hb_isinstance (by rfl) hI_NoText (we_var 0 (pv 0))) (wa_cons (we_isx1 (by rfl) hb_isinstance (by rfl) hI_NoLine (we_var 0 (pv 0))) (wa_cons (we_isx1 (by rfl) hb_isinstance (by rfl) hI_NoKept (we_var 0 (pv 0))) wa_nil))))))
    (ws_cons (ws_if ((ww_or (wt_not (wt_val (we_isxb (by rfl) hb_isinstance (by rfl) hb_ValueError hX_v (we_var 0 (pv 0))))) (ww_or1 (wt_not (wt_val (we_isx1 (by rfl) hb_isinstance (by rfl) hI_TurnError (we_var 0 (pv 0)))))))).wt (ws_one (ws_ret (we_lst wa_nil))) ws_nil)
    (ws_one (ws_ret (we_lc (own := [("_law_k", 2)]) rfl nd (wi_rng1 (by rfl) hb_range (wa_cons we_int wa_nil)) (blkOk_by (N := N_l_which) (sc := defScope st_l_which) (by decide +kernel)) (fun _ _ _ _ _ => (pg_name (i := 2) nd rfl (by first | exact Or.inl rfl | exact Or.inr rfl))) (tg_name 2) (by decide) (fun _ _ _ _ _ => (wts_one (wt_val (we_ix (we_var 1 (pv 1)) (we_var 2 (pv 2)) (fun _ _ => rfl))))) (fun _ _ _ _ _ => (we_var 2 (pv 2))))))))))
abbrev st_l_bent_text : Stmt := topS 35
abbrev N_l_bent_text : List Str := ["_law_text", "_law_purse_here", "_law_sort", "_law_at", "_law_sign", "_law_pair"]
theorem sc_l_bent_text : FnScope N_l_bent_text ["_law_text", "_law_purse_here"] (defScope st_l_bent_text) := ⟨rfl, rfl, rfl, by decide +kernel, rfl, by decide +kernel, by decide +kernel⟩
theorem tm_l_bent_text {P : Program} {w : World} {K : PySem.W.Frag} {mg : Str → Option Value} {base : Heap} {f : Addr} (F_l_take : FnZ P w K mg base 1 "_law_take" 2 sp_l_take) (hb_len : mg "len" = none) (cdv : Value) (A : Around) (outer : List Env) (s : Shared) (H : Hp) (E : XK) (hr : Room 1 (A.deeper (envOfC "_law_bent_text" (defScope st_l_bent_text) s.heap.objs.size f cdv))) :
    WSsT (cxOf CX0 P w K mg base N_l_bent_text "_law_bent_text" (defScope st_l_bent_text) f cdv A outer s H E).nox (defBody st_l_bent_text) w_l_bent_text := by
  have nd := sc_l_bent_text.nd
  unfold w_l_bent_text
  exact (wsst_cons (wst_of (ws_set (i := 2) nd rfl (by first | exact Or.inl rfl | exact Or.inr rfl) (we_call F_l_take hr (by rfl) (wa_cons (we_var 1 (pv 1)) (wa_cons we_int wa_nil)))))
    (wsst_cons (wst_of (ws_set (i := 3) nd rfl (by first | exact Or.inl rfl | exact Or.inr rfl) (we_call F_l_take hr (by rfl) (wa_cons (we_var 1 (pv 1)) (wa_cons (we_bin o_addI (we_blt f_slen (by rfl) hb_len PySem.boot_len (wa_cons (we_var 0 (pv 0)) wa_nil)) we_int) wa_nil)))))
    (wsst_cons (wst_of (ws_set (i := 4) nd rfl (by first | exact Or.inl rfl | exact Or.inr rfl) (we_six we_str (we_call F_l_take hr (by rfl) (wa_cons (we_var 1 (pv 1)) (wa_cons we_int wa_nil))) (fun _ _ => rfl))))
    (wsst_cons (wst_of (ws_if (wt_cmp (o_eq hr.units) (we_var 2 (pv 2)) we_int (nomark _)) (ws_one (ws_ret (we_bin o_scat (we_bin o_scat (we_slT (we_var 0 (pv 0)) wo_none (wo_some (we_var 3 (pv 3)))) (we_var 4 (pv 4))) (we_slT (we_var 0 (pv 0)) (wo_some (we_var 3 (pv 3))) wo_none)))) ws_nil))
    (wsst_cons (wst_of (ws_if (wt_cmp (o_eq hr.units) (we_var 2 (pv 2)) we_int (nomark _)) (ws_one (ws_ret (we_bin o_scat (we_slT (we_var 0 (pv 0)) wo_none (wo_some (we_var 3 (pv 3)))) (we_slT (we_var 0 (pv 0)) (wo_some (we_bin o_addI (we_var 3 (pv 3)) we_int)) wo_none)))) ws_nil))
    (wsst_cons (wst_of (ws_if (wt_cmp (o_eq hr.units) (we_var 2 (pv 2)) we_int (nomark _)) (ws_one (ws_ret (we_bin o_scat (we_bin o_scat (we_slT (we_var 0 (pv 0)) wo_none (wo_some (we_var 3 (pv 3)))) (we_var 4 (pv 4))) (we_slT (we_var 0 (pv 0)) (wo_some (we_bin o_addI (we_var 3 (pv 3)) we_int)) wo_none)))) ws_nil))
    (wsst_cons (wst_of (ws_if (wt_cmp (o_eq hr.units) (we_var 2 (pv 2)) we_int (nomark _)) (ws_cons (ws_set (i := 5) nd rfl (by first | exact Or.inl rfl | exact Or.inr rfl) (we_bin o_scat (we_slT (we_var 0 (pv 0)) (wo_some (we_bin o_addI (we_var 3 (pv 3)) we_int)) (wo_some (we_bin o_addI (we_var 3 (pv 3)) we_int))) (we_slT (we_var 0 (pv 0)) (wo_some (we_var 3 (pv 3))) (wo_some (we_bin o_addI (we_var 3 (pv 3)) we_int)))))
    (ws_one (ws_ret (we_bin o_scat (we_bin o_scat (we_slT (we_var 0 (pv 0)) wo_none (wo_some (we_var 3 (pv 3)))) (we_var 5 (pv 5))) (we_slT (we_var 0 (pv 0)) (wo_some (we_bin o_addI (we_var 3 (pv 3)) we_int)) wo_none))))) ws_nil))
    (wsst_cons (wst_of (ws_if (wt_cmp (o_eq hr.units) (we_var 2 (pv 2)) we_int (nomark _)) (ws_one (ws_ret (we_ix (we_lst (wa_cons (we_bin o_scat (we_var 0 (pv 0)) we_str) (wa_cons (we_bin o_scat we_str (we_var 0 (pv 0))) (wa_cons (we_bin o_scat (we_var 0 (pv 0)) we_str) (wa_cons (we_bin o_scat (we_var 0 (pv 0)) we_str) wa_nil))))) (we_call F_l_take hr (by rfl) (wa_cons (we_var 1 (pv 1)) (wa_cons we_int wa_nil))) (fun _ _ => rfl)))) ws_nil))
    (wsst_cons (wst_of (ws_if (wt_cmp (o_eq hr.units) (we_var 2 (pv 2)) we_int (nomark _)) (ws_one (ws_ret (we_slT (we_var 0 (pv 0)) wo_none (wo_some (we_var 3 (pv 3)))))) ws_nil))
    (wsst_cons (wst_of (ws_if ((ww_and (wt_cmp (o_eq hr.units) (we_var 2 (pv 2)) we_int (nomark _)) (ww_and1 (wt_cmp o_lt (we_blt f_slen (by rfl) hb_len PySem.boot_len (wa_cons (we_var 0 (pv 0)) wa_nil)) we_int (nomark _))))).wt (ws_one (ws_ret (we_ix (we_lst (wa_cons (we_bin o_scat (we_bin o_scat (we_var 0 (pv 0)) we_str) (we_var 0 (pv 0))) (wa_cons (we_bin o_scat (we_bin o_scat (we_var 0 (pv 0)) we_str) (we_var 0 (pv 0))) (wa_cons (we_bin o_scat (we_bin o_scat (we_var 0 (pv 0)) we_str) (we_var 0 (pv 0))) wa_nil)))) (we_call F_l_take hr (by rfl) (wa_cons (we_var 1 (pv 1)) (wa_cons we_int wa_nil))) (fun _ _ => rfl)))) ws_nil))
    (wsst_cons (wst_if (wt_cmp (o_eq hr.units) (we_var 2 (pv 2)) we_int (nomark _)) (wsst_one (wst_ret (we_repC (we_var 0 (pv 0)) (we_call F_l_take hr (by rfl) (wa_cons (we_var 1 (pv 1)) (wa_cons we_int wa_nil)))))) (wsst_of ws_nil))
    (wsst_cons (wst_if (wt_cmp (o_eq hr.units) (we_var 2 (pv 2)) we_int (nomark _)) (wsst_one (wst_ret (we_repC (we_var 0 (pv 0)) (we_call F_l_take hr (by rfl) (wa_cons (we_var 1 (pv 1)) (wa_cons we_int wa_nil)))))) (wsst_of ws_nil))
    (wsst_cons (wst_of (ws_if (wt_cmp (o_eq hr.units) (we_var 2 (pv 2)) we_int (nomark _)) (ws_one (ws_ret (we_bin o_scat (we_bin o_scat (we_slT (we_var 0 (pv 0)) wo_none (wo_some (we_var 3 (pv 3)))) (we_ix (we_lst (wa_cons we_str (wa_cons we_str (wa_cons we_str (wa_cons we_str (wa_cons we_str (wa_cons we_str wa_nil))))))) (we_call F_l_take hr (by rfl) (wa_cons (we_var 1 (pv 1)) (wa_cons we_int wa_nil))) (fun _ _ => rfl))) (we_slT (we_var 0 (pv 0)) (wo_some (we_var 3 (pv 3))) wo_none)))) ws_nil))
    (wsst_one (wst_of (ws_ret (we_var 0 (pv 0))))))))))))))))))
abbrev st_l_told : Stmt := topS 36
abbrev N_l_told : List Str := ["_law_text", "_law_found", "_law_kept", "_law_e"]
theorem sc_l_told : FnScope N_l_told ["_law_text"] (defScope st_l_told) := ⟨rfl, rfl, rfl, by decide +kernel, rfl, by decide +kernel, by decide +kernel⟩
theorem tm_l_told {P : Program} {w : World} {K : PySem.W.Frag} {mg : Str → Option Value} {base : Heap} {f : Addr} (F_read_number : FnW P w K mg base 3 "read_number" 1 sp_read_number) (hX_cat_TurnError : XC K mg [PySem.Str.ofString "NoText"] (PySem.Str.ofString "TurnError")) (cdv : Value) (A : Around) (outer : List Env) (s : Shared) (H : Hp) (E : XK) (hr : Room 3 (A.deeper (envOfC "_law_told" (defScope st_l_told) s.heap.objs.size f cdv)))
    (tk : Takes (cxOf (L2.CX P w) P w K mg base N_l_told "_law_told" (defScope st_l_told) f cdv A outer s H E) (fun cls d _ H => E cls d H)) (po : PassesOwn (model P w) (A.deeper (envOfC "_law_told" (defScope st_l_told) s.heap.objs.size f cdv)) (envOfC "_law_told" (defScope st_l_told) s.heap.objs.size f cdv) (cxOf (L2.CX P w) P w K mg base N_l_told "_law_told" (defScope st_l_told) f cdv A outer s H E).xe) :
    WXs (cxOf (L2.CX P w) P w K mg base N_l_told "_law_told" (defScope st_l_told) f cdv A outer s H E) (fun cls d _ H => E cls d H) (defBody st_l_told) w_l_told := by
  have nd := sc_l_told.nd
  unfold w_l_told
  exact (xs_cons (xs_l (ws_set (i := 1) nd rfl (by first | exact Or.inl rfl | exact Or.inr rfl) we_non))
    (xs_cons (xs_l (ws_set (i := 2) nd rfl (by first | exact Or.inl rfl | exact Or.inr rfl) we_non))
    (xs_cons (xs_l (ws_tryK (known := [PySem.Str.ofString "NoText"]) (i := 3) (k := 2) rfl rfl nd rfl rfl rfl (by first | exact Or.inl rfl | exact Or.inr rfl) (by rfl) hX_cat_TurnError (fun W pn xe tk po => (xs_one (xs_set (i := 1) nd rfl (by first | exact Or.inl rfl | exact Or.inr rfl) (wex_call F_read_number hr tk (by rfl) (wa_cons (we_var 0 (pv 0)) wa_nil)))))))
    (xs_one (xs_l (ws_ret (we_lstA (wa_cons (we_var 1 (pv 1)) (wa_cons (we_var 2 (pv 2)) wa_nil)))))))))
abbrev st_l_good : Stmt := topS 37
abbrev N_l_good : List Str := ["_law_text", "_law_due", "_law_found", "_law_kept"]
theorem sc_l_good : FnScope N_l_good ["_law_text"] (defScope st_l_good) := ⟨rfl, rfl, rfl, by decide +kernel, rfl, by decide +kernel, by decide +kernel⟩
theorem tm_l_good {P : Program} {w : World} {K : PySem.W.Frag} {mg : Str → Option Value} {base : Heap} {f : Addr} (F_l_fraction_of : FnZ P w K mg base 6 "_law_fraction_of" 1 sp_l_fraction_of) (F_l_told : FnW P w K mg base 6 "_law_told" 1 sp_l_told) (F_l_which : FnZ P w K mg base 6 "_law_which" 1 sp_l_which) (F_l_same : FnZ P w K mg base 6 "_law_same" 2 sp_l_same) (cdv : Value) (A : Around) (outer : List Env) (s : Shared) (H : Hp) (E : XK) (hr : Room 6 (A.deeper (envOfC "_law_good" (defScope st_l_good) s.heap.objs.size f cdv))) :
    WSs (cxOf CX0 P w K mg base N_l_good "_law_good" (defScope st_l_good) f cdv A outer s H E).nox (defBody st_l_good) w_l_good := by
  have nd := sc_l_good.nd
  unfold w_l_good
  exact (ws_cons (ws_set (i := 1) nd rfl (by first | exact Or.inl rfl | exact Or.inr rfl) (we_call F_l_fraction_of hr (by rfl) (wa_cons (we_var 0 (pv 0)) wa_nil)))
    (ws_cons (ws_unlA (n := 2) rfl (we_wcall F_l_told hr (by rfl) (wa_cons (we_var 0 (pv 0)) wa_nil)) (pgs_cons (pg_name (i := 2) nd rfl (by first | exact Or.inl rfl | exact Or.inr rfl)) (pgs_cons (pg_name (i := 3) nd rfl (by first | exact Or.inl rfl | exact Or.inr rfl)) pgs_nil)) (tgs_cons (tg_name 2) (tgs_cons (tg_name 3) tgs_nil)))
    (ws_cons (ws_if (wt_cmp o_isN (we_var 1 (pv 1)) we_non (nomark _)) (ws_one (ws_ret (we_cmp (o_eq hr.units) (we_call F_l_which hr (by rfl) (wa_cons (we_var 3 (pv 3)) wa_nil)) (we_lst (wa_cons we_int wa_nil)) (nomark _)))) ws_nil)
    (ws_one (ws_ret (we_and (we_cmp o_isN (we_var 3 (pv 3)) we_non (nomark _)) (we_one (we_call F_l_same hr (by rfl) (wa_cons (we_var 2 (pv 2)) (wa_cons (we_var 1 (pv 1)) wa_nil))))))))))
abbrev st_l_odd : Stmt := topS 38
abbrev N_l_odd : List Str := ["_law_some"]
theorem sc_l_odd : FnScope N_l_odd [] (defScope st_l_odd) := ⟨rfl, rfl, rfl, by decide +kernel, rfl, by decide +kernel, by decide +kernel⟩
theorem tm_l_odd {P : Program} {w : World} {K : PySem.W.Frag} {mg : Str → Option Value} {base : Heap} {f : Addr} (cdv : Value) (A : Around) (outer : List Env) (s : Shared) (H : Hp) (E : XK) (hr : Room 0 (A.deeper (envOfC "_law_odd" (defScope st_l_odd) s.heap.objs.size f cdv))) :
    WSs (cxOf CX0 P w K mg base N_l_odd "_law_odd" (defScope st_l_odd) f cdv A outer s H E).nox (defBody st_l_odd) w_l_odd := by
  have nd := sc_l_odd.nd
  unfold w_l_odd
  exact (ws_cons (ws_set (i := 0) nd rfl (by first | exact Or.inl rfl | exact Or.inr rfl) (we_lst (wa_cons we_str (wa_cons we_str (wa_cons we_str (wa_cons we_str (wa_cons we_str (wa_cons we_str (wa_cons we_str (wa_cons we_str (wa_cons we_str (wa_cons we_str (wa_cons we_str (wa_cons we_str (wa_cons we_str (wa_cons we_str (wa_cons we_str (wa_cons we_str (wa_cons we_str wa_nil)))))))))))))))))))
    (ws_cons (ws_set (i := 0) nd rfl (by first | exact Or.inl rfl | exact Or.inr rfl) (we_bin o_cat (we_var 0 (pv 0)) (we_lst (wa_cons we_str (wa_cons we_str (wa_cons we_str (wa_cons we_str (wa_cons we_str (wa_cons we_str (wa_cons we_str (wa_cons we_str (wa_cons we_str (wa_cons we_str (wa_cons we_str (wa_cons we_str (wa_cons we_str wa_nil))))))))))))))))
    (ws_one (ws_ret (we_bin o_cat (we_var 0 (pv 0)) (we_lst (wa_cons we_str (wa_cons we_str (wa_cons we_str (wa_cons we_str (wa_cons we_str (wa_cons we_str (wa_cons we_str (wa_cons we_str (wa_cons we_str (wa_cons we_str wa_nil))))))))))))))))
abbrev st_law : Stmt := topS 39
abbrev N_law : List Str := ["_law_script", "_law_text", "_law_cell", "_law_purse_here", "_law_k"]
theorem sc_law : FnScope N_law ["_law_script"] (defScope st_law) := ⟨rfl, rfl, rfl, by decide +kernel, rfl, by decide +kernel, by decide +kernel⟩
theorem tm_law {P : Program} {w : World} {K : PySem.W.Frag} {mg : Str → Option Value} {base : Heap} {f : Addr} (F_l_odd : FnZ P w K mg base 7 "_law_odd" 0 sp_l_odd) (F_l_good : FnZ P w K mg base 7 "_law_good" 1 sp_l_good) (F_l_purse : FnZ P w K mg base 7 "_law_purse" 1 sp_l_purse) (F_l_written : FnZ P w K mg base 7 "_law_written" 2 sp_l_written) (F_l_thing : FnZ P w K mg base 7 "_law_thing" 3 sp_l_thing) (F_l_bent_text : FnZ P w K mg base 7 "_law_bent_text" 2 sp_l_bent_text) (hb_range : mg "range" = none) (cdv : Value) (A : Around) (outer : List Env) (s : Shared) (H : Hp) (E : XK) (hr : Room 7 (A.deeper (envOfC "law" (defScope st_law) s.heap.objs.size f cdv))) :
    WSs (cxOf CX0 P w K mg base N_law "law" (defScope st_law) f cdv A outer s H E).nox (defBody st_law) w_law := by
  have nd := sc_law.nd
  unfold w_law
  exact (ws_cons (ws_for PassesOwn.never rfl (wi_seq (we_bin o_cat (we_call0 (F_l_odd.mono (by decide)) hr (by rfl)) (we_lst (wa_cons (we_bin o_smulB we_str we_int) (wa_cons (we_bin o_smulB we_str we_int) (wa_cons (we_bin o_scat we_str (we_bin o_smulB we_str we_int)) (wa_cons (we_bin o_smulB we_str we_int) (wa_cons (we_bin o_scat we_str (we_bin o_smulB we_str we_int)) (wa_cons (we_bin o_smulB we_str we_int) wa_nil))))))))) (pg_name (i := 1) nd rfl (by first | exact Or.inl rfl | exact Or.inr rfl)) (tg_name 1) (ws_one (ws_if (wt_not (wt_val (we_call F_l_good hr (by rfl) (wa_cons (we_var 1 (pv 1)) wa_nil)))) (ws_one (ws_ret we_bl)) ws_nil)))
    (ws_cons (ws_for PassesOwn.never rfl (wi_seq (we_bin o_cat (we_lst (wa_cons we_int (wa_cons we_int wa_nil))) (we_slice (we_var 0 (pv 0)) wo_none (wo_some we_int)))) (pg_name (i := 2) nd rfl (by first | exact Or.inl rfl | exact Or.inr rfl)) (tg_name 2) (ws_cons (ws_set (i := 3) nd rfl (by first | exact Or.inl rfl | exact Or.inr rfl) (we_call F_l_purse hr (by rfl) (wa_cons (we_var 2 (pv 2)) wa_nil)))
    (ws_cons (ws_set (i := 1) nd rfl (by first | exact Or.inl rfl | exact Or.inr rfl) (we_call F_l_written hr (by rfl) (wa_cons we_int (wa_cons (we_call F_l_thing hr (by rfl) (wa_cons we_int (wa_cons (we_var 3 (pv 3)) (wa_cons we_int wa_nil)))) wa_nil))))
    (ws_one (ws_for PassesOwn.never rfl (wi_rng1 (by rfl) hb_range (wa_cons we_int wa_nil)) (pg_name (i := 4) nd rfl (by first | exact Or.inl rfl | exact Or.inr rfl)) (tg_name 4) (ws_cons (ws_if (wt_not (wt_val (we_call F_l_good hr (by rfl) (wa_cons (we_var 1 (pv 1)) wa_nil)))) (ws_one (ws_ret we_bl)) ws_nil)
    (ws_one (ws_set (i := 1) nd rfl (by first | exact Or.inl rfl | exact Or.inr rfl) (we_call F_l_bent_text hr (by rfl) (wa_cons (we_var 1 (pv 1)) (wa_cons (we_var 3 (pv 3)) wa_nil)))))))))))
    (ws_one (ws_ret we_bl))))
theorem all_mk {l : PySem.W.OpenLaw} {w : World} {K : PySem.W.Frag} {h : Heap} {mg : Str → Option Value} {fa : Addr} (X : K.In h) (G : h.Ns mainGlobals mg) (hfa : mg "law" = some (.ref fa))
    {fL : Addr} {odL anL : Option Addr} {slL : Array (Option Value)} {ocL kVL dcL pmL cdL ctL : Value}
    (aL : PySem.W.nsIn K mainGlobals "law" = some (some (.ref fL))) (lL : K.lookup fL = some ⟨ocL, odL, .func (PySem.W.fnOf "law" "law" (defArgs st_law) (defBody st_law) (defScope st_law) .none kVL dcL pmL anL cdL ctL), slL⟩) (cL : PySem.W.codeIn K cdL "law" = true) (kL : PySem.W.keepIn K (.ref fL) = true)
    {A_NoText A_NoJoint A_TooMany A_NoHanger A_NoTurn A_NoMark A_NoName A_NoDeed A_NoReach A_NoKept A_NoLine A_TurnError : Addr}
    (a_NoText : PySem.W.nsIn K mainGlobals (PySem.Str.ofString "NoText") = some (some (.ref A_NoText)))
    (p_NoText : PySem.W.isClsIn K A_NoText = true)
    (t_NoText : PySem.W.typeIn K (.ref A_NoText) = some (.type "type"))
    (a_NoJoint : PySem.W.nsIn K mainGlobals (PySem.Str.ofString "NoJoint") = some (some (.ref A_NoJoint)))
    (p_NoJoint : PySem.W.isClsIn K A_NoJoint = true)
    (t_NoJoint : PySem.W.typeIn K (.ref A_NoJoint) = some (.type "type"))
    (a_TooMany : PySem.W.nsIn K mainGlobals (PySem.Str.ofString "TooMany") = some (some (.ref A_TooMany)))
    (p_TooMany : PySem.W.isClsIn K A_TooMany = true)
    (t_TooMany : PySem.W.typeIn K (.ref A_TooMany) = some (.type "type"))
    (a_NoHanger : PySem.W.nsIn K mainGlobals (PySem.Str.ofString "NoHanger") = some (some (.ref A_NoHanger)))
    (p_NoHanger : PySem.W.isClsIn K A_NoHanger = true)
    (t_NoHanger : PySem.W.typeIn K (.ref A_NoHanger) = some (.type "type"))
    (a_NoTurn : PySem.W.nsIn K mainGlobals (PySem.Str.ofString "NoTurn") = some (some (.ref A_NoTurn)))
    (p_NoTurn : PySem.W.isClsIn K A_NoTurn = true)
    (t_NoTurn : PySem.W.typeIn K (.ref A_NoTurn) = some (.type "type"))
    (a_NoMark : PySem.W.nsIn K mainGlobals (PySem.Str.ofString "NoMark") = some (some (.ref A_NoMark)))
    (p_NoMark : PySem.W.isClsIn K A_NoMark = true)
    (t_NoMark : PySem.W.typeIn K (.ref A_NoMark) = some (.type "type"))
    (a_NoName : PySem.W.nsIn K mainGlobals (PySem.Str.ofString "NoName") = some (some (.ref A_NoName)))
    (p_NoName : PySem.W.isClsIn K A_NoName = true)
    (t_NoName : PySem.W.typeIn K (.ref A_NoName) = some (.type "type"))
    (a_NoDeed : PySem.W.nsIn K mainGlobals (PySem.Str.ofString "NoDeed") = some (some (.ref A_NoDeed)))
    (p_NoDeed : PySem.W.isClsIn K A_NoDeed = true)
    (t_NoDeed : PySem.W.typeIn K (.ref A_NoDeed) = some (.type "type"))
    (a_NoReach : PySem.W.nsIn K mainGlobals (PySem.Str.ofString "NoReach") = some (some (.ref A_NoReach)))
    (p_NoReach : PySem.W.isClsIn K A_NoReach = true)
    (t_NoReach : PySem.W.typeIn K (.ref A_NoReach) = some (.type "type"))
    (a_NoKept : PySem.W.nsIn K mainGlobals (PySem.Str.ofString "NoKept") = some (some (.ref A_NoKept)))
    (p_NoKept : PySem.W.isClsIn K A_NoKept = true)
    (t_NoKept : PySem.W.typeIn K (.ref A_NoKept) = some (.type "type"))
    (a_NoLine : PySem.W.nsIn K mainGlobals (PySem.Str.ofString "NoLine") = some (some (.ref A_NoLine)))
    (p_NoLine : PySem.W.isClsIn K A_NoLine = true)
    (t_NoLine : PySem.W.typeIn K (.ref A_NoLine) = some (.type "type"))
    (a_TurnError : PySem.W.nsIn K mainGlobals (PySem.Str.ofString "TurnError") = some (some (.ref A_TurnError)))
    (p_TurnError : PySem.W.isClsIn K A_TurnError = true)
    (t_TurnError : PySem.W.typeIn K (.ref A_TurnError) = some (.type "type"))
    (k_NoText : PySem.W.keepIn K (.ref A_NoText) = true)
    (x_NoText : PySem.W.excIn K A_NoText veMro "ValueError.__new__" = true)
    (b_NoText : PySem.W.subIn K (.ref A_NoText) (.type "BaseException") = some true)
    (e_NoText : ExcC K A_NoText)
    (v_NoText : PySem.W.subIn K (.ref A_NoText) (.type "ValueError") = some true)
    (s_NoText_NoText : PySem.W.subIn K (.ref A_NoText) (.ref A_NoText) = some true)
    (s_NoText_NoJoint : PySem.W.subIn K (.ref A_NoText) (.ref A_NoJoint) = some false)
    (s_NoText_TooMany : PySem.W.subIn K (.ref A_NoText) (.ref A_TooMany) = some false)
    (s_NoText_NoHanger : PySem.W.subIn K (.ref A_NoText) (.ref A_NoHanger) = some false)
    (s_NoText_NoTurn : PySem.W.subIn K (.ref A_NoText) (.ref A_NoTurn) = some false)
    (s_NoText_NoMark : PySem.W.subIn K (.ref A_NoText) (.ref A_NoMark) = some false)
    (s_NoText_NoName : PySem.W.subIn K (.ref A_NoText) (.ref A_NoName) = some false)
    (s_NoText_NoDeed : PySem.W.subIn K (.ref A_NoText) (.ref A_NoDeed) = some false)
    (s_NoText_NoReach : PySem.W.subIn K (.ref A_NoText) (.ref A_NoReach) = some false)
    (s_NoText_NoKept : PySem.W.subIn K (.ref A_NoText) (.ref A_NoKept) = some false)
    (s_NoText_NoLine : PySem.W.subIn K (.ref A_NoText) (.ref A_NoLine) = some false)
    (s_NoText_TurnError : PySem.W.subIn K (.ref A_NoText) (.ref A_TurnError) = some true)
    (y_TurnError : PySem.W.subIn K (.ref A_TurnError) (.type "BaseException") = some true)
    (d_divisor : DefAt K mg "divisor" st_divisor ["one", "other"])
    (d_must : DefAt K mg "must" st_must ["fine"])
    (d_read_whole : DefAt K mg "read_whole" st_read_whole ["text"])
    (d_read_number : DefAt K mg "read_number" st_read_number ["text"])
    (d_l_purse : DefAt K mg "_law_purse" st_l_purse ["_law_cell"])
    (d_l_take : DefAt K mg "_law_take" st_l_take ["_law_purse_here", "_law_many"])
    (d_l_number : DefAt K mg "_law_number" st_l_number ["_law_purse_here", "_law_kind"])
    (d_l_divisor : DefAt K mg "_law_divisor" st_l_divisor ["_law_one", "_law_other"])
    (d_l_lowest : DefAt K mg "_law_lowest" st_l_lowest ["_law_top", "_law_bottom"])
    (d_l_whole : DefAt K mg "_law_whole" st_l_whole ["_law_found"])
    (d_l_same : DefAt K mg "_law_same" st_l_same ["_law_found", "_law_due"])
    (d_l_thing : DefAt K mg "_law_thing" st_l_thing ["_law_kind", "_law_purse_here", "_law_most"])
    (d_l_written : DefAt K mg "_law_written" st_l_written ["_law_kind", "_law_thing_here"])
    (d_l_whole_of : DefAt K mg "_law_whole_of" st_l_whole_of ["_law_text"])
    (d_l_fraction_of : DefAt K mg "_law_fraction_of" st_l_fraction_of ["_law_text"])
    (d_l_which : DefAt K mg "_law_which" st_l_which ["_law_e"])
    (d_l_bent_text : DefAt K mg "_law_bent_text" st_l_bent_text ["_law_text", "_law_purse_here"])
    (d_l_told : DefAt K mg "_law_told" st_l_told ["_law_text"])
    (d_l_good : DefAt K mg "_law_good" st_l_good ["_law_text"])
    (d_l_odd : DefAt K mg "_law_odd" st_l_odd [])
    (hb_ValueError : mg "ValueError" = none)
    (hb_abs : mg "abs" = none)
    (hb_bool : mg "bool" = none)
    (hb_int : mg "int" = none)
    (hb_isinstance : mg "isinstance" = none)
    (hb_len : mg "len" = none)
    (hb_list : mg "list" = none)
    (hb_range : mg "range" = none)
    (hb_str : mg "str" = none)
    (hb_tuple : mg "tuple" = none)
    (hc_FIGURES : ConAt K mg "FIGURES" (.str (PySem.Str.ofString "0123456789")))
    (hc_MOST_FIGURES : ConAt K mg "MOST_FIGURES" (.int 1500))
    : ∃ fd : FuncData, (∀ (s : Shared) (v : Value), BindsTo s fd ⟨[v], []⟩ [("_law_script", v)]) ∧ ∀ base : Heap, K.In base → base.Ns mainGlobals mg → base.NoDigits → FnOk l.prog w K mg base CX0 8 fa fd ["_law_script"] (liftSp K 1 sp_law) := by
  have e := hfa.symm.trans (PySem.W.mg_of X G aL)
  cases e
  have FL := fun_mk (st := st_law) lL cL kL
  have hI_NoDeed : XI K mg [PySem.Str.ofString "NoText"] (PySem.Str.ofString "NoDeed") := ⟨A_NoDeed, PySem.W.mg_of X G a_NoDeed, (List.forall_mem_cons.mpr ⟨⟨A_NoText, a_NoText, e_NoText, ((kit_own p_NoDeed t_NoDeed s_NoText_NoText s_NoText_NoDeed).trans (by decide +kernel))⟩, (fun _ h => by cases h)⟩)⟩
  have hI_NoHanger : XI K mg [PySem.Str.ofString "NoText"] (PySem.Str.ofString "NoHanger") := ⟨A_NoHanger, PySem.W.mg_of X G a_NoHanger, (List.forall_mem_cons.mpr ⟨⟨A_NoText, a_NoText, e_NoText, ((kit_own p_NoHanger t_NoHanger s_NoText_NoText s_NoText_NoHanger).trans (by decide +kernel))⟩, (fun _ h => by cases h)⟩)⟩
  have hI_NoJoint : XI K mg [PySem.Str.ofString "NoText"] (PySem.Str.ofString "NoJoint") := ⟨A_NoJoint, PySem.W.mg_of X G a_NoJoint, (List.forall_mem_cons.mpr ⟨⟨A_NoText, a_NoText, e_NoText, ((kit_own p_NoJoint t_NoJoint s_NoText_NoText s_NoText_NoJoint).trans (by decide +kernel))⟩, (fun _ h => by cases h)⟩)⟩
  have hI_NoKept : XI K mg [PySem.Str.ofString "NoText"] (PySem.Str.ofString "NoKept") := ⟨A_NoKept, PySem.W.mg_of X G a_NoKept, (List.forall_mem_cons.mpr ⟨⟨A_NoText, a_NoText, e_NoText, ((kit_own p_NoKept t_NoKept s_NoText_NoText s_NoText_NoKept).trans (by decide +kernel))⟩, (fun _ h => by cases h)⟩)⟩
  have hI_NoLine : XI K mg [PySem.Str.ofString "NoText"] (PySem.Str.ofString "NoLine") := ⟨A_NoLine, PySem.W.mg_of X G a_NoLine, (List.forall_mem_cons.mpr ⟨⟨A_NoText, a_NoText, e_NoText, ((kit_own p_NoLine t_NoLine s_NoText_NoText s_NoText_NoLine).trans (by decide +kernel))⟩, (fun _ h => by cases h)⟩)⟩
  have hI_NoMark : XI K mg [PySem.Str.ofString "NoText"] (PySem.Str.ofString "NoMark") := ⟨A_NoMark, PySem.W.mg_of X G a_NoMark, (List.forall_mem_cons.mpr ⟨⟨A_NoText, a_NoText, e_NoText, ((kit_own p_NoMark t_NoMark s_NoText_NoText s_NoText_NoMark).trans (by decide +kernel))⟩, (fun _ h => by cases h)⟩)⟩
  have hI_NoName : XI K mg [PySem.Str.ofString "NoText"] (PySem.Str.ofString "NoName") := ⟨A_NoName, PySem.W.mg_of X G a_NoName, (List.forall_mem_cons.mpr ⟨⟨A_NoText, a_NoText, e_NoText, ((kit_own p_NoName t_NoName s_NoText_NoText s_NoText_NoName).trans (by decide +kernel))⟩, (fun _ h => by cases h)⟩)⟩
  have hI_NoReach : XI K mg [PySem.Str.ofString "NoText"] (PySem.Str.ofString "NoReach") := ⟨A_NoReach, PySem.W.mg_of X G a_NoReach, (List.forall_mem_cons.mpr ⟨⟨A_NoText, a_NoText, e_NoText, ((kit_own p_NoReach t_NoReach s_NoText_NoText s_NoText_NoReach).trans (by decide +kernel))⟩, (fun _ h => by cases h)⟩)⟩
  have hI_NoText : XI K mg [PySem.Str.ofString "NoText"] (PySem.Str.ofString "NoText") := ⟨A_NoText, PySem.W.mg_of X G a_NoText, (List.forall_mem_cons.mpr ⟨⟨A_NoText, a_NoText, e_NoText, ((kit_own p_NoText t_NoText s_NoText_NoText s_NoText_NoText).trans (by decide +kernel))⟩, (fun _ h => by cases h)⟩)⟩
  have hI_NoTurn : XI K mg [PySem.Str.ofString "NoText"] (PySem.Str.ofString "NoTurn") := ⟨A_NoTurn, PySem.W.mg_of X G a_NoTurn, (List.forall_mem_cons.mpr ⟨⟨A_NoText, a_NoText, e_NoText, ((kit_own p_NoTurn t_NoTurn s_NoText_NoText s_NoText_NoTurn).trans (by decide +kernel))⟩, (fun _ h => by cases h)⟩)⟩
  have hI_TooMany : XI K mg [PySem.Str.ofString "NoText"] (PySem.Str.ofString "TooMany") := ⟨A_TooMany, PySem.W.mg_of X G a_TooMany, (List.forall_mem_cons.mpr ⟨⟨A_NoText, a_NoText, e_NoText, ((kit_own p_TooMany t_TooMany s_NoText_NoText s_NoText_TooMany).trans (by decide +kernel))⟩, (fun _ h => by cases h)⟩)⟩
  have hI_TurnError : XI K mg [PySem.Str.ofString "NoText"] (PySem.Str.ofString "TurnError") := ⟨A_TurnError, PySem.W.mg_of X G a_TurnError, (List.forall_mem_cons.mpr ⟨⟨A_NoText, a_NoText, e_NoText, ((kit_own p_TurnError t_TurnError s_NoText_NoText s_NoText_TurnError).trans (by decide +kernel))⟩, (fun _ h => by cases h)⟩)⟩
  have hX_cat_TurnError : XC K mg [PySem.Str.ofString "NoText"] (PySem.Str.ofString "TurnError") := ⟨A_TurnError, PySem.W.mg_of X G a_TurnError, (List.forall_mem_cons.mpr ⟨⟨A_NoText, a_NoText, exm_own y_TurnError p_TurnError t_TurnError s_NoText_TurnError⟩, (fun _ h => by cases h)⟩)⟩
  have hX_cls_NoText : ClsX K mg (PySem.Str.ofString "NoText") := ⟨A_NoText, a_NoText, PySem.W.mg_of X G a_NoText, k_NoText, x_NoText, b_NoText, t_NoText, e_NoText⟩
  have hX_v : XV K [PySem.Str.ofString "NoText"] := ⟨(List.forall_mem_cons.mpr ⟨⟨A_NoText, a_NoText, e_NoText, kit_ve v_NoText⟩, (fun _ h => by cases h)⟩)⟩
  refine ⟨PySem.W.fnOf "law" "law" (defArgs st_law) (defBody st_law) (defScope st_law) .none kVL dcL pmL anL cdL ctL, fun s v => .of_eq rfl, fun base _ _ nodig => ?_⟩
  have F_divisor : FnZ l.prog w K mg base 1 "divisor" 2 sp_divisor := d_divisor.fn sc_divisor (fun f => tm_divisor (f := f) hb_abs) rd_divisor
  have F_must : FnW l.prog w K mg base 1 "must" 1 sp_must := d_must.fnwC sc_must (fun f => tm_must (f := f) hX_cls_NoText) rd_must
  have F_l_purse : FnZ l.prog w K mg base 1 "_law_purse" 1 sp_l_purse := d_l_purse.fn sc_l_purse (fun f => tm_l_purse (f := f) hb_range) rd_l_purse
  have F_l_take : FnZ l.prog w K mg base 1 "_law_take" 2 sp_l_take := d_l_take.fn sc_l_take (fun f => tm_l_take (f := f) hb_int) rd_l_take
  have F_l_divisor : FnZ l.prog w K mg base 1 "_law_divisor" 2 sp_l_divisor := d_l_divisor.fn sc_l_divisor (fun f => tm_l_divisor (f := f) hb_abs) rd_l_divisor
  have F_l_whole : FnZ l.prog w K mg base 1 "_law_whole" 1 sp_l_whole := d_l_whole.fn sc_l_whole (fun f => tm_l_whole (f := f) hb_isinstance hb_int hb_bool) rd_l_whole
  have F_l_whole_of : FnZ l.prog w K mg base 1 "_law_whole_of" 1 sp_l_whole_of := d_l_whole_of.fn sc_l_whole_of (fun f => tm_l_whole_of (f := f) nodig hb_int hb_len) rd_l_whole_of
  have F_l_which : FnZ l.prog w K mg base 1 "_law_which" 1 sp_l_which := d_l_which.fn sc_l_which (fun f => tm_l_which (f := f) hI_NoJoint hI_TooMany hI_NoHanger hI_NoTurn hI_NoMark hI_NoName hI_NoDeed hI_NoReach hI_NoKept hI_NoLine hI_NoText hI_TurnError hX_v hb_isinstance hb_ValueError hb_range) rd_l_which
  have F_l_odd : FnZ l.prog w K mg base 1 "_law_odd" 0 sp_l_odd := d_l_odd.fn sc_l_odd (fun f => tm_l_odd (f := f)) rd_l_odd
  have F_read_whole : FnW l.prog w K mg base 2 "read_whole" 1 sp_read_whole := d_read_whole.fnwC sc_read_whole (fun f => tm_read_whole (f := f) nodig (F_must.mono (by decide)) hb_len hb_int hc_MOST_FIGURES hc_FIGURES) rd_read_whole
  have F_l_number : FnZ l.prog w K mg base 2 "_law_number" 2 sp_l_number := d_l_number.fn sc_l_number (fun f => tm_l_number (f := f) (F_l_take.mono (by decide))) rd_l_number
  have F_l_lowest : FnZ l.prog w K mg base 2 "_law_lowest" 2 sp_l_lowest := d_l_lowest.fn sc_l_lowest (fun f => tm_l_lowest (f := f) (F_l_divisor.mono (by decide))) rd_l_lowest
  have F_l_fraction_of : FnZ l.prog w K mg base 2 "_law_fraction_of" 1 sp_l_fraction_of := d_l_fraction_of.fn sc_l_fraction_of (fun f => tm_l_fraction_of (f := f) (F_l_whole_of.mono (by decide)) (F_l_divisor.mono (by decide)) hb_len hb_tuple) rd_l_fraction_of
  have F_l_bent_text : FnZ l.prog w K mg base 2 "_law_bent_text" 2 sp_l_bent_text := d_l_bent_text.fnT sc_l_bent_text (by decide +kernel) (by decide) (fun f => tm_l_bent_text (f := f) (F_l_take.mono (by decide)) hb_len) rd_l_bent_text
  have F_read_number : FnW l.prog w K mg base 3 "read_number" 1 sp_read_number := d_read_number.fnwC sc_read_number (fun f => tm_read_number (f := f) (F_read_whole.mono (by decide)) (F_must.mono (by decide)) (F_divisor.mono (by decide))) rd_read_number
  have F_l_told : FnW l.prog w K mg base 4 "_law_told" 1 sp_l_told := d_l_told.fnw sc_l_told (fun f => tm_l_told (f := f) (F_read_number.mono (by decide)) hX_cat_TurnError) rd_l_told
  have F_l_written_0 : FnZ l.prog w K mg base 1 "_law_written" 2 (sp_l_written_n 0) := d_l_written.fn sc_l_written (k := 0) (fun f cdv A outer s H E hr => wss_never) (fun rs S W _ h => (no_l_written rs S W h).elim)
  have F_l_written_1 : FnZ l.prog w K mg base 2 "_law_written" 2 (sp_l_written_n 1) := d_l_written.fn sc_l_written (fun f => tm_l_written (f := f) (kk := 1) F_l_written_0 nodig hb_str hb_int) (rd_l_written 0)
  have F_l_written_2 : FnZ l.prog w K mg base 3 "_law_written" 2 (sp_l_written_n 2) := d_l_written.fn sc_l_written (fun f => tm_l_written (f := f) (kk := 2) F_l_written_1 nodig hb_str hb_int) (rd_l_written 1)
  have F_l_written_3 : FnZ l.prog w K mg base 4 "_law_written" 2 (sp_l_written_n 3) := d_l_written.fn sc_l_written (fun f => tm_l_written (f := f) (kk := 3) F_l_written_2 nodig hb_str hb_int) (rd_l_written 2)
  have F_l_written_4 : FnZ l.prog w K mg base 5 "_law_written" 2 (sp_l_written_n 4) := d_l_written.fn sc_l_written (fun f => tm_l_written (f := f) (kk := 4) F_l_written_3 nodig hb_str hb_int) (rd_l_written 3)
  have F_l_written : FnZ l.prog w K mg base 5 "_law_written" 2 sp_l_written := F_l_written_4
  have F_l_same_0 : FnZ l.prog w K mg base 2 "_law_same" 2 (sp_l_same_n 0) := d_l_same.fn sc_l_same (k := 1) (fun f cdv A outer s H E hr => wss_never) (fun rs S W _ h => (no_l_same rs S W h).elim)
  have F_l_same_1 : FnZ l.prog w K mg base 3 "_law_same" 2 (sp_l_same_n 1) := d_l_same.fn sc_l_same (fun f => tm_l_same (f := f) (kk := 2) F_l_same_0 (F_l_whole.mono (by decide)) hb_isinstance hb_tuple hb_list hb_len hb_range hb_str) (rd_l_same 0)
  have F_l_same_2 : FnZ l.prog w K mg base 4 "_law_same" 2 (sp_l_same_n 2) := d_l_same.fn sc_l_same (fun f => tm_l_same (f := f) (kk := 3) F_l_same_1 (F_l_whole.mono (by decide)) hb_isinstance hb_tuple hb_list hb_len hb_range hb_str) (rd_l_same 1)
  have F_l_same_3 : FnZ l.prog w K mg base 5 "_law_same" 2 (sp_l_same_n 3) := d_l_same.fn sc_l_same (fun f => tm_l_same (f := f) (kk := 4) F_l_same_2 (F_l_whole.mono (by decide)) hb_isinstance hb_tuple hb_list hb_len hb_range hb_str) (rd_l_same 2)
  have F_l_same_4 : FnZ l.prog w K mg base 6 "_law_same" 2 (sp_l_same_n 4) := d_l_same.fn sc_l_same (fun f => tm_l_same (f := f) (kk := 5) F_l_same_3 (F_l_whole.mono (by decide)) hb_isinstance hb_tuple hb_list hb_len hb_range hb_str) (rd_l_same 3)
  have F_l_same : FnZ l.prog w K mg base 6 "_law_same" 2 sp_l_same := F_l_same_4
  have F_l_thing_0 : FnZ l.prog w K mg base 3 "_law_thing" 3 (sp_l_thing_n 0) := d_l_thing.fn sc_l_thing (k := 2) (fun f cdv A outer s H E hr => wss_never) (fun rs S W _ h => (no_l_thing rs S W h).elim)
  have F_l_thing_1 : FnZ l.prog w K mg base 4 "_law_thing" 3 (sp_l_thing_n 1) := d_l_thing.fn sc_l_thing (fun f => tm_l_thing (f := f) (kk := 3) F_l_thing_0 (F_l_number.mono (by decide)) (F_l_take.mono (by decide)) (F_l_lowest.mono (by decide)) hb_range hb_tuple hb_len) (rd_l_thing 0)
  have F_l_thing_2 : FnZ l.prog w K mg base 5 "_law_thing" 3 (sp_l_thing_n 2) := d_l_thing.fn sc_l_thing (fun f => tm_l_thing (f := f) (kk := 4) F_l_thing_1 (F_l_number.mono (by decide)) (F_l_take.mono (by decide)) (F_l_lowest.mono (by decide)) hb_range hb_tuple hb_len) (rd_l_thing 1)
  have F_l_thing_3 : FnZ l.prog w K mg base 6 "_law_thing" 3 (sp_l_thing_n 3) := d_l_thing.fn sc_l_thing (fun f => tm_l_thing (f := f) (kk := 5) F_l_thing_2 (F_l_number.mono (by decide)) (F_l_take.mono (by decide)) (F_l_lowest.mono (by decide)) hb_range hb_tuple hb_len) (rd_l_thing 2)
  have F_l_thing_4 : FnZ l.prog w K mg base 7 "_law_thing" 3 (sp_l_thing_n 4) := d_l_thing.fn sc_l_thing (fun f => tm_l_thing (f := f) (kk := 6) F_l_thing_3 (F_l_number.mono (by decide)) (F_l_take.mono (by decide)) (F_l_lowest.mono (by decide)) hb_range hb_tuple hb_len) (rd_l_thing 3)
  have F_l_thing : FnZ l.prog w K mg base 7 "_law_thing" 3 sp_l_thing := F_l_thing_4
  have F_l_good : FnZ l.prog w K mg base 7 "_law_good" 1 sp_l_good := d_l_good.fn sc_l_good (fun f => tm_l_good (f := f) (F_l_fraction_of.mono (by decide)) (F_l_told.mono (by decide)) (F_l_which.mono (by decide)) (F_l_same.mono (by decide))) rd_l_good
  exact fn_ok FL sc_law (tm_law (F_l_odd.mono (by decide)) (F_l_good.mono (by decide)) (F_l_purse.mono (by decide)) (F_l_written.mono (by decide)) (F_l_thing.mono (by decide)) (F_l_bent_text.mono (by decide)) hb_range) rd_law
end Z
open PySem PySem.W PyProof.Rows
set_option maxHeartbeats 0 in
theorem PySem.Challenge.cw_hangrings_k46_numbers_read_holds : PySem.Challenge.rw_hangrings_k46_numbers_read.Holds := by
  w_on; o_law; k_head; (case hw => w_witness2)
  k_fill
  refine Z.walk_ofD (l := PySem.Challenge.rw_hangrings_k46_numbers_read) (n := 63) (k := 8) (x := "_law_script") (CX := fun _ => L2.CX0) (sp := fun w => Z.liftSp _ 1 Z.sp_law) rfl (by decide) rfl ⟨rfl, by decide, by decide⟩ (fun w h Y => PySem.W.kIn_of Y) ?F (fun _ _ a ns hl hb hO hS => Z.law_start hl hb hO hS) (fun _ _ _ _ _ h => h)
  case F =>
    intro w mg fa h KX G hmg
    refine' Z.all_mk KX G hmg ?aL ?lL ?cL ?kL ?a_NoText ?p_NoText ?t_NoText ?a_NoJoint ?p_NoJoint ?t_NoJoint ?a_TooMany ?p_TooMany ?t_TooMany ?a_NoHanger ?p_NoHanger ?t_NoHanger ?a_NoTurn ?p_NoTurn ?t_NoTurn ?a_NoMark ?p_NoMark ?t_NoMark ?a_NoName ?p_NoName ?t_NoName ?a_NoDeed ?p_NoDeed ?t_NoDeed ?a_NoReach ?p_NoReach ?t_NoReach ?a_NoKept ?p_NoKept ?t_NoKept ?a_NoLine ?p_NoLine ?t_NoLine ?a_TurnError ?p_TurnError ?t_TurnError ?k_NoText ?x_NoText ?b_NoText ?e_NoText ?v_NoText ?s_NoText_NoText ?s_NoText_NoJoint ?s_NoText_TooMany ?s_NoText_NoHanger ?s_NoText_NoTurn ?s_NoText_NoMark ?s_NoText_NoName ?s_NoText_NoDeed ?s_NoText_NoReach ?s_NoText_NoKept ?s_NoText_NoLine ?s_NoText_TurnError ?y_TurnError ?d_divisor ?d_must ?d_read_whole ?d_read_number ?d_l_purse ?d_l_take ?d_l_number ?d_l_divisor ?d_l_lowest ?d_l_whole ?d_l_same ?d_l_thing ?d_l_written ?d_l_whole_of ?d_l_fraction_of ?d_l_which ?d_l_bent_text ?d_l_told ?d_l_good ?d_l_odd ?hb_ValueError ?hb_abs ?hb_bool ?hb_int ?hb_isinstance ?hb_len ?hb_list ?hb_range ?hb_str ?hb_tuple ?hc_FIGURES ?hc_MOST_FIGURES
    (case aL => k_is)
    (case lL => k_is)
    (case cL => k_is)
    (case kL => k_is)
    (case a_NoText => k_is)
    (case p_NoText => k_is)
    (case t_NoText => k_is)
    (case a_NoJoint => k_is)
    (case p_NoJoint => k_is)
    (case t_NoJoint => k_is)
    (case a_TooMany => k_is)
    (case p_TooMany => k_is)
    (case t_TooMany => k_is)
    (case a_NoHanger => k_is)
    (case p_NoHanger => k_is)
    (case t_NoHanger => k_is)
    (case a_NoTurn => k_is)
    (case p_NoTurn => k_is)
    (case t_NoTurn => k_is)
    (case a_NoMark => k_is)
    (case p_NoMark => k_is)
    (case t_NoMark => k_is)
    (case a_NoName => k_is)
    (case p_NoName => k_is)
    (case t_NoName => k_is)
    (case a_NoDeed => k_is)
    (case p_NoDeed => k_is)
    (case t_NoDeed => k_is)
    (case a_NoReach => k_is)
    (case p_NoReach => k_is)
    (case t_NoReach => k_is)
    (case a_NoKept => k_is)
    (case p_NoKept => k_is)
    (case t_NoKept => k_is)
    (case a_NoLine => k_is)
    (case p_NoLine => k_is)
    (case t_NoLine => k_is)
    (case a_TurnError => k_is)
    (case p_TurnError => k_is)
    (case t_TurnError => k_is)
    (case k_NoText => k_is)
    (case x_NoText => k_exc)
    (case b_NoText => k_is)
    (case e_NoText => exact ⟨by k_is, by k_is, by k_is, by k_is, by k_is, by k_is, by k_is, by k_is⟩)
    (case v_NoText => k_is)
    (case s_NoText_NoText => first | rfl | k_is)
    (case s_NoText_NoJoint => first | rfl | k_is)
    (case s_NoText_TooMany => first | rfl | k_is)
    (case s_NoText_NoHanger => first | rfl | k_is)
    (case s_NoText_NoTurn => first | rfl | k_is)
    (case s_NoText_NoMark => first | rfl | k_is)
    (case s_NoText_NoName => first | rfl | k_is)
    (case s_NoText_NoDeed => first | rfl | k_is)
    (case s_NoText_NoReach => first | rfl | k_is)
    (case s_NoText_NoKept => first | rfl | k_is)
    (case s_NoText_NoLine => first | rfl | k_is)
    (case s_NoText_TurnError => first | rfl | k_is)
    (case y_TurnError => k_is)
    (case d_divisor => refine' Z.DefAt.mk' KX G ?a ?l ?c ?k (fun _ _ _ _ _ _ us hl => match us, hl with | [_, _], _ => rfl); (case a => k_is); (case l => k_is); (case c => k_is); (case k => k_is))
    (case d_must => refine' Z.DefAt.mk' KX G ?a ?l ?c ?k (fun _ _ _ _ _ _ us hl => match us, hl with | [_], _ => rfl); (case a => k_is); (case l => k_is); (case c => k_is); (case k => k_is))
    (case d_read_whole => refine' Z.DefAt.mk' KX G ?a ?l ?c ?k (fun _ _ _ _ _ _ us hl => match us, hl with | [_], _ => rfl); (case a => k_is); (case l => k_is); (case c => k_is); (case k => k_is))
    (case d_read_number => refine' Z.DefAt.mk' KX G ?a ?l ?c ?k (fun _ _ _ _ _ _ us hl => match us, hl with | [_], _ => rfl); (case a => k_is); (case l => k_is); (case c => k_is); (case k => k_is))
    (case d_l_purse => refine' Z.DefAt.mk' KX G ?a ?l ?c ?k (fun _ _ _ _ _ _ us hl => match us, hl with | [_], _ => rfl); (case a => k_is); (case l => k_is); (case c => k_is); (case k => k_is))
    (case d_l_take => refine' Z.DefAt.mk' KX G ?a ?l ?c ?k (fun _ _ _ _ _ _ us hl => match us, hl with | [_, _], _ => rfl); (case a => k_is); (case l => k_is); (case c => k_is); (case k => k_is))
    (case d_l_number => refine' Z.DefAt.mk' KX G ?a ?l ?c ?k (fun _ _ _ _ _ _ us hl => match us, hl with | [_, _], _ => rfl); (case a => k_is); (case l => k_is); (case c => k_is); (case k => k_is))
    (case d_l_divisor => refine' Z.DefAt.mk' KX G ?a ?l ?c ?k (fun _ _ _ _ _ _ us hl => match us, hl with | [_, _], _ => rfl); (case a => k_is); (case l => k_is); (case c => k_is); (case k => k_is))
    (case d_l_lowest => refine' Z.DefAt.mk' KX G ?a ?l ?c ?k (fun _ _ _ _ _ _ us hl => match us, hl with | [_, _], _ => rfl); (case a => k_is); (case l => k_is); (case c => k_is); (case k => k_is))
    (case d_l_whole => refine' Z.DefAt.mk' KX G ?a ?l ?c ?k (fun _ _ _ _ _ _ us hl => match us, hl with | [_], _ => rfl); (case a => k_is); (case l => k_is); (case c => k_is); (case k => k_is))
    (case d_l_same => refine' Z.DefAt.mk' KX G ?a ?l ?c ?k (fun _ _ _ _ _ _ us hl => match us, hl with | [_, _], _ => rfl); (case a => k_is); (case l => k_is); (case c => k_is); (case k => k_is))
    (case d_l_thing => refine' Z.DefAt.mk' KX G ?a ?l ?c ?k (fun _ _ _ _ _ _ us hl => match us, hl with | [_, _, _], _ => rfl); (case a => k_is); (case l => k_is); (case c => k_is); (case k => k_is))
    (case d_l_written => refine' Z.DefAt.mk' KX G ?a ?l ?c ?k (fun _ _ _ _ _ _ us hl => match us, hl with | [_, _], _ => rfl); (case a => k_is); (case l => k_is); (case c => k_is); (case k => k_is))
    (case d_l_whole_of => refine' Z.DefAt.mk' KX G ?a ?l ?c ?k (fun _ _ _ _ _ _ us hl => match us, hl with | [_], _ => rfl); (case a => k_is); (case l => k_is); (case c => k_is); (case k => k_is))
    (case d_l_fraction_of => refine' Z.DefAt.mk' KX G ?a ?l ?c ?k (fun _ _ _ _ _ _ us hl => match us, hl with | [_], _ => rfl); (case a => k_is); (case l => k_is); (case c => k_is); (case k => k_is))
    (case d_l_which => refine' Z.DefAt.mk' KX G ?a ?l ?c ?k (fun _ _ _ _ _ _ us hl => match us, hl with | [_], _ => rfl); (case a => k_is); (case l => k_is); (case c => k_is); (case k => k_is))
    (case d_l_bent_text => refine' Z.DefAt.mk' KX G ?a ?l ?c ?k (fun _ _ _ _ _ _ us hl => match us, hl with | [_, _], _ => rfl); (case a => k_is); (case l => k_is); (case c => k_is); (case k => k_is))
    (case d_l_told => refine' Z.DefAt.mk' KX G ?a ?l ?c ?k (fun _ _ _ _ _ _ us hl => match us, hl with | [_], _ => rfl); (case a => k_is); (case l => k_is); (case c => k_is); (case k => k_is))
    (case d_l_good => refine' Z.DefAt.mk' KX G ?a ?l ?c ?k (fun _ _ _ _ _ _ us hl => match us, hl with | [_], _ => rfl); (case a => k_is); (case l => k_is); (case c => k_is); (case k => k_is))
    (case d_l_odd => refine' Z.DefAt.mk' KX G ?a ?l ?c ?k (fun _ _ _ _ _ _ us hl => match us, hl with | [], _ => rfl); (case a => k_is); (case l => k_is); (case c => k_is); (case k => k_is))
    (case hb_ValueError => exact PySem.W.mg_none_of KX G (by k_is))
    (case hb_abs => exact PySem.W.mg_none_of KX G (by k_is))
    (case hb_bool => exact PySem.W.mg_none_of KX G (by k_is))
    (case hb_int => exact PySem.W.mg_none_of KX G (by k_is))
    (case hb_isinstance => exact PySem.W.mg_none_of KX G (by k_is))
    (case hb_len => exact PySem.W.mg_none_of KX G (by k_is))
    (case hb_list => exact PySem.W.mg_none_of KX G (by k_is))
    (case hb_range => exact PySem.W.mg_none_of KX G (by k_is))
    (case hb_str => exact PySem.W.mg_none_of KX G (by k_is))
    (case hb_tuple => exact PySem.W.mg_none_of KX G (by k_is))
    (case hc_FIGURES => refine' Z.ConAt.str KX G ?e; (case e => k_is))
    (case hc_MOST_FIGURES => refine' Z.ConAt.int KX G ?e; (case e => k_is))
