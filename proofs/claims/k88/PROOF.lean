import PyProof.Rows.All
import Wide.All
import OpenK.AllK
import Wide.FinOn
import HandS.ForMost
import HandS.Wide
import HandS.WideBits
import HandS.EndBits
import HandS.IsInst
import HandS.TupAny
import HandS.TupMul
import HandS.Conv
import HandS.Walk
import HandS.Zip
import HandS.Flow
import HandS.Exc
import HandS.ExcOwn
import HandS.ExcIs
import HandS.WordsExc
import KE.DataEq
import KE.KDictKeyed
import HandS.NoneIn
import HandS.Rev
import HandS.Replace
import PyProof.Draws
import PyProof.StrWalks
import HandS.Text
import KE.KDictDisplayH
import KE.SortKeyed
import KE.DataCmp
import KE.DataMinMax
import HandS.Style
import HandS.ExcValue
import HandS.TupLen
import KE.KDictCopyH
import KE.KDictSum
import HandS.SetFor
import HandS.DictTup
import PyProof.Rows.SeqGen
import HandS.ExcBuiltin
import HandS.Codes
import PyProof.StrBlock2
import HandS.More
import KE.KEqNest
import PyProof.Rows.SortKeyStr
import HandS.TryOnly
import HandS.TupSets
import PyProof.Rows.StrOr
import KE.KIntText
import HandS.ReplaceLit
import HandS.ReplaceDef
import KE.GoesComp
import KE.GoesRaise
import PySem.Challenge.RW_hangrings_k88_whole_back_and_again
set_option compiler.extract_closed false
set_option Elab.async false
set_option linter.all false
set_option maxRecDepth 100000
/-! Z1: data as trees, lists in a store by number; what it is to be represented over the hand layer's heap. -/
namespace Z
open PySem PySem.Spec PyProof.Rows L2
/-- data: never changes -/
inductive D where
  | non | bl (b : Bool) | int (i : Int) | str (x : Str) | tup (xs : List D) | lst (xs : List D)
/-- a value: data; a list of the store; a list that nobody writes; a tuple of values -/
inductive R where
  | d (x : D) | loc (n : Nat) | ro (xs : List D) | tr (xs : List R) | ex (x : Str)
  /-- a thing at a known place -/
  | ad (a : Addr)
/-- what stands in the store -/
inductive O where
  | lst (xs : List D)
  /-- a dict whose keys are tuples (of ints, None and such tuples); how often it was written -/
  | dct (ep : Nat) (kvs : List (D × D))
  /-- a dict whose keys are ints and texts -/
  | dk (kvs : List (Key × D))
  /-- a list at a known place, of any values -/
  | la (a : Addr) (xs : List R)
  /-- a dict at a known place, of ints and texts -/
  | da (a : Addr) (kvs : List (Key × R))
  /-- an instance of an own class at a known place -/
  | ob (a : Addr) (C : Str) (fs : List (Str × R))
abbrev Rho := List (Option R)
abbrev Sto := List O
/-- a caught exception of the class at C, kept at a -/
def XO (C : Addr) (a : Addr) : HO := .ext fun h => ∃ (oe : Obj), h.get? a = some oe ∧ Zc (.ref C) none oe ∧ ∃ vs, oe.data = .fields vs
/-- the dict at a, its entries -/
def DX (a : Addr) (ep : Nat) (es : List DictEntry) : HO := .ext fun h => ∃ (o : Obj), h.get? a = some o ∧ o.ExactDict ∧ o.data = .dict es.toArray ep
mutual
/-- data as a key -/
def keyN : D → Option NestedKey
  | .non => some .none
  | .int i => some (.num i)
  | .tup xs => match keysN xs with
    | some ks => some (.tup ks)
    | none => none
  | _ => none
def keysN : List D → Option (List NestedKey)
  | [] => some []
  | x :: xs => match keyN x, keysN xs with
    | some k, some ks => some (k :: ks)
    | _, _ => none
end
section
variable (K : PySem.W.Frag)
/-- a list that stays as it is -/
def Fz (H : Hp) (a : Addr) (vs : List V) : Prop :=
  (∃ o, H a = some (.frz o (.lst vs))) ∨
    ∃ (o : Obj) (its : Array Value) (n : Nat), K.lookup a = some o ∧ o.cls = .type "list" ∧ o.dict = none ∧ o.data = .seq its n ∧ its.size ≤ sizeLine ∧ Vals vs its.toList
mutual
def RepD (H : Hp) : D → V → Prop
  | .non, v => v = .non
  | .bl b, v => v = .bl b
  | .int i, v => v = .int i
  | .str x, v => v = .str x
  | .tup xs, v => ∃ a vs, v = .ref a ∧ SqT K H a vs ∧ RepDs H xs vs
  | .lst xs, v => ∃ a vs, v = .ref a ∧ Fz K H a vs ∧ RepDs H xs vs
def RepDs (H : Hp) : List D → List V → Prop
  | [], vs => vs = []
  | x :: xs, vs => ∃ v r, vs = v :: r ∧ RepD H x v ∧ RepDs H xs r
end
mutual
def RepR (m : List Addr) (H : Hp) : R → V → Prop
  | .d x, v => RepD K H x v
  | .loc n, v => ∃ a, m[n]? = some a ∧ v = .ref a
  | .ro xs, v => ∃ a vs, v = .ref a ∧ Fz K H a vs ∧ RepDs K H xs vs
  | .tr xs, v => ∃ a vs, v = .ref a ∧ SqT K H a vs ∧ RepRs m H xs vs
  | .ex x, v => ∃ a C, v = .ref a ∧ PySem.W.nsIn K mainGlobals x = some (some (.ref C)) ∧ H a = some (XO C a)
  | .ad a, v => v = .ref a
def RepRs (m : List Addr) (H : Hp) : List R → List V → Prop
  | [], vs => vs = []
  | x :: xs, vs => ∃ v r, vs = v :: r ∧ RepR m H x v ∧ RepRs m H xs r
end
def RepEn (H : Hp) (p : D × D) (e : DictEntry) : Prop := ∃ (b : Addr) (k : NestedKey), e.key = .ref b ∧ keyN p.1 = some k ∧ k.depth ≤ 8 ∧ (∀ w, e.hash = k.hash w) ∧ RepD K H p.1 (.ref b) ∧ ∃ v, RelV v e.val ∧ RepD K H p.2 v
def RepO (H : Hp) (a : Addr) : O → Prop
  | .lst xs => ∃ vs, H a = some (.lst vs) ∧ RepDs K H xs vs
  | .dct ep kvs => ∃ es, H a = some (DX a ep es) ∧ (a == sysModules) = false ∧ kvs.length ≤ sizeLine ∧ Paired (RepEn K H) kvs es ∧ (kvs.map fun p => keyN p.1).Nodup
  | .dk kvs => ∃ ks : List (Key × V), H a = some (.dK ks) ∧ Paired (fun (p : Key × D) (q : Key × V) => q.1 = p.1 ∧ RepD K H p.2 q.2) kvs ks
  | .la b xs => b = a ∧ ∃ vs, H a = some (.lst vs) ∧ RepRs K [] H xs vs
  | .da b kvs => b = a ∧ ∃ ks : List (Key × V), H a = some (.dK ks) ∧ Paired (fun (p : Key × R) (q : Key × V) => q.1 = p.1 ∧ RepR K [] H p.2 q.2) kvs ks
  | .ob b C fs => b = a ∧ ∃ (Ca dx : Addr) (vs : List (Str × V)), PySem.W.nsIn K mainGlobals C = some (some (.ref Ca)) ∧ H a = some (.ins Ca dx vs) ∧ Paired (fun (p : Str × R) (q : Str × V) => q.1 = p.1 ∧ RepR K [] H p.2 q.2) fs vs
structure RepS (m : List Addr) (H : Hp) (S : Sto) : Prop where
  nd : m.Nodup
  len : m.length = S.length
  at_ : ∀ (n : Nat) (o : O), S[n]? = some o → ∃ a, m[n]? = some a ∧ RepO K H a o
structure RepE (m : List Addr) (H : Hp) (r : Rho) (s : L2.St) : Prop where
  len : s.length = r.length
  at_ : ∀ (i : Nat) (x : R), r[i]? = some (some x) → ∃ v, s[i]? = some (some v) ∧ RepR K m H x v
end
structure Grow (m : List Addr) (H : Hp) (m' : List Addr) (H' : Hp) : Prop where
  pre : ∀ (n : Nat) a, m[n]? = some a → m'[n]? = some a
  tup : ∀ b xs, H b = some (.tup xs) → H' b = some (.tup xs)
  frz : ∀ b o u, H b = some (.frz o u) → H' b = some (.frz o u)
  xt : ∀ b C, H b = some (XO C b) → H' b = some (XO C b)
  frame : ∀ b o, H b = some o → b ∉ m → H' b = some o
  new : ∀ b, b ∈ m' → b ∉ m → H b = none
section
variable {K : PySem.W.Frag} {m m1 m2 : List Addr} {H H1 H2 : Hp} {S S1 : Sto} {a b p : Addr} {o : HO}
theorem Grow.refl : Grow m H m H := ⟨fun _ _ h => h, fun _ _ h => h, fun _ _ _ h => h, fun _ _ h => h, fun _ _ h _ => h, fun _ h n => absurd h n⟩
theorem mem_of_pre (h : ∀ (n : Nat) a, m[n]? = some a → m1[n]? = some a) : ∀ a, a ∈ m → a ∈ m1 := fun a ha => by
  obtain ⟨n, hn⟩ := List.getElem?_of_mem ha
  exact List.mem_of_getElem? (h n a hn)
theorem Grow.trans (g : Grow m H m1 H1) (k : Grow m1 H1 m2 H2) : Grow m H m2 H2 := by
  refine ⟨fun n a h => k.pre n a (g.pre n a h), fun b xs h => k.tup b xs (g.tup b xs h), fun b o u h => k.frz b o u (g.frz b o u h), fun b o h => k.xt b o (g.xt b o h), fun b o h hb => ?_, fun b hb hm => ?_⟩
  · refine k.frame b o (g.frame b o h hb) fun hm => ?_
    rw [g.new b hm hb] at h; cases h
  · by_cases h1 : b ∈ m1
    · exact g.new b h1 hm
    · cases e : H b with
      | none => rfl
      | some o => have q := g.frame b o e hm; rw [k.new b hb h1] at q; cases q
theorem rd_tup (g : Grow m H m1 H1) {xs : List V} (h : SqT K H a xs) : SqT K H1 a xs := by
  rcases h with (h | ⟨o, h⟩) | h
  · exact .inl (.inl (g.tup _ _ h))
  · exact .inl (.inr ⟨o, g.frz _ _ _ h⟩)
  · exact .inr h
theorem Fz.grow (g : Grow m H m1 H1) {xs : List V} (h : Fz K H a xs) : Fz K H1 a xs := by
  rcases h with ⟨o, h⟩ | h
  · exact .inl ⟨o, g.frz _ _ _ h⟩
  · exact .inr h
theorem Fz.sq {xs : List V} (h : Fz K H a xs) : SqL K H a xs := by
  rcases h with ⟨o, h⟩ | h
  · exact .inl (.inr ⟨o, h⟩)
  · exact .inr h
mutual
theorem RepD.grow (g : Grow m H m1 H1) : ∀ (x : D) (v : V), RepD K H x v → RepD K H1 x v
  | .non, _, h => h
  | .bl _, _, h => h
  | .int _, _, h => h
  | .str _, _, h => h
  | .tup xs, _, ⟨a, vs, e, h, r⟩ => ⟨a, vs, e, rd_tup g h, RepDs.grow g xs vs r⟩
  | .lst xs, _, ⟨a, vs, e, h, r⟩ => ⟨a, vs, e, h.grow g, RepDs.grow g xs vs r⟩
theorem RepDs.grow (g : Grow m H m1 H1) : ∀ (xs : List D) (vs : List V), RepDs K H xs vs → RepDs K H1 xs vs
  | [], _, h => h
  | x :: xs, _, ⟨v, r, e, h, t⟩ => ⟨v, r, e, RepD.grow g x v h, RepDs.grow g xs r t⟩
end
mutual
theorem RepR.grow (g : Grow m H m1 H1) : ∀ (x : R) (v : V), RepR K m H x v → RepR K m1 H1 x v
  | .d x, v, h => RepD.grow g x v h
  | .loc n, v, ⟨a, h, e⟩ => ⟨a, g.pre n a h, e⟩
  | .ro xs, v, ⟨a, vs, e, h, r⟩ => ⟨a, vs, e, h.grow g, RepDs.grow g xs vs r⟩
  | .tr xs, v, ⟨a, vs, e, h, r⟩ => ⟨a, vs, e, rd_tup g h, RepRs.grow g xs vs r⟩
  | .ex x, v, ⟨a, C, e, n, h⟩ => ⟨a, C, e, n, g.xt _ _ h⟩
  | .ad _, _, h => h
theorem RepRs.grow (g : Grow m H m1 H1) : ∀ (xs : List R) (vs : List V), RepRs K m H xs vs → RepRs K m1 H1 xs vs
  | [], _, h => h
  | x :: xs, _, ⟨v, r, e, h, t⟩ => ⟨v, r, e, RepR.grow g x v h, RepRs.grow g xs r t⟩
end
mutual
theorem RepR.conv (pre : ∀ (n : Nat) a, m[n]? = some a → m1[n]? = some a) (kd : ∀ x v, RepD K H x v → RepD K H1 x v) (kt : ∀ b xs, H b = some (.tup xs) → H1 b = some (.tup xs)) (kf : ∀ b o u, H b = some (.frz o u) → H1 b = some (.frz o u)) (kx : ∀ b C, H b = some (XO C b) → H1 b = some (XO C b)) : ∀ (x : R) (v : V), RepR K m H x v → RepR K m1 H1 x v
  | .d x, v, h => kd x v h
  | .loc n, v, ⟨a, h, e⟩ => ⟨a, pre n a h, e⟩
  | .ro xs, v, ⟨a, vs, e, h, r⟩ => by
    obtain ⟨a2, vs2, e2, h2, r2⟩ := kd (.lst xs) v ⟨a, vs, e, h, r⟩
    exact ⟨a2, vs2, e2, h2, r2⟩
  | .tr xs, v, ⟨a, vs, e, h, r⟩ => ⟨a, vs, e, (by
    rcases h with (h | ⟨o, h⟩) | h
    · exact .inl (.inl (kt _ _ h))
    · exact .inl (.inr ⟨o, kf _ _ _ h⟩)
    · exact .inr h), RepRs.conv pre kd kt kf kx xs vs r⟩
  | .ex x, v, ⟨a, C, e, n, h⟩ => ⟨a, C, e, n, kx _ _ h⟩
  | .ad _, _, h => h
theorem RepRs.conv (pre : ∀ (n : Nat) a, m[n]? = some a → m1[n]? = some a) (kd : ∀ x v, RepD K H x v → RepD K H1 x v) (kt : ∀ b xs, H b = some (.tup xs) → H1 b = some (.tup xs)) (kf : ∀ b o u, H b = some (.frz o u) → H1 b = some (.frz o u)) (kx : ∀ b C, H b = some (XO C b) → H1 b = some (XO C b)) : ∀ (xs : List R) (vs : List V), RepRs K m H xs vs → RepRs K m1 H1 xs vs
  | [], _, h => h
  | x :: xs, _, ⟨v, r, e, h, t⟩ => ⟨v, r, e, RepR.conv pre kd kt kf kx x v h, RepRs.conv pre kd kt kf kx xs r t⟩
end
theorem RepR.grow0 (g : Grow m H m1 H1) (x : R) (v : V) (h : RepR K [] H x v) : RepR K [] H1 x v := RepR.conv (fun _ _ h => h) (fun x v => RepD.grow g x v) g.tup g.frz g.xt x v h
theorem RepE.grow (g : Grow m H m1 H1) {r : Rho} {s : L2.St} (h : RepE K m H r s) : RepE K m1 H1 r s :=
  ⟨h.len, fun i x e => let ⟨v, e1, q⟩ := h.at_ i x e; ⟨v, e1, RepR.grow g x v q⟩⟩
theorem RepDs.len : ∀ {xs : List D} {vs : List V}, RepDs K H xs vs → vs.length = xs.length
  | [], _, h => by cases h; rfl
  | x :: xs, _, ⟨v, r, e, _, t⟩ => by subst e; simp [RepDs.len t]
theorem RepRs.len : ∀ {xs : List R} {vs : List V}, RepRs K m H xs vs → vs.length = xs.length
  | [], _, h => by cases h; rfl
  | x :: xs, _, ⟨v, r, e, _, t⟩ => by subst e; simp [RepRs.len t]
theorem RepDs.get : ∀ {xs : List D} {vs : List V} {i : Nat} {x : D}, RepDs K H xs vs → xs[i]? = some x → ∃ v, vs[i]? = some v ∧ RepD K H x v
  | [], _, _, _, _, e => by simp at e
  | x :: xs, _, 0, _, ⟨v, r, e, h, t⟩, q => by subst e; simp at q; subst q; exact ⟨v, rfl, h⟩
  | x :: xs, _, i + 1, y, ⟨v, r, e, h, t⟩, q => by
    subst e
    obtain ⟨u, h1, h2⟩ := RepDs.get (i := i) (x := y) t (by simpa using q)
    exact ⟨u, by simpa using h1, h2⟩
theorem RepRs.get : ∀ {xs : List R} {vs : List V} {i : Nat} {x : R}, RepRs K m H xs vs → xs[i]? = some x → ∃ v, vs[i]? = some v ∧ RepR K m H x v
  | [], _, _, _, _, e => by simp at e
  | x :: xs, _, 0, _, ⟨v, r, e, h, t⟩, q => by subst e; simp at q; subst q; exact ⟨v, rfl, h⟩
  | x :: xs, _, i + 1, y, ⟨v, r, e, h, t⟩, q => by
    subst e
    obtain ⟨u, h1, h2⟩ := RepRs.get (i := i) (x := y) t (by simpa using q)
    exact ⟨u, by simpa using h1, h2⟩
theorem RepDs.app : ∀ {xs ys : List D} {vs us : List V}, RepDs K H xs vs → RepDs K H ys us → RepDs K H (xs ++ ys) (vs ++ us)
  | [], _, _, _, h, k => by cases h; exact k
  | x :: xs, _, _, _, ⟨v, r, e, h, t⟩, k => by subst e; exact ⟨v, r ++ _, rfl, h, RepDs.app t k⟩
theorem RepDs.take : ∀ {xs : List D} {vs : List V} (n : Nat), RepDs K H xs vs → RepDs K H (xs.take n) (vs.take n)
  | _, _, 0, h => by simp [RepDs]
  | [], _, n + 1, h => by cases h; simp [RepDs]
  | x :: xs, _, n + 1, ⟨v, r, e, h, t⟩ => by subst e; exact ⟨v, r.take n, rfl, h, RepDs.take n t⟩
theorem RepDs.drop : ∀ {xs : List D} {vs : List V} (n : Nat), RepDs K H xs vs → RepDs K H (xs.drop n) (vs.drop n)
  | _, _, 0, h => by simpa using h
  | [], _, n + 1, h => by cases h; simp [RepDs]
  | x :: xs, _, n + 1, ⟨v, r, e, h, t⟩ => by subst e; simpa using RepDs.drop n t
theorem RepDs.set : ∀ {xs : List D} {vs : List V} {y : D} {u : V} (n : Nat), RepDs K H xs vs → RepD K H y u → RepDs K H (xs.set n y) (vs.set n u)
  | [], _, _, _, n, h, k => by cases h; simp [RepDs]
  | x :: xs, _, _, _, 0, ⟨v, r, e, h, t⟩, k => by subst e; exact ⟨_, r, rfl, k, t⟩
  | x :: xs, _, _, _, n + 1, ⟨v, r, e, h, t⟩, k => by subst e; exact ⟨v, _, rfl, h, RepDs.set n t k⟩
theorem RepDs.one {x : D} {v : V} (h : RepD K H x v) : RepDs K H [x] [v] := ⟨v, [], rfl, h, rfl⟩
theorem RepO.some {o : O} (h : RepO K H a o) : ∃ u, H a = some u := by
  cases o with
  | lst xs => obtain ⟨vs, e, _⟩ := h; exact ⟨_, e⟩
  | dct ep kvs => obtain ⟨vs, e, _⟩ := h; exact ⟨_, e⟩
  | dk kvs => obtain ⟨vs, e, _⟩ := h; exact ⟨_, e⟩
  | la b xs => obtain ⟨_, vs, e, _⟩ := h; exact ⟨_, e⟩
  | da b xs => obtain ⟨_, vs, e, _⟩ := h; exact ⟨_, e⟩
  | ob b C xs => obtain ⟨_, _, _, vs, _, e, _⟩ := h; exact ⟨_, e⟩
theorem RepS.tracked (r : RepS K m H S) (h : a ∈ m) : ∃ (n : Nat) (o : O), m[n]? = some a ∧ S[n]? = some o ∧ RepO K H a o := by
  obtain ⟨n, hn⟩ := List.getElem?_of_mem h
  have hl : n < m.length := (List.getElem?_eq_some_iff.mp hn).1
  have hs : n < S.length := by rw [← r.len]; exact hl
  obtain ⟨a', h1, h2⟩ := r.at_ n S[n] (List.getElem?_eq_getElem hs)
  rw [hn] at h1; cases h1
  exact ⟨n, _, hn, List.getElem?_eq_getElem hs, h2⟩
theorem RepS.notmem (r : RepS K m H S) (h : H p = none) : p ∉ m := fun hp => by
  obtain ⟨n, o, _, _, q⟩ := r.tracked hp
  obtain ⟨u, e⟩ := q.some
  rw [e] at h; cases h
theorem Grow.alloc (h : H p = none) : Grow m H m (upd H p o) :=
  ⟨fun _ _ e => e, fun b xs e => by rw [upd_ne (ne_of_none e h)]; exact e, fun b ob u e => by rw [upd_ne (ne_of_none e h)]; exact e, fun b u e => by rw [upd_ne (ne_of_none e h)]; exact e, fun b u e _ => by rw [upd_ne (ne_of_none e h)]; exact e, fun _ h n => absurd h n⟩
theorem RepDs.via (f : ∀ x v, RepD K H x v → RepD K H1 x v) : ∀ (xs : List D) (vs : List V), RepDs K H xs vs → RepDs K H1 xs vs
  | [], _, h => h
  | x :: xs, _, ⟨v, r, e, h, t⟩ => ⟨v, r, e, f x v h, RepDs.via f xs r t⟩
theorem RepEn.via (f : ∀ x v, RepD K H x v → RepD K H1 x v) {p : D × D} {e : DictEntry} (h : RepEn K H p e) : RepEn K H1 p e := by
  obtain ⟨b, k, h1, h2, h3, h4, h5, v, h6, h7⟩ := h
  exact ⟨b, k, h1, h2, h3, h4, f _ _ h5, v, h6, f _ _ h7⟩
/-- what stands at an address, where all data stays -/
theorem RepRs.via (f : ∀ x v, RepR K m H x v → RepR K m1 H1 x v) : ∀ (xs : List R) (vs : List V), RepRs K m H xs vs → RepRs K m1 H1 xs vs
  | [], _, h => h
  | x :: xs, _, ⟨v, r, e, h, t⟩ => ⟨v, r, e, f x v h, RepRs.via f xs r t⟩
theorem RepO.via {o : O} (f0 : ∀ x v, RepR K [] H x v → RepR K [] H1 x v) (h : RepO K H a o) (e : H1 a = H a) : RepO K H1 a o := by
  have f : ∀ x v, RepD K H x v → RepD K H1 x v := fun x v h => f0 (.d x) v h
  cases o with
  | la b xs => obtain ⟨h0, vs, e1, r⟩ := h; exact ⟨h0, vs, by rw [e]; exact e1, RepRs.via f0 xs vs r⟩
  | da b kvs => obtain ⟨h0, ks, e1, r⟩ := h; exact ⟨h0, ks, by rw [e]; exact e1, Paired.mapP r fun _ _ z => ⟨z.1, f0 _ _ z.2⟩⟩
  | ob b C fs => obtain ⟨h0, Ca, dx, vs, n, e1, r⟩ := h; exact ⟨h0, Ca, dx, vs, n, by rw [e]; exact e1, Paired.mapP r fun _ _ z => ⟨z.1, f0 _ _ z.2⟩⟩
  | lst xs => obtain ⟨vs, e1, r⟩ := h; exact ⟨vs, by rw [e]; exact e1, RepDs.via f xs vs r⟩
  | dct ep kvs => obtain ⟨es, e1, h2, h3, r, h4⟩ := h; exact ⟨es, by rw [e]; exact e1, h2, h3, Paired.mapP r fun _ _ z => z.via f, h4⟩
  | dk kvs => obtain ⟨ks, e1, r⟩ := h; exact ⟨ks, by rw [e]; exact e1, Paired.mapP r fun _ _ z => ⟨z.1, f _ _ z.2⟩⟩
theorem RepO.grow {o : O} (g : Grow m H m1 H1) (h : RepO K H a o) (e : H1 a = H a) : RepO K H1 a o := h.via (fun x v => RepR.grow0 g x v) e
theorem RepS.alloc (r : RepS K m H S) (h : H p = none) : RepS K m (upd H p o) S :=
  ⟨r.nd, r.len, fun n ob e => by
    obtain ⟨a, h1, h2⟩ := r.at_ n ob e
    obtain ⟨u, e2⟩ := h2.some
    exact ⟨a, h1, h2.grow (Grow.alloc (m := m) h) (upd_ne (ne_of_none e2 h))⟩⟩
/-- what stands at an address of no number yet is given the next number -/
theorem RepS.pushO (r : RepS K m H S) (hp : p ∉ m) {o : O} (h : RepO K H p o) : RepS K (m ++ [p]) H (S ++ [o]) := by
  refine ⟨?_, by simp [r.len], fun n ob e1 => ?_⟩
  · rw [List.nodup_append]
    exact ⟨r.nd, by simp, fun a ha b hb => by simp at hb; subst hb; exact fun q => hp (q ▸ ha)⟩
  · by_cases hn : n < S.length
    · rw [List.getElem?_append_left hn] at e1
      obtain ⟨a, h1, h2⟩ := r.at_ n ob e1
      exact ⟨a, by rw [List.getElem?_append_left (by rw [r.len]; exact hn)]; exact h1, h2⟩
    · rw [List.getElem?_append_right (by omega)] at e1
      by_cases h0 : n = S.length
      · subst h0
        simp at e1
        subst e1
        exact ⟨p, by rw [← r.len]; simp, h⟩
      · have : 0 < n - S.length := by omega
        rw [List.getElem?_eq_none (by simp; omega)] at e1; cases e1
theorem RepS.push (r : RepS K m H S) (hp : p ∉ m) {xs : List D} {vs : List V} (e : H p = some (.lst vs)) (h : RepDs K H xs vs) : RepS K (m ++ [p]) H (S ++ [.lst xs]) := r.pushO hp ⟨vs, e, h⟩
theorem Grow.push (h : H p = none) (g : Grow m H m1 H1) : Grow m H (m1 ++ [p]) H1 :=
  ⟨fun n a e => by rw [List.getElem?_append_left (List.getElem?_eq_some_iff.mp (g.pre n a e)).1]; exact g.pre n a e, g.tup, g.frz, g.xt, g.frame, fun b hb hn => by
    rcases List.mem_append.mp hb with q | q
    · exact g.new b q hn
    · simp at q; subst q; exact h⟩
/-- what can be written: it is no tuple, nothing locked, no exception -/
def Wr (p : Addr) (u : HO) : Prop := (∀ xs, u ≠ .tup xs) ∧ (∀ o v, u ≠ .frz o v) ∧ ∀ C, u ≠ XO C p
theorem wr_lst {vs : List V} : Wr p (.lst vs) := ⟨fun _ => (nomatch ·), fun _ _ => (nomatch ·), fun _ => (nomatch ·)⟩
theorem wr_dK {ks : List (Key × V)} : Wr p (.dK ks) := ⟨fun _ => (nomatch ·), fun _ _ => (nomatch ·), fun _ => (nomatch ·)⟩
theorem Grow.writeO {n : Nat} {u u' : HO} (hn : m[n]? = some p) (e : H p = some u) (w : Wr p u) : Grow m H m (upd H p u') := by
  obtain ⟨w1, w2, w3⟩ := w
  refine ⟨fun _ _ e => e, fun b xs e1 => ?_, fun b ob v e1 => ?_, fun b C e1 => ?_, fun b v e1 hb => by rw [upd_ne (fun q => hb (by rw [show b = p from q]; exact List.mem_of_getElem? hn))]; exact e1, fun _ h n => absurd h n⟩
  · rw [upd_ne (ne_of e1 e (w1 xs).symm)]; exact e1
  · rw [upd_ne (ne_of e1 e (w2 ob v).symm)]; exact e1
  · by_cases hb : b = p
    · subst hb; rw [e] at e1; exact absurd (Option.some.inj e1) (w3 C)
    · rw [upd_ne hb]; exact e1
theorem RepS.writeO (r : RepS K m H S) {n : Nat} {u u' : HO} {o : O} (hn : m[n]? = some p) (e : H p = some u) (w : Wr p u) (h : RepO K (upd H p u') p o) : RepS K m (upd H p u') (S.set n o) := by
  have g : Grow m H m (upd H p u') := Grow.writeO hn e w
  refine ⟨r.nd, by simp [r.len], fun k ob e1 => ?_⟩
  by_cases hk : n = k
  · subst hk
    have hl : n < S.length := by rw [← r.len]; exact (List.getElem?_eq_some_iff.mp hn).1
    rw [List.getElem?_set_self hl] at e1
    cases e1
    exact ⟨p, hn, h⟩
  · rw [List.getElem?_set_ne hk] at e1
    obtain ⟨a, h1, h2⟩ := r.at_ k ob e1
    refine ⟨a, h1, h2.grow g (upd_ne fun q => ?_)⟩
    subst q
    obtain ⟨l1, e2⟩ := List.getElem?_eq_some_iff.mp hn
    obtain ⟨l2, e3⟩ := List.getElem?_eq_some_iff.mp h1
    exact hk ((List.getElem_inj r.nd).mp (e2.trans e3.symm))
theorem Grow.write {n : Nat} {vs vs' : List V} (hn : m[n]? = some p) (e : H p = some (.lst vs)) : Grow m H m (upd H p (.lst vs')) := Grow.writeO hn e wr_lst
theorem RepS.write (r : RepS K m H S) {n : Nat} {vs vs' : List V} {xs : List D} (hn : m[n]? = some p) (e : H p = some (.lst vs)) (h : RepDs K H xs vs') : RepS K m (upd H p (.lst vs')) (S.set n (.lst xs)) :=
  r.writeO hn e wr_lst ⟨vs', upd_same, RepDs.grow (Grow.writeO (m := m) hn e wr_lst) xs vs' h⟩
theorem Grow.fresh (g : Grow m H m1 H1) (r : RepS K m1 H1 S) (h : H1 p = none) : H p = none := by
  cases e : H p with
  | none => rfl
  | some u =>
    have n1 : p ∉ m1 := r.notmem h
    have := g.frame p u e (fun hp => n1 (mem_of_pre g.pre p hp))
    rw [h] at this; cases this
/-! ### a new list that nobody will write -/
mutual
theorem RepD.keep (kt : ∀ b xs, H b = some (.tup xs) → H1 b = some (.tup xs)) (kf : ∀ b o u, H b = some (.frz o u) → H1 b = some (.frz o u)) : ∀ (x : D) (v : V), RepD K H x v → RepD K H1 x v
  | .non, _, h => h
  | .bl _, _, h => h
  | .int _, _, h => h
  | .str _, _, h => h
  | .tup xs, _, ⟨a, vs, e, h, r⟩ => ⟨a, vs, e, (by
    rcases h with (h | ⟨o, h⟩) | h
    · exact .inl (.inl (kt _ _ h))
    · exact .inl (.inr ⟨o, kf _ _ _ h⟩)
    · exact .inr h), RepDs.keep kt kf xs vs r⟩
  | .lst xs, _, ⟨a, vs, e, h, r⟩ => ⟨a, vs, e, (by
    rcases h with ⟨o, h⟩ | h
    · exact .inl ⟨o, kf _ _ _ h⟩
    · exact .inr h), RepDs.keep kt kf xs vs r⟩
theorem RepDs.keep (kt : ∀ b xs, H b = some (.tup xs) → H1 b = some (.tup xs)) (kf : ∀ b o u, H b = some (.frz o u) → H1 b = some (.frz o u)) : ∀ (xs : List D) (vs : List V), RepDs K H xs vs → RepDs K H1 xs vs
  | [], _, h => h
  | x :: xs, _, ⟨v, r, e, h, t⟩ => ⟨v, r, e, RepD.keep kt kf x v h, RepDs.keep kt kf xs r t⟩
end
theorem kt_fz {vs : List V} {od : Obj} (e : H a = some (.lst vs)) : ∀ b xs, H b = some (.tup xs) → upd H a (.frz od (.lst vs)) b = some (.tup xs) := fun b xs h => by
  rw [upd_ne (ne_of h e (fun q => nomatch q))]; exact h
theorem kf_fz {vs : List V} {od : Obj} (e : H a = some (.lst vs)) : ∀ b o u, H b = some (.frz o u) → upd H a (.frz od (.lst vs)) b = some (.frz o u) := fun b o u h => by
  rw [upd_ne (ne_of h e (fun q => nomatch q))]; exact h
theorem RepS.frz (r : RepS K m H S) {vs : List V} {od : Obj} (ha : a ∉ m) (e : H a = some (.lst vs)) : RepS K m (upd H a (.frz od (.lst vs))) S :=
  ⟨r.nd, r.len, fun n ob e1 => by
    obtain ⟨b, h1, h2⟩ := r.at_ n ob e1
    refine ⟨b, h1, ?_⟩
    have hb : b ≠ a := fun q => ha (q ▸ List.mem_of_getElem? h1)
    exact h2.via (fun x v => RepR.conv (fun _ _ h => h) (fun x v => RepD.keep (kt_fz e) (kf_fz e) x v) (kt_fz e) (kf_fz e) (fun b C h => by rw [upd_ne (ne_of h e (fun q => nomatch q))]; exact h) x v) (upd_ne hb)⟩
theorem Grow.frz_new (g : Grow m H m1 H1) {vs : List V} {od : Obj} (h0 : H a = none) (e : H1 a = some (.lst vs)) : Grow m H m1 (upd H1 a (.frz od (.lst vs))) :=
  ⟨g.pre, fun b xs h => kt_fz e b xs (g.tup b xs h), fun b o u h => kf_fz e b o u (g.frz b o u h), fun b φ h => by rw [upd_ne (ne_of (g.xt b φ h) e (fun q => nomatch q))]; exact g.xt b φ h, fun b o h hb => by rw [upd_ne (ne_of_none h h0)]; exact g.frame b o h hb, g.new⟩
end
end Z
set_option Elab.async false
set_option linter.all false
set_option maxRecDepth 100000
/-! Z2: expressions over trees and a store; each rule is the hand layer's own, read there. -/
namespace Z
open PySem PySem.Spec PyProof.Rows L2
/-- what an expression hands on: a value, or a new list that stands at no number yet -/
inductive SV where
  | r (x : R) | f (xs : List D)
abbrev PK1 := SV → Sto → Prop
abbrev PE1 := Rho → Sto → PK1 → Prop
abbrev PT1 := Rho → Sto → (Bool → Sto → Prop) → Prop
abbrev PA1 := Rho → Sto → (List SV → Sto → Prop) → Prop
def RepV (K : PySem.W.Frag) (m : List Addr) (H H0 : Hp) : SV → V → Prop
  | .r x, v => RepR K m H x v
  | .f xs, v => ∃ a vs, v = .ref a ∧ H a = some (.lst vs) ∧ a ∉ m ∧ H0 a = none ∧ RepDs K H xs vs
def RepVs (K : PySem.W.Frag) (m : List Addr) (H H0 : Hp) : List SV → List V → Prop
  | [], vs => vs = []
  | x :: xs, vs => ∃ v r, vs = v :: r ∧ RepV K m H H0 x v ∧ RepVs K m H H0 xs r
section
variable {K : PySem.W.Frag} {m m1 m2 : List Addr} {H H0 H1 H2 : Hp} {S S1 S2 : Sto} {W : PK1} {Q : VK}
theorem RepV.grow (g : Grow m H m1 H1) {x : SV} {v : V} (h : RepV K m H H0 x v) : RepV K m1 H1 H0 x v := by
  cases x with
  | r x => exact RepR.grow g x v h
  | f xs =>
    obtain ⟨a, vs, e, h1, h2, h3, h4⟩ := h
    exact ⟨a, vs, e, g.frame a _ h1 h2, fun q => (by rw [g.new a q h2] at h1; cases h1), h3, RepDs.grow g xs vs h4⟩
theorem RepVs.grow (g : Grow m H m1 H1) : ∀ {xs : List SV} {vs : List V}, RepVs K m H H0 xs vs → RepVs K m1 H1 H0 xs vs
  | [], _, h => h
  | x :: xs, _, ⟨v, r, e, h, t⟩ => ⟨v, r, e, h.grow g, RepVs.grow g t⟩
/-- a fresh thing of a later start is one of the first start -/
theorem RepV.back (g : Grow m H m1 H1) (r : RepS K m1 H1 S) {x : SV} {v : V} (h : RepV K m2 H2 H1 x v) : RepV K m2 H2 H x v := by
  cases x with
  | r x => exact h
  | f xs => obtain ⟨a, vs, e, h1, h2, h3, h4⟩ := h; exact ⟨a, vs, e, h1, h2, g.fresh r h3, h4⟩
/-- what is wanted behind -/
def Fin (K : PySem.W.Frag) (m : List Addr) (H : Hp) (W : PK1) (Q : VK) : Prop :=
  ∀ x S' v m' H', W x S' → Grow m H m' H' → RepS K m' H' S' → RepV K m' H' H x v → Q v H'
theorem Fin.later (f : Fin K m H W Q) (g : Grow m H m1 H1) (r : RepS K m1 H1 S1) : Fin K m1 H1 W Q :=
  fun x S' v m' H' w g' r' q => f x S' v m' H' w (g.trans g') r' (q.back g r)
theorem Fin.here (f : Fin K m H W Q) (r : RepS K m H S) {x : SV} {v : V} (q : RepV K m H H x v) (w : W x S) : Q v H := f x S v m H w Grow.refl r q
/-- a new tuple -/
theorem Fin.tup (f : Fin K m H W Q) (r : RepS K m H S) {xs : List D} {vs : List V} (h : RepDs K H xs vs) (w : W (.r (.d (.tup xs))) S) : ∀ p, H p = none → Q (.ref p) (upd H p (.tup vs)) := fun p hp =>
  f _ S _ m _ w (Grow.alloc hp) (r.alloc hp) ⟨p, vs, rfl, .inl (.inl upd_same), RepDs.grow (m := m) (m1 := m) (Grow.alloc hp) xs vs h⟩
/-- a new list -/
theorem Fin.lst (f : Fin K m H W Q) (r : RepS K m H S) {xs : List D} {vs : List V} (h : RepDs K H xs vs) (w : W (.f xs) S) : ∀ p, H p = none → Q (.ref p) (upd H p (.lst vs)) := fun p hp =>
  f _ S _ m _ w (Grow.alloc hp) (r.alloc hp) ⟨p, vs, rfl, upd_same, r.notmem hp, hp, RepDs.grow (m := m) (m1 := m) (Grow.alloc hp) xs vs h⟩
end
def up (K : PySem.W.Frag) (w : PE1) : TE := fun s H Q => ∃ m r S W, RepE K m H r s ∧ RepS K m H S ∧ w r S W ∧ Fin K m H W Q
def upT (K : PySem.W.Frag) (w : PT1) : TT := fun s H Q => ∃ m r S W, RepE K m H r s ∧ RepS K m H S ∧ w r S W ∧ ∀ b S' m' H', W b S' → Grow m H m' H' → RepS K m' H' S' → Q b H'
def upA (K : PySem.W.Frag) (w : PA1) : TA := fun s H Q => ∃ m r S W, RepE K m H r s ∧ RepS K m H S ∧ w r S W ∧ ∀ xs S' vs m' H', W xs S' → Grow m H m' H' → RepS K m' H' S' → RepVs K m' H' H xs vs → Q vs H'
structure WE (X : Cx) (e : Expr) (w : PE1) : Prop where
  pe : PE X e (up X.K w)
structure WT (X : Cx) (e : Expr) (w : PT1) : Prop where
  pt : PT X e (upT X.K w)
structure WA (X : Cx) (es : List Expr) (w : PA1) : Prop where
  pa : PA X es (upA X.K w)
section
variable {X : Cx} {e a b c : Expr} {es : List Expr} {pos : Pos} {wa wb wc : PE1} {was : PA1}
theorem peImp {t t' : TE} (h : PE X e t) (k : ∀ s H Q, t' s H Q → t s H Q) : PE X e t' := ⟨fun pins s z H Q I q => h.run pins s z H Q I (k _ _ _ q)⟩
theorem ptImp {t t' : TT} (h : PT X e t) (k : ∀ s H Q, t' s H Q → t s H Q) : PT X e t' := ⟨fun pins s z H Q I q => h.run pins s z H Q I (k _ _ _ q)⟩
theorem paImp {t t' : TA} (h : PA X es t) (k : ∀ s H Q, t' s H Q → t s H Q) : PA X es t' := ⟨fun pos pins s z H Q I q => h.run pos pins s z H Q I (k _ _ _ q)⟩
/-! ### names, constants -/
abbrev wVar (i : Nat) : PE1 := fun r S W => match r[i]? with
  | some (some x) => W (.r x) S
  | _ => False
abbrev wC (x : D) : PE1 := fun _ S W => W (.r (.d x)) S
theorem we_var (i : Nat) {x : Str} {pos : Pos} (h : PE X (.Name x pos) (tVar i)) : WE X (.Name x pos) (wVar i) := ⟨peImp h fun s H Q ⟨m, r, S, W, hE, hS, hw, hf⟩ => by
  unfold wVar at hw
  split at hw
  · rename_i x e
    obtain ⟨v, e1, q⟩ := hE.at_ i x e
    exact ⟨v, e1, hf.here hS (x := .r x) q hw⟩
  · exact hw.elim⟩
theorem we_c {v : V} {x : D} (h : PE X e (tC v)) (k : ∀ H, RepD X.K H x v) : WE X e (wC x) := ⟨peImp h fun s H Q ⟨m, r, S, W, hE, hS, hw, hf⟩ => hf.here hS (x := .r (.d x)) (k H) hw⟩
theorem we_int {i : Int} {k pos} : WE X (.Constant (.int i) k pos) (wC (.int i)) := we_c pe_int fun _ => rfl
theorem we_bl {b k pos} : WE X (.Constant (.bool b) k pos) (wC (.bl b)) := we_c pe_bl fun _ => rfl
theorem we_str {x k pos} : WE X (.Constant (.str x) k pos) (wC (.str x)) := we_c pe_str fun _ => rfl
/-! ### operators of two values -/
abbrev P2 := SV → SV → Sto → PK1 → Prop
def OpP (X : Cx) (f : Value → Value → Sem Value) (rp : P2) : Prop :=
  ∃ r : R2, OpR X f r ∧ ∀ x y S W v u m H H0 Q, RepS X.K m H S → RepV X.K m H H0 x v → RepV X.K m H H0 y u → rp x y S W → Fin X.K m H W Q → r v u H Q
theorem OpP.or {f : Value → Value → Sem Value} {p q : P2} (h : OpP X f p) (k : OpP X f q) : OpP X f (fun x y S W => p x y S W ∨ q x y S W) := by
  obtain ⟨r, h1, h2⟩ := h
  obtain ⟨t, k1, k2⟩ := k
  refine ⟨_, h1.or k1, fun x y S W v u m H H0 Q a b c d e => ?_⟩
  rcases d with d | d
  · exact .inl (h2 x y S W v u m H H0 Q a b c d e)
  · exact .inr (k2 x y S W v u m H H0 Q a b c d e)
theorem OpP.imp {f : Value → Value → Sem Value} {p q : P2} (h : OpP X f p) (k : ∀ x y S W, q x y S W → p x y S W) : OpP X f q := by
  obtain ⟨r, h1, h2⟩ := h
  exact ⟨r, h1, fun x y S W v u m H H0 Q a b c d e => h2 x y S W v u m H H0 Q a b c (k _ _ _ _ d) e⟩
abbrev wBin (rp : P2) (wa wb : PE1) : PE1 := fun r S W => wa r S fun x S1 => wb r S1 fun y S2 => rp x y S2 W
/-- two expressions in a row -/
theorem up2 {K : PySem.W.Frag} {s : L2.St} {H : Hp} {R : V → V → Hp → Prop} {m : List Addr} {r : Rho} {S : Sto} {Z : SV → SV → Sto → Prop} (hE : RepE K m H r s) (hS : RepS K m H S)
    (hw : wa r S fun x S1 => wb r S1 fun y S2 => Z x y S2)
    (h : ∀ x y S2 v u m2 H2, Z x y S2 → Grow m H m2 H2 → RepS K m2 H2 S2 → RepV K m2 H2 H x v → RepV K m2 H2 H y u → R v u H2) :
    up K wa s H fun v H1 => up K wb s H1 fun u H2 => R v u H2 :=
  ⟨m, r, S, _, hE, hS, hw, fun x S1 v m1 H1 h1 g1 r1 q1 => ⟨m1, r, S1, _, hE.grow g1, r1, h1, fun y S2 u m2 H2 h2 g2 r2 q2 => h x y S2 v u m2 H2 h2 (g1.trans g2) r2 (q1.grow g2) (q2.back g1 r1)⟩⟩
theorem op2 {f : Value → Value → Sem Value} {rp : P2} (ho : OpP X f rp) : ∃ r : R2, OpR X f r ∧ ∀ s H Q, up X.K (wBin rp wa wb) s H Q → tOp r (up X.K wa) (up X.K wb) s H Q := by
  obtain ⟨r, h1, h2⟩ := ho
  refine ⟨r, h1, fun s H Q ⟨m, ρ, S, W, hE, hS, hw, hf⟩ => up2 hE hS hw fun x y S2 v u m2 H2 z g2 r2 qx qy => ?_⟩
  exact h2 x y S2 W v u m2 H2 H Q r2 qx qy z (hf.later g2 r2)
theorem we_bin {op : Operator} {rp : P2} (ho : OpP X (binaryOp op) rp) (ha : WE X a wa) (hb : WE X b wb) : WE X (.BinOp a op b pos) (wBin rp wa wb) := by
  obtain ⟨r, h1, h2⟩ := op2 (wa := wa) (wb := wb) ho
  exact ⟨peImp (pe_op h1 ha.pe hb.pe) h2⟩
theorem we_cmp {op : CmpOp} {rp : P2} (ho : OpP X (compareOp op) rp) (ha : WE X a wa) (hb : WE X b wb) (hm : behindInMarks op b = false) : WE X (.Compare a [op] [b] pos) (wBin rp wa wb) := by
  obtain ⟨r, h1, h2⟩ := op2 (wa := wa) (wb := wb) ho
  exact ⟨peImp (pe_cmpR h1 ha.pe hb.pe hm) h2⟩
/-- a value that is a truth, as a test -/
abbrev wTest (w : PE1) : PT1 := fun r S W => w r S fun x S1 => match x with
  | .r (.d (.bl b)) => W b S1
  | _ => False
theorem upT_of {K : PySem.W.Frag} {w : PE1} {t : TE} (h : ∀ s H Q, up K w s H Q → t s H Q) : ∀ s H Q, upT K (wTest w) s H Q → tTest t s H Q := fun s H Q ⟨m, r, S, W, hE, hS, hw, hf⟩ => by
  refine h s H _ ⟨m, r, S, _, hE, hS, hw, fun x S' v m' H' hx g r' q => ?_⟩
  split at hx
  · rename_i b
    exact ⟨b, q, hf b S' m' H' hx g r'⟩
  · exact hx.elim
theorem wt_cmp {op : CmpOp} {rp : P2} (ho : OpP X (compareOp op) rp) (ha : WE X a wa) (hb : WE X b wb) (hm : behindInMarks op b = false) : WT X (.Compare a [op] [b] pos) (wTest (wBin rp wa wb)) := by
  obtain ⟨r, h1, h2⟩ := op2 (wa := wa) (wb := wb) ho
  exact ⟨ptImp (pt_cmpR h1 ha.pe hb.pe hm) (upT_of h2)⟩
theorem wt_val (ha : WE X a wa) (he : ∀ whole, isTrue a X.env whole = (do let v ← whole; standAt a.pos; holding [v] (truthy v)) := by intro _; rfl) : WT X a (wTest wa) :=
  ⟨ptImp (pt_val ha.pe he) (upT_of fun _ _ _ h => h)⟩
/-- the operators of one value -/
abbrev P1 := SV → Sto → PK1 → Prop
def UnP (X : Cx) (f : Value → Sem Value) (rp : P1) : Prop :=
  ∃ r : V → Hp → VK → Prop, UnR X f r ∧ ∀ x S W v m H H0 Q, RepS X.K m H S → RepV X.K m H H0 x v → rp x S W → Fin X.K m H W Q → r v H Q
abbrev wUn (rp : P1) (wa : PE1) : PE1 := fun r S W => wa r S fun x S1 => rp x S1 W
theorem up1 {K : PySem.W.Frag} {s : L2.St} {H : Hp} {R : V → Hp → Prop} {m : List Addr} {r : Rho} {S : Sto} {Z : SV → Sto → Prop} (hE : RepE K m H r s) (hS : RepS K m H S)
    (hw : wa r S fun x S1 => Z x S1) (h : ∀ x S2 v m2 H2, Z x S2 → Grow m H m2 H2 → RepS K m2 H2 S2 → RepV K m2 H2 H x v → R v H2) : up K wa s H fun v H1 => R v H1 :=
  ⟨m, r, S, _, hE, hS, hw, fun x S1 v m1 H1 h1 g1 r1 q1 => h x S1 v m1 H1 h1 g1 r1 q1⟩
theorem we_un {op : UnaryOp} {rp : P1} (ho : UnP X (unaryOp op) rp) (ha : WE X a wa) : WE X (.UnaryOp op a pos) (wUn rp wa) := by
  obtain ⟨r, h1, h2⟩ := ho
  exact ⟨peImp (pe_un h1 ha.pe) fun s H Q ⟨m, ρ, S, W, hE, hS, hw, hf⟩ => up1 hE hS hw fun x S2 v m2 H2 z g2 r2 qx => h2 x S2 W v m2 H2 H Q r2 qx z (hf.later g2 r2)⟩
/-! ### and, or, not -/
abbrev wAndT (t u : PT1) : PT1 := fun r S W => t r S fun b S1 => if b = true then u r S1 W else W false S1
abbrev wOrT (t u : PT1) : PT1 := fun r S W => t r S fun b S1 => if b = true then W true S1 else u r S1 W
abbrev wNotT (t : PT1) : PT1 := fun r S W => t r S fun b S1 => W (!b) S1
structure WW (X : Cx) (e : Expr) (w : PT1) : Prop where
  pw : PW X e (upT X.K w)
theorem pwImp {t t' : TT} (h : PW X e t) (k : ∀ s H Q, t' s H Q → t s H Q) : PW X e t' := ⟨fun wh pins s z H Q I q => h.run wh pins s z H Q I (k _ _ _ q)⟩
theorem WW.wt {w : PT1} (h : WW X e w) : WT X e w := ⟨h.pw.pt⟩
variable {ta tb : PT1} {rest : List Expr}
theorem ww_and1 (ha : WT X a ta) : WW X (.BoolOp .And [a] pos) ta := ⟨pw_and1 ha.pt⟩
theorem ww_or1 (ha : WT X a ta) : WW X (.BoolOp .Or [a] pos) ta := ⟨pw_or1 ha.pt⟩
theorem ww_and (ha : WT X a ta) (hb : WW X (.BoolOp .And (b :: rest) pos) tb) : WW X (.BoolOp .And (a :: b :: rest) pos) (wAndT ta tb) :=
  ⟨pwImp (pw_and ha.pt hb.pw) fun s H Q ⟨m, r, S, W, hE, hS, hw, hf⟩ => ⟨m, r, S, _, hE, hS, hw, fun b S1 m1 H1 h1 g1 r1 => by
    cases b with
    | true => exact ⟨m1, r, S1, W, hE.grow g1, r1, h1, fun b S2 m2 H2 h2 g2 r2 => hf b S2 m2 H2 h2 (g1.trans g2) r2⟩
    | false => exact hf false S1 m1 H1 h1 g1 r1⟩⟩
theorem ww_or (ha : WT X a ta) (hb : WW X (.BoolOp .Or (b :: rest) pos) tb) : WW X (.BoolOp .Or (a :: b :: rest) pos) (wOrT ta tb) :=
  ⟨pwImp (pw_or ha.pt hb.pw) fun s H Q ⟨m, r, S, W, hE, hS, hw, hf⟩ => ⟨m, r, S, _, hE, hS, hw, fun b S1 m1 H1 h1 g1 r1 => by
    cases b with
    | false => exact ⟨m1, r, S1, W, hE.grow g1, r1, h1, fun b S2 m2 H2 h2 g2 r2 => hf b S2 m2 H2 h2 (g1.trans g2) r2⟩
    | true => exact hf true S1 m1 H1 h1 g1 r1⟩⟩
theorem wt_not (ha : WT X a ta) : WT X (.UnaryOp .Not a pos) (wNotT ta) :=
  ⟨ptImp (pt_not ha.pt) fun s H Q ⟨m, r, S, W, hE, hS, hw, hf⟩ => ⟨m, r, S, _, hE, hS, hw, fun b S1 m1 H1 h1 g1 r1 => hf _ S1 m1 H1 h1 g1 r1⟩⟩
/-- .. as values -/
abbrev wAndV (wa wb : PE1) : PE1 := fun r S W => wa r S fun x S1 => match x with
  | .r (.d (.bl b)) => if b = true then wb r S1 W else W (.r (.d (.bl false))) S1
  | _ => False
abbrev wOrV (wa wb : PE1) : PE1 := fun r S W => wa r S fun x S1 => match x with
  | .r (.d (.bl b)) => if b = true then W (.r (.d (.bl true))) S1 else wb r S1 W
  | _ => False
abbrev wNotV (wa : PE1) : PE1 := fun r S W => wa r S fun x S1 => match x with
  | .r (.d (.bl b)) => W (.r (.d (.bl (!b)))) S1
  | _ => False
theorem we_one {op} (h : WE X a wa) : WE X (.BoolOp op [a] pos) wa := ⟨pe_one h.pe⟩
theorem we_and (ha : WE X a wa) (hb : WE X (.BoolOp .And (b :: rest) pos) wb) : WE X (.BoolOp .And (a :: b :: rest) pos) (wAndV wa wb) :=
  ⟨peImp (pe_and ha.pe hb.pe) fun s H Q ⟨m, r, S, W, hE, hS, hw, hf⟩ => up1 hE hS hw fun x S1 v m1 H1 h1 g1 r1 q1 => by
    split at h1
    · rename_i b
      refine ⟨b, q1, ?_⟩
      cases b with
      | true => exact ⟨m1, r, S1, W, hE.grow g1, r1, h1, hf.later g1 r1⟩
      | false => exact hf _ S1 _ m1 H1 h1 g1 r1 rfl
    · exact h1.elim⟩
/-- a if t else b -/
abbrev wIfE (t : PT1) (wa wb : PE1) : PE1 := fun r S W => t r S fun b S1 => if b = true then wa r S1 W else wb r S1 W
/-! ### rows of expressions, tuples, lists -/
abbrev wNil : PA1 := fun _ S W => W [] S
abbrev wCons (wa : PE1) (ws : PA1) : PA1 := fun r S W => wa r S fun x S1 => ws r S1 fun xs S2 => W (x :: xs) S2
theorem wa_nil : WA X [] wNil := ⟨paImp pa_nil fun s H Q ⟨m, r, S, W, hE, hS, hw, hf⟩ => hf [] S [] m H hw Grow.refl hS rfl⟩
theorem wa_cons (ha : WE X e wa) (hr : WA X es was) (hs : starEach (e :: es) X.env = (false, eval e X.env) :: starEach es X.env := by rfl) : WA X (e :: es) (wCons wa was) :=
  ⟨paImp (pa_cons ha.pe hr.pa hs) fun s H Q ⟨m, r, S, W, hE, hS, hw, hf⟩ => up1 hE hS hw fun x S1 v m1 H1 h1 g1 r1 q1 =>
    ⟨m1, r, S1, _, hE.grow g1, r1, h1, fun xs S2 vs m2 H2 h2 g2 r2 q2 => hf _ S2 _ m2 H2 h2 (g1.trans g2) r2 ⟨v, vs, rfl, q1.grow g2, (by
      have back : ∀ {xs : List SV} {vs : List V}, RepVs X.K m2 H2 H1 xs vs → RepVs X.K m2 H2 H xs vs := by
        intro xs
        induction xs with
        | nil => intro vs h; exact h
        | cons y ys ih => intro vs ⟨v, r, e, h, t⟩; exact ⟨v, r, e, h.back g1 r1, ih t⟩
      exact back q2)⟩⟩⟩
/-- a row of values, none of them a new list -/
def rsOf : List SV → Option (List R)
  | [] => some []
  | .r x :: xs => (rsOf xs).map (x :: ·)
  | .f _ :: _ => none
/-- a new list in a row (one at most) is given a number -/
def bindVs : List SV → Sto → (List R → Sto → Prop) → Prop
  | [], S, W => W [] S
  | .r x :: xs, S, W => bindVs xs S fun rs S1 => W (x :: rs) S1
  | .f l :: xs, S, W => match rsOf xs with
    | some rs => W (.loc S.length :: rs) (S ++ [.lst l])
    | none => False
abbrev dataOf : List SV → Option (List D)
  | [] => some []
  | .r (.d x) :: r => (dataOf r).map (x :: ·)
  | _ :: _ => none
theorem RepVs.data {K : PySem.W.Frag} {m : List Addr} {H H0 : Hp} : ∀ {xs : List SV} {vs : List V} {ds : List D}, RepVs K m H H0 xs vs → dataOf xs = some ds → RepDs K H ds vs
  | [], _, _, h, e => by simp [dataOf] at e; subst e; exact h
  | .r (.d x) :: xs, _, ds, ⟨v, r, e1, h, t⟩, e => by
    simp only [dataOf, Option.map_eq_some_iff] at e
    obtain ⟨ds', e2, rfl⟩ := e
    exact ⟨v, r, e1, h, RepVs.data t e2⟩
  | .r (.loc _) :: _, _, _, _, e => by cases e
  | .r (.ro _) :: _, _, _, _, e => by cases e
  | .r (.tr _) :: _, _, _, _, e => by cases e
  | .r (.ex _) :: _, _, _, _, e => by cases e
  | .r (.ad _) :: _, _, _, _, e => by cases e
  | .f _ :: _, _, _, _, e => by cases e
theorem RepVs.len {K : PySem.W.Frag} {m : List Addr} {H H0 : Hp} : ∀ {xs : List SV} {vs : List V}, RepVs K m H H0 xs vs → vs.length = xs.length
  | [], _, h => by cases h; rfl
  | x :: xs, _, ⟨v, r, e, _, t⟩ => by subst e; simp [RepVs.len t]
abbrev wTup (ws : PA1) : PE1 := fun r S W => ws r S fun xs S1 => match dataOf xs with
  | some ds => ds.length ≤ 16777216 ∧ W (.r (.d (.tup ds))) S1
  | none => False
abbrev wLst (ws : PA1) : PE1 := fun r S W => ws r S fun xs S1 => match dataOf xs with
  | some ds => ds.length ≤ 16777216 ∧ W (.f ds) S1
  | none => False
theorem we_tup {x1} (h : WA X es was) : WE X (.Tuple es x1 pos) (wTup was) :=
  ⟨peImp (pe_tup h.pa) fun s H Q ⟨m, r, S, W, hE, hS, hw, hf⟩ => ⟨m, r, S, _, hE, hS, hw, fun xs S1 vs m1 H1 h1 g1 r1 q1 => by
    split at h1
    · rename_i ds e
      have q := q1.data e
      exact ⟨by rw [q.len, sizeLine_eq]; exact h1.1, (hf.later g1 r1).tup r1 q h1.2⟩
    · exact h1.elim⟩⟩
theorem we_lst (h : WA X es was) : WE X (.List es pos) (wLst was) :=
  ⟨peImp (pe_lst h.pa) fun s H Q ⟨m, r, S, W, hE, hS, hw, hf⟩ => ⟨m, r, S, _, hE, hS, hw, fun xs S1 vs m1 H1 h1 g1 r1 q1 => by
    split at h1
    · rename_i ds e
      have q := q1.data e
      exact ⟨by rw [q.len, sizeLine_eq]; exact h1.1, (hf.later g1 r1).lst r1 q h1.2⟩
    · exact h1.elim⟩⟩
/-! ### what a value holds in a row -/
/-- is it a list of the store? -/
abbrev isLo (S : Sto) (n : Nat) : Bool := match S[n]? with
  | some (.lst _) => true
  | _ => false
theorem isLo_get {S : Sto} {n : Nat} (h : isLo S n = true) : ∃ xs, S[n]? = some (.lst xs) := by
  unfold isLo at h
  split at h
  · rename_i xs e; exact ⟨xs, e⟩
  · cases h
/-- the items of a list or a tuple -/
abbrev seqOf (S : Sto) : SV → Option (List D)
  | .r (.d (.tup xs)) => some xs
  | .r (.d (.lst xs)) => some xs
  | .r (.loc n) => match S[n]? with
    | some (.lst xs) => some xs
    | _ => none
  | .r (.ro xs) => some xs
  | .f xs => some xs
  | _ => none
/-- is it a list (no tuple)? -/
def isLst : SV → Bool
  | .r (.loc _) | .r (.ro _) | .f _ | .r (.d (.lst _)) => true
  | _ => false
theorem RepV.seq {K : PySem.W.Frag} {m : List Addr} {H H0 : Hp} {S : Sto} {x : SV} {v : V} {xs : List D} (h : RepV K m H H0 x v) (r : RepS K m H S) (e : seqOf S x = some xs) :
    ∃ a vs, v = .ref a ∧ RepDs K H xs vs ∧ if isLst x = true then SqL K H a vs else SqT K H a vs := by
  cases x with
  | f ys =>
    obtain ⟨a, vs, e1, h1, _, _, h4⟩ := h
    simp only [seqOf, Option.some.injEq] at e; subst e
    exact ⟨a, vs, e1, h4, .inl (.inl h1)⟩
  | r y =>
    cases y with
    | loc n =>
      obtain ⟨a, h1, e1⟩ := h
      simp only [seqOf] at e
      split at e
      · rename_i ys e2
        cases e
        obtain ⟨a', h1', vs, h2, h3⟩ := r.at_ n _ e2
        rw [h1] at h1'; cases h1'
        exact ⟨a, vs, e1, h3, .inl (.inl h2)⟩
      · cases e
    | ro ys =>
      obtain ⟨a, vs, e1, h1, h2⟩ := h
      simp only [seqOf, Option.some.injEq] at e; subst e
      exact ⟨a, vs, e1, h2, h1.sq⟩
    | tr ys => cases e
    | ex z => cases e
    | ad z => cases e
    | d y =>
      cases y with
      | tup ys =>
        obtain ⟨a, vs, e1, h1, h2⟩ := h
        simp only [seqOf, Option.some.injEq] at e; subst e
        exact ⟨a, vs, e1, h2, h1⟩
      | lst ys =>
        obtain ⟨a, vs, e1, h1, h2⟩ := h
        simp only [seqOf, Option.some.injEq] at e; subst e
        exact ⟨a, vs, e1, h2, h1.sq⟩
      | non => cases e
      | bl _ => cases e
      | int _ => cases e
      | str _ => cases e
/-- a list that may be added to: one of the store, or a new one -/
theorem RepV.lst {K : PySem.W.Frag} {m : List Addr} {H H0 : Hp} {S : Sto} {x : SV} {v : V} {xs : List D} (h : RepV K m H H0 x v) (r : RepS K m H S) (e : seqOf S x = some xs) (hl : isLst x = true) (ho : (∀ ys, x ≠ .r (.ro ys)) ∧ ∀ ys, x ≠ .r (.d (.lst ys))) :
    ∃ a vs, v = .ref a ∧ RepDs K H xs vs ∧ H a = some (.lst vs) := by
  cases x with
  | f ys =>
    obtain ⟨a, vs, e1, h1, _, _, h4⟩ := h
    simp only [seqOf, Option.some.injEq] at e; subst e
    exact ⟨a, vs, e1, h4, h1⟩
  | r y =>
    cases y with
    | loc n =>
      obtain ⟨a, h1, e1⟩ := h
      simp only [seqOf] at e
      split at e
      · rename_i ys e2
        cases e
        obtain ⟨a', h1', vs, h2, h3⟩ := r.at_ n _ e2
        rw [h1] at h1'; cases h1'
        exact ⟨a, vs, e1, h3, h2⟩
      · cases e
    | ro ys => exact absurd rfl (ho.1 ys)
    | tr ys => cases e
    | ex z => cases e
    | ad z => cases e
    | d y =>
      cases y with
      | lst ys => exact absurd rfl (ho.2 ys)
      | _ => cases hl
end
end Z
set_option Elab.async false
set_option linter.all false
set_option maxRecDepth 100000
/-! Z3: the operators and built-ins. -/
namespace Z
open PySem PySem.Spec PyProof.Rows L2
section
variable {X : Cx}
/-! ### ints -/
abbrev svi (i : Int) : SV := .r (.d (.int i))
abbrev svb (b : Bool) : SV := .r (.d (.bl b))
abbrev svt (xs : List D) : SV := .r (.d (.tup xs))
abbrev pInt (C : Int → Int → Prop) (g : Int → Int → Int) : P2 := fun x y S W => match x, y with
  | .r (.d (.int i)), .r (.d (.int j)) => C i j ∧ W (.r (.d (.int (g i j)))) S
  | _, _ => False
theorem opp_int {f : Value → Value → Sem Value} {C C' : Int → Int → Prop} {g : Int → Int → Int} (h : OpR X f (rI C' fun i j => .int (g i j))) (hc : ∀ i j, C i j → C' i j) : OpP X f (pInt C g) := by
  refine ⟨_, h, fun x y S W v u m H H0 Q r qx qy w f => ?_⟩
  unfold pInt at w
  split at w
  · rename_i i j
    exact ⟨i, j, qx, qy, hc i j w.1, f.here r (x := svi (g i j)) rfl w.2⟩
  · exact w.elim
structure CDv (i j : Int) : Prop where
  ne : j ≠ 0
  lt : j.natAbs < 2 ^ 9000 ∨ i.natAbs < 2 ^ 13500
theorem noPy_big {x y : Int} (h : x.natAbs.log2 < 13500) : Builtin.divisionGoesByPylong x y = false := by
  have kx : (if x == 0 then 0 else x.natAbs.log2 / 30 + 1) ≤ 450 := by
    by_cases hy : (x == 0) = true
    · rw [if_pos hy]; exact Nat.zero_le _
    · rw [if_neg hy]; omega
  show (decide ((if y == 0 then 0 else y.natAbs.log2 / 30 + 1) > 300) && decide ((if x == 0 then 0 else x.natAbs.log2 / 30 + 1) > (if y == 0 then 0 else y.natAbs.log2 / 30 + 1) + 150)) = false
  generalize (if y == 0 then 0 else y.natAbs.log2 / 30 + 1) = a at *
  generalize (if x == 0 then 0 else x.natAbs.log2 / 30 + 1) = b at *
  rw [Bool.and_eq_false_iff]
  by_cases c : a > 300
  · exact .inr (decide_eq_false (by omega))
  · exact .inl (decide_eq_false c)
/-- sealed: the kernel must not look inside -/
structure MulOk (i j : Int) : Prop where
  ok : IntMulOk i j
def CPw (i j : Int) : Prop := 0 ≤ j ∧ j ≤ 1000000 ∧ (i.natAbs < 2 ^ 64 ∨ (j ≤ 16 ∧ i.natAbs < 2 ^ 60000))
theorem CPw.sz {i j : Int} (h : CPw i j) : (Builtin.Int.intBits i : Int) * j ≤ 2 ^ 27 := by
  obtain ⟨h0, h1, h2 | ⟨h3, h4⟩⟩ := h
  · exact bits_mul_le h2 h0 h1
  · have hb := intBits_le h4
    have : (Builtin.Int.intBits i : Int) * j ≤ 60000 * j := Int.mul_le_mul_of_nonneg_right (by omega) h0
    omega
def CSh (i j : Int) : Prop := 0 ≤ j ∧ (Builtin.Int.intBits i : Int) + j ≤ 2 ^ 27
abbrev pSub : P2 := pInt (fun _ _ => True) fun i j => i - j
abbrev pDiv : P2 := pInt CDv fun i j => i.fdiv j
abbrev pMod : P2 := pInt (fun _ j => j ≠ 0) fun i j => i.fmod j
abbrev pPow : P2 := pInt CPw fun i j => i ^ j.toNat
abbrev pShl : P2 := pInt CSh fun i j => i * 2 ^ j.toNat
theorem op_mulI : OpR X (binaryOp .Mult) (rI MulOk fun i j => .int (i * j)) := opI fun _ _ _ _ _ _ _ hc q => mul_int q hc.ok
theorem op_divI : OpR X (binaryOp .FloorDiv) (rI CDv fun i j => .int (i.fdiv j)) := opI fun _ _ _ _ _ _ _ hc q => floordiv_int hc.1 q (.inl (hc.2.elim (fun h => PyProof.noPylong_of_log2 (PySem.Flt.log2_lt_of (by decide) h)) (fun h => noPy_big (PySem.Flt.log2_lt_of (by decide) h))))
theorem rI0_I {g : Int → Int → V} {f : Value → Value → Sem Value} (h : OpR X f (rI0 g)) : OpR X f (rI (fun _ _ => True) g) := by
  intro pins s σ H x y v u Q I rx ry q
  obtain ⟨i, j, e1, e2, _, q⟩ := q
  exact h pins s σ H x y v u Q I rx ry ⟨i, j, e1, e2, q⟩
theorem o_sub : OpP X (binaryOp .Sub) pSub := opp_int (rI0_I op_sub) fun _ _ h => h
theorem o_div : OpP X (binaryOp .FloorDiv) pDiv := opp_int op_divI fun _ _ h => h
theorem o_mod : OpP X (binaryOp .Mod) pMod := opp_int op_modN fun _ _ h => h
theorem op_powX : OpR X (binaryOp .Pow) (rI CPw fun i j => .int (i ^ j.toNat)) := opI fun _ _ _ _ _ _ _ hc q => pow_int hc.1 hc.sz q
theorem o_pow : OpP X (binaryOp .Pow) pPow := opp_int op_powX fun _ _ h => h
/-- comparisons of ints -/
abbrev pCmp (g : Int → Int → Bool) : P2 := fun x y S W => match x, y with
  | .r (.d (.int i)), .r (.d (.int j)) => W (.r (.d (.bl (g i j)))) S
  | _, _ => False
theorem opp_cmp {f : Value → Value → Sem Value} {g : Int → Int → Bool} (h : OpR X f (rI0 fun i j => .bl (g i j))) : OpP X f (pCmp g) := by
  refine ⟨_, h, fun x y S W v u m H H0 Q r qx qy w f => ?_⟩
  unfold pCmp at w
  split at w
  · rename_i i j
    exact ⟨i, j, qx, qy, f.here r (x := svb (g i j)) rfl w⟩
  · exact w.elim
abbrev pLt : P2 := pCmp fun i j => decide (i < j)
abbrev pLe : P2 := pCmp fun i j => decide (i ≤ j)
abbrev pGt : P2 := pCmp fun i j => decide (j < i)
abbrev pGe : P2 := pCmp fun i j => decide (j ≤ i)
theorem o_lt : OpP X (compareOp .Lt) pLt := opp_cmp op_lt
theorem o_gt : OpP X (compareOp .Gt) pGt := opp_cmp op_gt
theorem o_ge : OpP X (compareOp .GtE) pGe := opp_cmp op_ge
abbrev pNeg : P1 := fun x S W => match x with
  | .r (.d (.int i)) => W (.r (.d (.int (-i)))) S
  | _ => False
theorem u_neg : UnP X (unaryOp .USub) pNeg := by
  refine ⟨_, un_neg, fun x S W v m H H0 Q r qx w f => ?_⟩
  unfold pNeg at w
  split at w
  · rename_i i
    exact ⟨i, qx, f.here r (x := svi (-i)) rfl w⟩
  · exact w.elim
/-! ### + and * also of rows -/
def wrL : SV → Bool
  | .r (.loc _) | .f _ => true
  | _ => false
theorem wrL_of {x : SV} (h : wrL x = true) : isLst x = true ∧ (∀ ys, x ≠ .r (.ro ys)) ∧ ∀ ys, x ≠ .r (.d (.lst ys)) := by
  cases x with
  | f xs => exact ⟨rfl, (fun _ q => nomatch q), fun _ q => nomatch q⟩
  | r y => cases y with
    | loc n => exact ⟨rfl, (fun _ q => nomatch q), fun _ q => nomatch q⟩
    | d _ => cases h
    | ro _ => cases h
    | tr _ => cases h
    | ex _ => cases h
    | ad _ => cases h
abbrev pAddI : P2 := fun x y S W => match x, y with
  | .r (.d (.int i)), .r (.d (.int j)) => W (.r (.d (.int (i + j)))) S
  | .r (.d (.tup xs)), .r (.d (.tup ys)) => xs.length + ys.length ≤ 16777216 ∧ W (.r (.d (.tup (xs ++ ys)))) S
  | _, _ => False
/-- two lists -/
abbrev pCat : P2 := fun x y S W => match wrL x && wrL y, seqOf S x, seqOf S y with
  | true, some xs, some ys => xs.length + ys.length ≤ 16777216 ∧ W (.f (xs ++ ys)) S
  | _, _, _ => False
theorem o_cat : OpP X (binaryOp .Add) pCat := by
  refine ⟨_, op_cat, fun x y S W v u m H H0 Q r qx qy w f => ?_⟩
  unfold pCat at w
  split at w
  · rename_i xs ys e0 e1 e2
    rw [Bool.and_eq_true] at e0
    obtain ⟨a, vs, rfl, h1, h2⟩ := qx.lst r e1 (wrL_of e0.1).1 (wrL_of e0.1).2
    obtain ⟨b, us, rfl, h3, h4⟩ := qy.lst r e2 (wrL_of e0.2).1 (wrL_of e0.2).2
    exact ⟨a, b, vs, us, rfl, rfl, h2, h4, by rw [h1.len, h3.len, sizeLine_eq]; exact w.1, f.lst r (h1.app h3) w.2⟩
  · exact w.elim
theorem o_addI : OpP X (binaryOp .Add) pAddI := by
  have a1 : OpP X (binaryOp .Add) (pInt (fun _ _ => True) fun i j => i + j) := opp_int (rI0_I op_add) fun _ _ h => h
  have a2 : OpP X (binaryOp .Add) (fun x y S W => ∃ xs ys, x = svt xs ∧ y = svt ys ∧ xs.length + ys.length ≤ 16777216 ∧ W (svt (xs ++ ys)) S) := by
    refine ⟨_, op_catA, fun x y S W v u m H H0 Q r qx qy w f => ?_⟩
    obtain ⟨xs, ys, rfl, rfl, hl, w⟩ := w
    obtain ⟨a, vs, rfl, h1, h2⟩ := qx
    obtain ⟨b, us, rfl, h3, h4⟩ := qy
    refine ⟨a, b, vs, us, rfl, rfl, h1, h3, by rw [RepDs.len h2, RepDs.len h4, sizeLine_eq]; exact hl, fun e => ?_, fun e1 e2 => ?_, fun _ _ => f.tup r (RepDs.app h2 h4) w⟩
    · subst e
      have : xs = [] := by have := RepDs.len h2; simpa using this.symm
      subst this
      exact f.here r (x := svt ys) ⟨b, us, rfl, h3, h4⟩ (by simpa using w)
    · subst e2
      have : ys = [] := by have := RepDs.len h4; simpa using this.symm
      subst this
      exact f.here r (x := svt xs) ⟨a, vs, rfl, h1, h2⟩ (by simpa using w)
  refine (a1.or a2).imp fun x y S W w => ?_
  unfold pAddI at w
  split at w
  · exact .inl ⟨trivial, w⟩
  · exact .inr ⟨_, _, rfl, rfl, w⟩
  · exact w.elim
abbrev pMulI : P2 := fun x y S W => match x, y with
  | .r (.d (.int i)), .r (.d (.int j)) => MulOk i j ∧ W (.r (.d (.int (i * j)))) S
  | .r (.d (.tup xs)), .r (.d (.int k)) => xs ≠ [] ∧ 2 ≤ k ∧ k ≤ 1000 ∧ xs.length ≤ 1000 ∧ W (.r (.d (.tup (List.replicate k.toNat xs).flatten))) S
  | _, _ => False
theorem RepDs.rep {K : PySem.W.Frag} {H : Hp} {xs : List D} {vs : List V} (h : RepDs K H xs vs) : ∀ k : Nat, RepDs K H (List.replicate k xs).flatten (List.replicate k vs).flatten
  | 0 => by simp [RepDs]
  | k + 1 => by
    rw [List.replicate_succ, List.replicate_succ, List.flatten_cons, List.flatten_cons]
    exact h.app (RepDs.rep h k)
theorem o_mulI : OpP X (binaryOp .Mult) pMulI := by
  have a1 : OpP X (binaryOp .Mult) (pInt MulOk fun i j => i * j) := opp_int op_mulI fun _ _ h => h
  have a2 : OpP X (binaryOp .Mult) (fun x y S W => ∃ xs k, x = svt xs ∧ y = svi k ∧ xs ≠ [] ∧ 2 ≤ k ∧ k ≤ 1000 ∧ xs.length ≤ 1000 ∧ W (svt (List.replicate k.toNat xs).flatten) S) := by
    refine ⟨_, op_repT, fun x y S W v u m H H0 Q r qx qy w f => ?_⟩
    obtain ⟨xs, k, rfl, rfl, hne, h1, h2, hl, w⟩ := w
    obtain ⟨a, vs, rfl, h3, h4⟩ := qx
    have hlen := RepDs.len h4
    refine ⟨a, k, vs, rfl, qy, h3, fun e => hne ?_, h1, h2, by rw [hlen]; exact hl, f.tup r (RepDs.rep h4 _) w⟩
    subst e
    simpa using hlen.symm
  refine (a1.or a2).imp fun x y S W w => ?_
  unfold pMulI at w
  split at w
  · exact .inl w
  · exact .inr ⟨_, _, rfl, rfl, w⟩
  · exact w.elim
/-! ### equality -/
mutual
def py : D → PyData
  | .non => .none
  | .bl b => .bool b
  | .int i => .int i
  | .str x => .str x
  | .tup xs => .tuple (pys xs)
  | .lst xs => .list (pys xs)
def pys : List D → List PyData
  | [] => []
  | x :: xs => py x :: pys xs
end
theorem py_plains : ∀ xs : List D, PyData.plainAll (pys xs) = true := by
  have h : (∀ x : D, PyData.plain (py x) = true) ∧ ∀ xs : List D, PyData.plainAll (pys xs) = true := by
    constructor
    · intro x
      exact D.rec (motive_1 := fun x => PyData.plain (py x) = true) (motive_2 := fun xs => PyData.plainAll (pys xs) = true) rfl (fun _ => rfl) (fun _ => rfl) (fun _ => rfl) (fun xs h => by simpa [py, PyData.plain] using h) (fun xs h => by simpa [py, PyData.plain] using h) rfl (fun x xs h1 h2 => by simp [pys, PyData.plainAll, h1, h2]) x
    · intro xs
      exact D.rec_1 (motive_1 := fun x => PyData.plain (py x) = true) (motive_2 := fun xs => PyData.plainAll (pys xs) = true) rfl (fun _ => rfl) (fun _ => rfl) (fun _ => rfl) (fun xs h => by simpa [py, PyData.plain] using h) (fun xs h => by simpa [py, PyData.plain] using h) rfl (fun x xs h1 h2 => by simp [pys, PyData.plainAll, h1, h2]) xs
  exact h.2
theorem py_plain (x : D) : PyData.plain (py x) = true := by
  have := py_plains [x]
  simpa [pys, PyData.plainAll] using this
mutual
theorem RepD.dp {K : PySem.W.Frag} {H : Hp} : ∀ (x : D) (v : V), RepD K H x v → Dp K H v (py x)
  | .non, v, h => by cases h; exact .non
  | .bl b, v, h => by cases h; exact .bl b
  | .int i, v, h => by cases h; exact .int i
  | .str x, v, h => by cases h; exact .str x
  | .tup xs, v, ⟨a, vs, e, h, r⟩ => by subst e; exact .tup h (RepDs.dp xs vs r)
  | .lst xs, v, ⟨a, vs, e, h, r⟩ => by subst e; exact .lst h.sq (RepDs.dp xs vs r)
theorem RepDs.dp {K : PySem.W.Frag} {H : Hp} : ∀ (xs : List D) (vs : List V), RepDs K H xs vs → DpAll K H vs (pys xs)
  | [], v, h => by cases h; exact .nil
  | x :: xs, _, ⟨v, r, e, h, t⟩ => by subst e; exact .cons (RepD.dp x v h) (RepDs.dp xs r t)
end
/-- what the items of a tuple of values read as -/
def pyTr (S : Sto) : List R → Option (List PyData)
  | [] => some []
  | .d x :: r => (pyTr S r).map (py x :: ·)
  | .loc n :: r => match S[n]? with
    | some (.lst xs) => (pyTr S r).map (.list (pys xs) :: ·)
    | _ => none
  | _ :: _ => none
theorem RepRs.pyT {K : PySem.W.Frag} {m : List Addr} {H : Hp} {S : Sto} (r : RepS K m H S) : ∀ {xs : List R} {vs : List V} {ds : List PyData}, RepRs K m H xs vs → pyTr S xs = some ds → DpAll K H vs ds ∧ PyData.plainAll ds = true
  | [], vs, ds, h, e => by cases h; simp only [pyTr, Option.some.injEq] at e; subst e; exact ⟨.nil, rfl⟩
  | .d x :: xs, _, ds, ⟨v, t, e1, h, q⟩, e => by
    subst e1
    simp only [pyTr, Option.map_eq_some_iff] at e
    obtain ⟨ds', e2, rfl⟩ := e
    obtain ⟨h1, h2⟩ := RepRs.pyT r q e2
    exact ⟨.cons (RepD.dp x v h) h1, by simp [PyData.plainAll, py_plain, h2]⟩
  | .loc n :: xs, _, ds, ⟨v, t, e1, ⟨a, h, e0⟩, q⟩, e => by
    subst e1 e0
    simp only [pyTr] at e
    split at e
    · rename_i ys e3
      rw [Option.map_eq_some_iff] at e
      obtain ⟨ds', e2, rfl⟩ := e
      obtain ⟨h1, h2⟩ := RepRs.pyT r q e2
      obtain ⟨a', h', vs, k1, k2⟩ := r.at_ n _ e3
      rw [h] at h'; cases h'
      exact ⟨.cons (.lst (.inl (.inl k1)) (RepDs.dp ys vs k2)) h1, by simp [PyData.plainAll, PyData.plain, py_plains, h2]⟩
    · cases e
  | .ro _ :: _, _, _, _, e => by cases e
  | .ex _ :: _, _, _, _, e => by cases e
  | .ad _ :: _, _, _, _, e => by cases e
  | .tr _ :: _, _, _, _, e => by cases e
/-- what a value reads as -/
def pyOf (S : Sto) : SV → Option PyData
  | .r (.d x) => some (py x)
  | .r (.loc n) => match S[n]? with
    | some (.lst xs) => some (.list (pys xs))
    | _ => none
  | .r (.ro xs) => some (.list (pys xs))
  | .f xs => some (.list (pys xs))
  | .r (.tr xs) => (pyTr S xs).map PyData.tuple
  | .r (.ex _) => none
  | .r (.ad _) => none
theorem RepV.py {K : PySem.W.Frag} {m : List Addr} {H H0 : Hp} {S : Sto} {x : SV} {v : V} {d : PyData} (h : RepV K m H H0 x v) (r : RepS K m H S) (e : pyOf S x = some d) : Dp K H v d ∧ PyData.plain d = true := by
  cases x with
  | f ys =>
    obtain ⟨a, vs, rfl, h1, _, _, h4⟩ := h
    simp only [pyOf, Option.some.injEq] at e; subst e
    exact ⟨.lst (.inl (.inl h1)) (RepDs.dp ys vs h4), by simp [PyData.plain, py_plains]⟩
  | r y =>
    cases y with
    | d y => simp only [pyOf, Option.some.injEq] at e; subst e; exact ⟨RepD.dp y v h, py_plain y⟩
    | tr ys =>
      obtain ⟨a, vs, rfl, h1, h2⟩ := h
      simp only [pyOf, Option.map_eq_some_iff] at e
      obtain ⟨ds, e1, rfl⟩ := e
      obtain ⟨k1, k2⟩ := RepRs.pyT r h2 e1
      exact ⟨.tup h1 k1, by simpa [PyData.plain] using k2⟩
    | ex ys => cases e
    | ad ys => cases e
    | ro ys =>
      obtain ⟨a, vs, rfl, h1, h2⟩ := h
      simp only [pyOf, Option.some.injEq] at e; subst e
      exact ⟨.lst h1.sq (RepDs.dp ys vs h2), by simp [PyData.plain, py_plains]⟩
    | loc n =>
      obtain ⟨a, h1, rfl⟩ := h
      simp only [pyOf] at e
      split at e
      · rename_i ys e2
        cases e
        obtain ⟨a', h1', vs, h2, h3⟩ := r.at_ n _ e2
        rw [h1] at h1'; cases h1'
        exact ⟨.lst (.inl (.inl h2)) (RepDs.dp ys vs h3), by simp [PyData.plain, py_plains]⟩
      · cases e
abbrev pEqB (neg : Bool) : P2 := fun x y S W => match pyOf S x, pyOf S y with
  | some d, some e => min d.depth e.depth ≤ 64 ∧ W (.r (.d (.bl (if neg then !PyData.eqv d e else PyData.eqv d e)))) S
  | _, _ => False
abbrev pEq : P2 := pEqB false
abbrev pNe : P2 := pEqB true
theorem o_eq (hu : X.A.units + 64 < cLine) : OpP X (compareOp .Eq) pEq := by
  refine ⟨fun x y H Q => ∃ d e, Dp X.K H x d ∧ Dp X.K H y e ∧ d.plain = true ∧ e.plain = true ∧ min d.depth e.depth ≤ 64 ∧ Q (.bl (PyData.eqv d e)) H, ?_, fun x y S W v u m H H0 Q r qx qy w f => ?_⟩
  · intro pins s σ H x y v u Q I rx ry h
    obtain ⟨d, e, hd, he, sd, se, hm, q⟩ := h
    obtain ⟨as, r1⟩ := Dp.reads I d x v hd rx
    obtain ⟨bs, r2⟩ := Dp.reads I e y u he ry
    exact SeqAt.eq_plain r1 r2 sd se (by omega) ⟨.bl _, H, I, rfl, q⟩
  · simp only [pEq, pNe, pEqB] at w
    split at w
    · rename_i d e e1 e2
      obtain ⟨h1, h2⟩ := qx.py r e1
      obtain ⟨h3, h4⟩ := qy.py r e2
      exact ⟨d, e, h1, h3, h2, h4, w.1, f.here r (x := svb _) rfl w.2⟩
    · exact w.elim
theorem o_ne (hu : X.A.units + 64 < cLine) : OpP X (compareOp .NotEq) pNe := by
  refine ⟨fun x y H Q => ∃ d e, Dp X.K H x d ∧ Dp X.K H y e ∧ d.plain = true ∧ e.plain = true ∧ min d.depth e.depth ≤ 64 ∧ Q (.bl (!PyData.eqv d e)) H, ?_, fun x y S W v u m H H0 Q r qx qy w f => ?_⟩
  · intro pins s σ H x y v u Q I rx ry h
    obtain ⟨d, e, hd, he, sd, se, hm, q⟩ := h
    obtain ⟨as, r1⟩ := Dp.reads I d x v hd rx
    obtain ⟨bs, r2⟩ := Dp.reads I e y u he ry
    exact SeqAt.ne_plain r1 r2 sd se (by omega) ⟨.bl _, H, I, rfl, q⟩
  · simp only [pEq, pNe, pEqB] at w
    split at w
    · rename_i d e e1 e2
      obtain ⟨h1, h2⟩ := qx.py r e1
      obtain ⟨h3, h4⟩ := qy.py r e2
      exact ⟨d, e, h1, h3, h2, h4, w.1, f.here r (x := svb _) rfl w.2⟩
    · exact w.elim
/-- in, not in: an item of a row -/
abbrev pInB (neg : Bool) : P2 := fun x y S W => match pyOf S x, seqOf S y with
  | some d, some ys => d.depth ≤ 60 ∧ W (.r (.d (.bl (if neg then !((pys ys).any fun z => PyData.eqv z d) else (pys ys).any fun z => PyData.eqv z d)))) S
  | _, _ => False
theorem RepV.reads {K : PySem.W.Frag} {m : List Addr} {H H0 : Hp} {S : Sto} {y : SV} {v : V} {ys : List D} (h : RepV K m H H0 y v) (r : RepS K m H S) (e : seqOf S y = some ys) : Dp K H v (if isLst y = true then .list (pys ys) else .tuple (pys ys)) := by
  obtain ⟨a, vs, rfl, h1, h2⟩ := h.seq r e
  split at h2 <;> rename_i hl
  · rw [if_pos hl]; exact .lst h2 (RepDs.dp ys vs h1)
  · rw [if_neg hl]; exact .tup h2 (RepDs.dp ys vs h1)
/-- is None, is not None -/
def isNon : SV → Bool
  | .r (.d .non) => true
  | _ => false
abbrev pIsN (neg : Bool) : P2 := fun x y S W => match y with
  | .r (.d .non) => W (.r (.d (.bl (if neg then !isNon x else isNon x)))) S
  | _ => False
end
/-! ### items, slices -/
section
variable {X : Cx} {e a b : Expr} {es : List Expr} {pos p2 : Pos} {wa wb wl wh : PE1} {was : PA1}
def getI (xs : List D) (k : Int) : Option D := if 0 ≤ k then xs[k.toNat]? else if -(xs.length : Int) ≤ k then xs[(k + xs.length).toNat]? else none
abbrev pIx : P2 := fun x y S W => match seqOf S x, y with
  | some xs, .r (.d (.int k)) => match getI xs k with
    | some z => W (.r (.d z)) S
    | none => False
  | _, _ => False
theorem RepDs.atI {K : PySem.W.Frag} {H : Hp} {xs : List D} {vs : List V} {k : Int} {z : D} (h : RepDs K H xs vs) (e : getI xs k = some z) : ∃ v, L2.atI vs k = some v ∧ RepD K H z v := by
  unfold getI at e
  unfold L2.atI ixN
  have hl := RepDs.len h
  rw [hl]
  by_cases h0 : 0 ≤ k
  · rw [if_pos h0] at e
    obtain ⟨v, h1, h2⟩ := RepDs.get h e
    have : k.toNat < vs.length := (List.getElem?_eq_some_iff.mp h1).1
    rw [if_pos h0, if_pos (by omega)]
    exact ⟨v, h1, h2⟩
  · rw [if_neg h0] at e
    split at e
    · rename_i h1
      obtain ⟨v, h2, h3⟩ := RepDs.get h e
      rw [if_neg h0, if_pos h1]
      exact ⟨v, h2, h3⟩
    · cases e
theorem we_ix (ha : WE X a wa) (hb : WE X b wb) (hs : PlainIx b) : WE X (.Subscript a b pos) (wBin pIx wa wb) := by
  refine ⟨peImp (pe_ix (ix_list.or ix_tup) ha.pe hb.pe hs) fun s H Q ⟨m, ρ, S, W, hE, hS, hw, hf⟩ => up2 hE hS hw fun x y S2 v u m2 H2 z g2 r2 qx qy => ?_⟩
  unfold pIx at z
  split at z
  · rename_i xs k e1
    split at z
    · rename_i d e2
      obtain ⟨p, vs, rfl, h1, h2⟩ := qx.seq r2 e1
      obtain ⟨w, h3, h4⟩ := RepDs.atI h1 e2
      have fin := hf.later g2 r2
      split at h2
      · exact .inl ⟨p, vs, k, w, rfl, qy, h2, h3, fin.here r2 (x := .r (.d d)) h4 z⟩
      · exact .inr ⟨p, vs, k, w, rfl, qy, h2, h3, fin.here r2 (x := .r (.d d)) h4 z⟩
    · exact z.elim
  · exact z.elim
/-- a slice's bound -/
structure WO (X : Cx) (e : Option Expr) (w : Rho → Sto → (Option Int → Sto → Prop) → Prop) : Prop where
  po : PO X e (fun s H Q => ∃ m r S W, RepE X.K m H r s ∧ RepS X.K m H S ∧ w r S W ∧ ∀ o S' m' H', W o S' → Grow m H m' H' → RepS X.K m' H' S' → Q o H')
abbrev wNo : Rho → Sto → (Option Int → Sto → Prop) → Prop := fun _ S W => W none S
abbrev wSome (w : PE1) : Rho → Sto → (Option Int → Sto → Prop) → Prop := fun r S W => w r S fun x S1 => match x with
  | .r (.d (.int i)) => W (some i) S1
  | _ => False
theorem wo_none : WO X none wNo := ⟨⟨fun pins s z H Q I ⟨m, r, S, W, hE, hS, hw, hf⟩ => (po_none (X := X)).run pins s z H Q I (hf none S m H hw Grow.refl hS)⟩⟩
theorem wo_some (h : WE X e wa) : WO X (some e) (wSome wa) := ⟨⟨fun pins s z H Q I ⟨m, r, S, W, hE, hS, hw, hf⟩ => (po_some h.pe).run pins s z H Q I (up1 hE hS hw fun x S1 v m1 H1 h1 g1 r1 q1 => by
    split at h1
    · rename_i i
      exact ⟨i, q1, hf _ S1 m1 H1 h1 g1 r1⟩
    · exact h1.elim)⟩⟩
def cutD (xs : List D) (lo hi : Option Int) : List D := (xs.drop (HT.sIx xs.length 0 lo)).take (HT.sIx xs.length xs.length hi - HT.sIx xs.length 0 lo)
abbrev wSl (wa : PE1) (wl wh : Rho → Sto → (Option Int → Sto → Prop) → Prop) : PE1 := fun r S W => wa r S fun x S1 => wl r S1 fun lo S2 => wh r S2 fun hi S3 => match seqOf S3 x with
  | some xs => W (if isLst x then .f (cutD xs lo hi) else .r (.d (.tup (cutD xs lo hi)))) S3
  | none => False
theorem RepDs.cut {K : PySem.W.Frag} {H : Hp} {xs : List D} {vs : List V} (h : RepDs K H xs vs) (lo hi : Option Int) : RepDs K H (cutD xs lo hi) (cutV vs lo hi) := by
  unfold cutD cutV
  rw [RepDs.len h]
  exact (h.drop _).take _
theorem cut_whole {xs : List D} {lo hi : Option Int} (h : HT.sIx xs.length 0 lo = 0 ∧ HT.sIx xs.length xs.length hi = xs.length) : cutD xs lo hi = xs := by
  unfold cutD
  rw [h.1, h.2]; simp
theorem we_slice {lo hi : Option Expr} {wl wh : Rho → Sto → (Option Int → Sto → Prop) → Prop} (ha : WE X a wa) (hl : WO X lo wl) (hh : WO X hi wh) : WE X (.Subscript a (.Slice lo hi none p2) pos) (wSl wa wl wh) := by
  refine ⟨peImp (pe_slice (sl_list.or sl_tupA) ha.pe hl.po hh.po) fun s H Q ⟨m, ρ, S, W, hE, hS, hw, hf⟩ => up1 hE hS hw fun x S1 v m1 H1 h1 g1 r1 q1 => ?_⟩
  refine ⟨m1, ρ, S1, _, hE.grow g1, r1, h1, fun lo S2 m2 H2 h2 g2 r2 => ⟨m2, ρ, S2, _, (hE.grow g1).grow g2, r2, h2, fun hi S3 m3 H3 h3 g3 r3 => ?_⟩⟩
  split at h3
  · rename_i xs e
    have g13 := g2.trans g3
    obtain ⟨p, vs, rfl, k1, k2⟩ := (q1.grow g13).seq r3 e
    have fin := hf.later (g1.trans g13) r3
    have hc := k1.cut lo hi
    split at k2 <;> rename_i hl
    · rw [if_pos hl] at h3
      exact .inl ⟨p, vs, rfl, k2, fin.lst r3 hc h3⟩
    · rw [if_neg hl] at h3
      refine .inr ⟨p, vs, rfl, k2, fun hw => ?_, fun _ => fin.tup r3 hc h3⟩
      rw [RepDs.len k1] at hw
      rw [cut_whole hw] at h3
      exact fin.here r3 (x := svt xs) ⟨p, vs, rfl, k2, k1⟩ h3
  · exact h3.elim
/-! ### built-in functions -/
abbrev PF := List SV → Sto → PK1 → Prop
def FnP (X : Cx) (f : Value) (rp : PF) : Prop :=
  ∃ r : List V → Hp → VK → Prop, CallR X f r ∧ ∀ xs S W vs m H H0 Q, RepS X.K m H S → RepVs X.K m H H0 xs vs → rp xs S W → Fin X.K m H W Q → r vs H Q
abbrev wFn (rp : PF) (ws : PA1) : PE1 := fun r S W => ws r S fun xs S1 => rp xs S1 W
theorem we_blt {id : String} {x : Str} {p : Pos} {rp : PF} (hc : FnP X (.builtin id) rp) (hg : Gl X x) (hm : X.mg x = none) (hv : bootBuiltins x = some (.builtin id)) (ha : WA X (e :: es) was) (hn : x ≠ "__name__" := by decide) (hdb : (x == ("__debug__" : Str)) = false := by decide)
    (he : starEach (e :: es) X.env = (false, eval e X.env) :: starEach es X.env := by rfl) (hpl : (backTo pos (starEach es X.env)).any (·.1) = false := by rfl) : WE X (.Call (.Name x p) (e :: es) [] pos) (wFn rp was) := by
  obtain ⟨r, h1, h2⟩ := hc
  exact ⟨peImp (pe_callB h1 hg hm hv ha.pa hn hdb he hpl) fun s H Q ⟨m, ρ, S, W, hE, hS, hw, hf⟩ => ⟨m, ρ, S, _, hE, hS, hw, fun xs S1 vs m1 H1 k1 g1 r1 q1 => h2 xs S1 W vs m1 H1 H Q r1 q1 k1 (hf.later g1 r1)⟩⟩
theorem we_ty {T : String} {x : Str} {p : Pos} {rp : PF} (hc : FnP X (.type T) rp) (hg : Gl X x) (hm : X.mg x = none) (hv : bootBuiltins x = some (.type T)) (ha : WA X (e :: es) was) (hn : x ≠ "__name__" := by decide) (hdb : (x == ("__debug__" : Str)) = false := by decide)
    (he : starEach (e :: es) X.env = (false, eval e X.env) :: starEach es X.env := by rfl) (hpl : (backTo pos (starEach es X.env)).any (·.1) = false := by rfl) : WE X (.Call (.Name x p) (e :: es) [] pos) (wFn rp was) := by
  obtain ⟨r, h1, h2⟩ := hc
  exact ⟨peImp (pe_callTy h1 hg hm hv ha.pa hn hdb he hpl) fun s H Q ⟨m, ρ, S, W, hE, hS, hw, hf⟩ => ⟨m, ρ, S, _, hE, hS, hw, fun xs S1 vs m1 H1 k1 g1 r1 q1 => h2 xs S1 W vs m1 H1 H Q r1 q1 k1 (hf.later g1 r1)⟩⟩
theorem RepVs.one {K : PySem.W.Frag} {m : List Addr} {H H0 : Hp} {x : SV} {vs : List V} (h : RepVs K m H H0 [x] vs) : ∃ v, vs = [v] ∧ RepV K m H H0 x v := by
  obtain ⟨v, r, e, h1, h2⟩ := h; cases h2; exact ⟨v, e, h1⟩
theorem RepVs.two {K : PySem.W.Frag} {m : List Addr} {H H0 : Hp} {x y : SV} {vs : List V} (h : RepVs K m H H0 [x, y] vs) : ∃ v u, vs = [v, u] ∧ RepV K m H H0 x v ∧ RepV K m H H0 y u := by
  obtain ⟨v, r, rfl, h1, h2⟩ := h
  obtain ⟨u, rfl, h3⟩ := RepVs.one h2
  exact ⟨v, u, rfl, h1, h3⟩
abbrev fLen : PF := fun xs S W => match xs with
  | [x] => match seqOf S x with
    | some ys => W (.r (.d (.int ys.length))) S
    | none => False
  | _ => False
theorem f_len : FnP X (.builtin "len") fLen := by
  refine ⟨_, call_len_seq, fun xs S W vs m H H0 Q r q w f => ?_⟩
  unfold fLen at w
  split at w
  · rename_i x
    obtain ⟨v, rfl, q1⟩ := q.one
    split at w
    · rename_i ys e
      obtain ⟨p, us, rfl, h1, h2⟩ := q1.seq r e
      refine ⟨p, us, rfl, ?_, ?_⟩
      · split at h2
        · exact .inl h2
        · exact .inr h2
      · rw [RepDs.len h1]; exact f.here r (x := svi _) rfl w
    · exact w.elim
  · exact w.elim
abbrev fTup : PF := fun xs S W => match xs with
  | [x] => match seqOf S x with
    | some ys => W (.r (.d (.tup ys))) S
    | none => False
  | _ => False
theorem f_tup : FnP X (.type "tuple") fTup := by
  refine ⟨_, call_tuple_of, fun xs S W vs m H H0 Q r q w f => ?_⟩
  unfold fTup at w
  split at w
  · rename_i x
    obtain ⟨v, rfl, q1⟩ := q.one
    split at w
    · rename_i ys e
      obtain ⟨p, us, rfl, h1, h2⟩ := q1.seq r e
      refine ⟨p, us, rfl, ?_⟩
      split at h2
      · exact .inl ⟨h2, f.tup r h1 w⟩
      · exact .inr ⟨h2, f.here r (x := svt ys) ⟨p, us, rfl, h2, h1⟩ w⟩
    · exact w.elim
  · exact w.elim
abbrev fList : PF := fun xs S W => match xs with
  | [x] => match seqOf S x with
    | some ys => W (.f ys) S
    | none => False
  | _ => False
/-- the ints of a row -/
def intsOf : List D → Option (List Int)
  | [] => some []
  | .int i :: r => (intsOf r).map (i :: ·)
  | _ :: _ => none
theorem intsOf_map : ∀ ns : List Int, intsOf (ns.map D.int) = some ns
  | [] => rfl
  | n :: ns => by simp [intsOf, intsOf_map ns]
theorem ints_eq : ∀ {xs : List D} {ns : List Int}, intsOf xs = some ns → xs = ns.map D.int
  | [], ns, h => by simp [intsOf] at h; subst h; rfl
  | .int i :: xs, ns, h => by
    simp only [intsOf, Option.map_eq_some_iff] at h
    obtain ⟨r, h1, rfl⟩ := h
    rw [ints_eq h1]; rfl
  | .non :: _, _, h => by cases h
  | .bl _ :: _, _, h => by cases h
  | .str _ :: _, _, h => by cases h
  | .tup _ :: _, _, h => by cases h
  | .lst _ :: _, _, h => by cases h
theorem RepDs.toInts {K : PySem.W.Frag} {H : Hp} : ∀ {ns : List Int} {vs : List V}, RepDs K H (ns.map D.int) vs → vs = ns.map V.int
  | [], _, h => h
  | n :: ns, _, ⟨v, r, e, h, t⟩ => by subst e; rw [RepDs.toInts t, show v = V.int n from h]; rfl
theorem repInts {K : PySem.W.Frag} {H : Hp} : ∀ ns : List Int, RepDs K H (ns.map D.int) (ns.map V.int)
  | [] => rfl
  | n :: ns => ⟨_, _, rfl, rfl, repInts ns⟩
abbrev fSum : PF := fun xs S W => match xs with
  | [x] => match isLst x, (seqOf S x).bind intsOf with
    | true, some ns => W (.r (.d (.int ns.sum))) S
    | _, _ => False
  | _ => False
theorem f_sum (hc : X.calm = true) : FnP X (.builtin "sum") fSum := by
  refine ⟨_, cr_sum hc, fun xs S W vs m H H0 Q r q w f => ?_⟩
  unfold fSum at w
  split at w
  · rename_i x
    obtain ⟨v, rfl, q1⟩ := q.one
    split at w
    · rename_i ns hl e
      rw [Option.bind_eq_some_iff] at e
      obtain ⟨ys, e1, e2⟩ := e
      rw [ints_eq e2] at e1
      obtain ⟨p, us, rfl, h1, h2⟩ := q1.seq r e1
      rw [if_pos hl] at h2
      rw [RepDs.toInts h1] at h2
      exact ⟨p, ns, rfl, h2, f.here r (x := svi _) rfl w⟩
    · exact w.elim
  · exact w.elim
abbrev fAbs : PF := fun xs S W => match xs with
  | [.r (.d (.int i))] => W (.r (.d (.int i.natAbs))) S
  | _ => False
theorem f_abs : FnP X (.builtin "abs") fAbs := by
  refine ⟨_, call_abs, fun xs S W vs m H H0 Q r q w f => ?_⟩
  unfold fAbs at w
  split at w
  · rename_i i
    obtain ⟨v, rfl, q1⟩ := q.one
    obtain rfl : v = V.int i := q1
    refine ⟨i, rfl, ?_⟩
    have e : (if i < 0 then -i else i) = (i.natAbs : Int) := by split <;> omega
    rw [e]
    exact f.here r (x := svi _) rfl w
  · exact w.elim
abbrev fMax2 : PF := fun xs S W => match xs with
  | [.r (.d (.int i)), .r (.d (.int j))] => W (.r (.d (.int (max i j)))) S
  | _ => False
abbrev fMin2 : PF := fun xs S W => match xs with
  | [.r (.d (.int i)), .r (.d (.int j))] => W (.r (.d (.int (min i j)))) S
  | _ => False
abbrev fInt : PF := fun xs S W => match xs with
  | [.r (.d (.int i))] => W (.r (.d (.int i))) S
  | [.r (.d (.bl b))] => W (.r (.d (.int (if b = true then 1 else 0)))) S
  | _ => False
/-! ### isinstance with a built-in type -/
def tyN : SV → String
  | .r (.d .non) => "NoneType"
  | .r (.d (.bl _)) => "bool"
  | .r (.d (.int _)) => "int"
  | .r (.d (.str _)) => "str"
  | .r (.d (.tup _)) => "tuple"
  | .r (.d (.lst _)) => "list"
  | .r (.tr _) => "tuple"
  | .r (.loc _) => "list"
  | .r (.ro _) => "list"
  | .r (.ex _) => "list"
  | .r (.ad _) => "list"
  | .f _ => "list"
/-- is it one of the type T? -/
def isT (T : String) (x : SV) : Bool := tyN x == T || (tyN x == "bool" && T == "int")
abbrev wIsi (T : String) (wa : PE1) : PE1 := fun r S W => wa r S fun x S1 => match x with
  | .r (.ex _) => False
  | .r (.ad _) => False
  | x => (∀ n, x = .r (.loc n) → isLo S1 n = true) ∧ W (.r (.d (.bl (isT T x)))) S1
end
end Z
set_option Elab.async false
set_option linter.all false
set_option maxRecDepth 100000
/-! Z4: statements, targets, loops, comprehensions. -/
namespace Z
open PySem PySem.Spec PyProof.Rows L2
/-- what is wanted behind a statement -/
structure En where
  nx : Rho → Sto → Prop
  rt : R → Sto → Prop
  bk : Rho → Sto → Prop := fun _ _ => False
  ct : Rho → Sto → Prop := fun _ _ => False
abbrev PS1 := En → Rho → Sto → Prop
structure Fins (K : PySem.W.Frag) (m : List Addr) (H : Hp) (N : En) (D : Ends) : Prop where
  nx : ∀ r' S' s' m' H', N.nx r' S' → Grow m H m' H' → RepE K m' H' r' s' → RepS K m' H' S' → D.nx s' H'
  rt : ∀ x S' v m' H', N.rt x S' → Grow m H m' H' → RepS K m' H' S' → RepR K m' H' x v → D.rt v H'
  bk : ∀ r' S' s' m' H', N.bk r' S' → Grow m H m' H' → RepE K m' H' r' s' → RepS K m' H' S' → D.bk s' H'
  ct : ∀ r' S' s' m' H', N.ct r' S' → Grow m H m' H' → RepE K m' H' r' s' → RepS K m' H' S' → D.ct s' H'
def upS (K : PySem.W.Frag) (w : PS1) : TS := fun D s H => ∃ m r S N, RepE K m H r s ∧ RepS K m H S ∧ w N r S ∧ Fins K m H N D
structure WS (X : Cx) (st : Stmt) (w : PS1) : Prop where
  ps : PS X st (upS X.K w)
structure WSs (X : Cx) (st : List Stmt) (w : PS1) : Prop where
  pss : PSs X st (upS X.K w)
section
variable {K : PySem.W.Frag} {m m0 m1 m2 : List Addr} {H H0 H1 H2 : Hp} {S S1 S2 : Sto} {N : En} {D : Ends}
theorem Fins.later (f : Fins K m H N D) (g : Grow m H m1 H1) : Fins K m1 H1 N D :=
  ⟨fun r' S' s' m' H' n g' e r => f.nx r' S' s' m' H' n (g.trans g') e r, fun x S' v m' H' n g' r q => f.rt x S' v m' H' n (g.trans g') r q,
   fun r' S' s' m' H' n g' e r => f.bk r' S' s' m' H' n (g.trans g') e r, fun r' S' s' m' H' n g' e r => f.ct r' S' s' m' H' n (g.trans g') e r⟩
mutual
theorem RepR.pre (g : ∀ (n : Nat) a, m[n]? = some a → m1[n]? = some a) : ∀ (x : R) (v : V), RepR K m H x v → RepR K m1 H x v
  | .d _, _, h => h
  | .loc n, _, ⟨a, h, e⟩ => ⟨a, g n a h, e⟩
  | .ro _, _, h => h
  | .tr xs, _, ⟨a, vs, e, h, r⟩ => ⟨a, vs, e, h, RepRs.pre g xs vs r⟩
  | .ex _, _, h => h
  | .ad _, _, h => h
theorem RepRs.pre (g : ∀ (n : Nat) a, m[n]? = some a → m1[n]? = some a) : ∀ (xs : List R) (vs : List V), RepRs K m H xs vs → RepRs K m1 H xs vs
  | [], _, h => h
  | x :: xs, _, ⟨v, r, e, h, t⟩ => ⟨v, r, e, RepR.pre g x v h, RepRs.pre g xs r t⟩
end
theorem pre_push {p : Addr} : ∀ (n : Nat) a, m[n]? = some a → (m ++ [p])[n]? = some a := fun n a e => by
  rw [List.getElem?_append_left (List.getElem?_eq_some_iff.mp e).1]; exact e
/-- a new list is given a number -/
abbrev bindV (x : SV) (S : Sto) (W : R → Sto → Prop) : Prop := match x with
  | .r y => W y S
  | .f xs => W (.loc S.length) (S ++ [.lst xs])
theorem bindV_ok {x : SV} {v : V} {W : R → Sto → Prop} (g : Grow m0 H0 m H) (r : RepS K m H S) (q : RepV K m H H0 x v) (w : bindV x S W) :
    ∃ y S' m', W y S' ∧ Grow m0 H0 m' H ∧ RepS K m' H S' ∧ RepR K m' H y v ∧ ∀ (n : Nat) a, m[n]? = some a → m'[n]? = some a := by
  cases x with
  | r y => exact ⟨y, S, m, w, g, r, q, fun _ _ h => h⟩
  | f xs =>
    obtain ⟨a, vs, e, h1, h2, h3, h4⟩ := q
    exact ⟨_, _, m ++ [a], w, Grow.push h3 g, r.push h2 h1 h4, ⟨a, by rw [← r.len]; simp, e⟩, pre_push⟩
theorem RepE.set {r : Rho} {s : L2.St} {i : Nat} {x : R} {v : V} (h : RepE K m H r s) (q : RepR K m H x v) : RepE K m H (r.set i (some x)) (s.set i (some v)) := by
  refine ⟨by simp [h.len], fun j y e => ?_⟩
  by_cases hj : i = j
  · subst hj
    have hl : i < r.length := by
      by_cases hl : i < r.length
      · exact hl
      · rw [List.getElem?_eq_none (by simpa using hl)] at e; cases e
    rw [List.getElem?_set_self hl] at e
    cases e
    exact ⟨v, by rw [List.getElem?_set_self (by rw [h.len]; exact hl)], q⟩
  · rw [List.getElem?_set_ne hj] at e
    obtain ⟨u, h1, h2⟩ := h.at_ j y e
    exact ⟨u, by rw [List.getElem?_set_ne hj]; exact h1, h2⟩
end
section
variable {X : Cx} {st : Stmt} {rest : List Stmt} {e a b c : Expr} {pos p2 : Pos} {wa wb we wi : PE1} {ws : PA1} {t u : PS1} {tc : PT1}
theorem psImp {t t' : TS} (h : PS X st t) (k : ∀ D s H, t' D s H → t D s H) : PS X st t' := ⟨fun pins s z H D I q => h.run pins s z H D I (k _ _ _ q)⟩
theorem pssImp {sts : List Stmt} {t t' : TS} (h : PSs X sts t) (k : ∀ D s H, t' D s H → t D s H) : PSs X sts t' := ⟨fun pins s z H D I q => h.run pins s z H D I (k _ _ _ q)⟩
/-! ### small statements -/
abbrev wNext : PS1 := fun N r S => N.nx r S
abbrev wSeq (t u : PS1) : PS1 := fun N r S => t { N with nx := u N } r S
theorem ws_nil : WSs X [] wNext := ⟨pssImp pss_nil fun D s H ⟨m, r, S, N, hE, hS, hw, hf⟩ => hf.nx r S s m H hw Grow.refl hE hS⟩
theorem ws_cons (h1 : WS X st t) (h2 : WSs X rest u) : WSs X (st :: rest) (wSeq t u) :=
  ⟨pssImp (pss_cons h1.ps h2.pss) fun D s H ⟨m, r, S, N, hE, hS, hw, hf⟩ => ⟨m, r, S, _, hE, hS, hw, ⟨fun r' S' s' m' H' n g e q => ⟨m', r', S', N, e, q, n, hf.later g⟩, hf.rt, hf.bk, hf.ct⟩⟩⟩
theorem ws_one (h1 : WS X st t) : WSs X [st] t := ⟨pss_one h1.ps⟩
abbrev wRet (w : PE1) : PS1 := fun N r S => w r S fun x S1 => bindV x S1 N.rt
theorem ws_ret (h : WE X e we) : WS X (.Return (some e) pos) (wRet we) := ⟨psImp (ps_ret h.pe) fun D s H ⟨m, r, S, N, hE, hS, hw, hf⟩ => ⟨m, r, S, _, hE, hS, hw, fun x S1 v m1 H1 h1 g1 r1 q1 => by
  obtain ⟨y, S2, m2, w2, g2, r2, q2, _⟩ := bindV_ok g1 r1 q1 h1
  exact hf.rt y S2 v m2 H1 w2 g2 r2 q2⟩⟩
abbrev wRetN : PS1 := fun N r S => N.rt (.d .non) S
abbrev wDrop (w : PE1) : PS1 := fun N r S => w r S fun _ S1 => N.nx r S1
theorem ws_drop (h : WE X e we) (hs : swapsWith e none pos.line X.env = pure false := by rfl) : WS X (.Expr e pos) (wDrop we) := ⟨psImp (ps_expr h.pe hs) fun D s H ⟨m, r, S, N, hE, hS, hw, hf⟩ => ⟨m, r, S, _, hE, hS, hw, fun x S1 v m1 H1 h1 g1 r1 q1 => hf.nx r S1 s m1 H1 h1 g1 (hE.grow g1) r1⟩⟩
abbrev wIf (c : PT1) (t u : PS1) : PS1 := fun N r S => c r S fun b S1 => if b = true then t N r S1 else u N r S1
theorem ws_if {p q : List Stmt} (hc : WT X c tc) (ha : WSs X p t) (hb : WSs X q u) : WS X (.If c p q pos) (wIf tc t u) := ⟨psImp (ps_if hc.pt ha.pss hb.pss) fun D s H ⟨m, r, S, N, hE, hS, hw, hf⟩ => ⟨m, r, S, _, hE, hS, hw, fun b S1 m1 H1 h1 g1 r1 => by
  cases b with
  | true => exact ⟨m1, r, S1, N, hE.grow g1, r1, h1, hf.later g1⟩
  | false => exact ⟨m1, r, S1, N, hE.grow g1, r1, h1, hf.later g1⟩⟩⟩
/-- name = value -/
abbrev wSet (i : Nat) (w : PE1) : PS1 := fun N r S => w r S fun x S1 => bindV x S1 fun y S2 => N.nx (r.set i (some y)) S2
theorem set_fin {D : Ends} {s : L2.St} {H : Hp} {i : Nat} {te : TE} (h : ∀ Q, up X.K we s H Q → te s H Q) (hw : upS X.K (wSet i we) D s H) : tAsg te (gName i) D s H := by
  obtain ⟨m, r, S, N, hE, hS, hw, hf⟩ := hw
  refine h _ ⟨m, r, S, _, hE, hS, hw, fun x S1 v m1 H1 h1 g1 r1 q1 => ?_⟩
  obtain ⟨y, S2, m2, w2, g2, r2, q2, _⟩ := bindV_ok g1 r1 q1 h1
  exact hf.nx _ S2 _ m2 H1 w2 g2 ((hE.grow g2).set q2) r2
theorem ws_set {i : Nat} {x : Str} {pos' : Pos} (hN : X.N.Nodup) (hi : X.N[i]? = some x) (hx : Loc X.env.scope x) (he : WE X e we) (hs : swapsWith e (some (.Name x pos')) pos.line X.env = pure false := by rfl) (hf : X.fn x = true ∨ X.env.scope.names.lookup x = some .local := by first | exact .inl rfl | exact .inr rfl | assumption) :
    WS X (.Assign [.Name x pos'] e pos) (wSet i we) := ⟨psImp (ps_set hN hi hx he.pe hs hf) fun D s H hw => set_fin (fun _ h => h) hw⟩
/-- a, b = x, y on one line, both plain locals -/
abbrev wPar (i j : Nat) (ws : PA1) : PS1 := fun N r S => ws r S fun xs S1 => match xs with
  | [.r x, .r y] => N.nx ((r.set i (some x)).set j (some y)) S1
  | _ => False
theorem ws_par {i j : Nat} {x y : Str} {px py pt : Pos} {kt k2 pt2} (hc : X.calm = true) (hN : X.N.Nodup) (hi : X.N[i]? = some x) (hj : X.N[j]? = some y) (hij : i ≠ j)
    (hx : X.env.scope.names.lookup x = some .local) (hy : X.env.scope.names.lookup y = some .local) (ha : WA X [a, b] ws)
    (hw : swappedStores [.Tuple [.Name x px, .Name y py] kt pt] (.Tuple [a, b] k2 pt2) X.env = pure (some [x, y]))
    (hs : swapsWithSole [.Tuple [.Name x px, .Name y py] kt pt] (.Tuple [a, b] k2 pt2) pos.line X.env = pure false := by rfl) :
    WS X (.Assign [.Tuple [.Name x px, .Name y py] kt pt] (.Tuple [a, b] k2 pt2) pos) (wPar i j ws) :=
  ⟨psImp (ps_par hc hN hi hj hij hx hy ha.pa hw hs) fun D s H ⟨m, r, S, N, hE, hS, hw, hf⟩ => ⟨m, r, S, _, hE, hS, hw, fun xs S1 vs m1 H1 h1 g1 r1 q1 => by
    split at h1
    · obtain ⟨v, u, rfl, qx, qy⟩ := q1.two
      exact ⟨v, u, rfl, hf.nx _ S1 _ m1 H1 h1 g1 (((hE.grow g1).set qx).set qy) r1⟩
    · exact h1.elim⟩⟩
/-- name op= value, ints -/
abbrev wAug (i : Nat) (g : Int → Int → Int) (w : PE1) : PS1 := fun N r S => match r[i]? with
  | some (some (.d (.int k))) => w r S fun x S1 => match x with
    | .r (.d (.int l)) => N.nx (r.set i (some (.d (.int (g k l))))) S1
    | _ => False
  | _ => False
/-! ### targets of names -/
/-- a target stores at the slots vs, what f tells -/
structure Tgt (K : PySem.W.Frag) (g : TG) (vs : List Nat) (f : R → Rho → Option Rho) : Prop where
  run : ∀ m H x v r r' (s : L2.St), RepR K m H x v → RepE K m H r s → f x r = some r' → ∃ s', (∀ Q : L2.St → Hp → Prop, Q s' H → g v s H Q) ∧ RepE K m H r' s' ∧ (∀ us : List Nat, (∀ i ∈ vs, i ∈ us) → wipe s' us = wipe s us)
theorem wipe_set {s : L2.St} {i : Nat} {o : Option V} : ∀ {us : List Nat}, i ∈ us → wipe (s.set i o) us = wipe s us
  | [], h => nomatch h
  | u :: us, h => by
    unfold wipe
    by_cases hu : i ∈ us
    · rw [wipe_set hu]
    · have e : i = u := by
        rcases List.mem_cons.mp h with e | e
        · exact e
        · exact absurd e hu
      subst e
      have out : ∀ {us : List Nat} {s : L2.St}, i ∉ us → (wipe (s.set i o) us).set i none = (wipe s us).set i none := by
        intro us
        induction us with
        | nil => intro s _; unfold wipe; rw [List.set_set]
        | cons w us ih =>
          intro s hw
          have h1 : w ≠ i := fun e => hw (by simp [e])
          have h2 : i ∉ us := fun e => hw (by simp [e])
          show ((wipe (s.set i o) us).set w none).set i none = ((wipe s us).set w none).set i none
          rw [List.set_comm _ _ h1, ih h2, List.set_comm _ _ h1]
      exact out hu
abbrev fNm (i : Nat) : R → Rho → Option Rho := fun x r => some (r.set i (some x))
theorem tg_name {K : PySem.W.Frag} (i : Nat) : Tgt K (gName i) [i] (fNm i) := ⟨fun m H x v r r' s q hE e => by
  cases e
  exact ⟨s.set i (some v), fun Q h => h, hE.set q, fun us hu => wipe_set (hu i (by simp))⟩⟩
/-- several targets, by the items -/
structure Tgts (K : PySem.W.Frag) (g : TGs) (vs : List Nat) (f : List R → Rho → Option Rho) : Prop where
  run : ∀ m H xs us r r' (s : L2.St), RepRs K m H xs us → RepE K m H r s → f xs r = some r' → ∃ s', (∀ Q : L2.St → Hp → Prop, Q s' H → g us s H Q) ∧ RepE K m H r' s' ∧ (∀ us : List Nat, (∀ i ∈ vs, i ∈ us) → wipe s' us = wipe s us)
abbrev fNil : List R → Rho → Option Rho := fun xs r => match xs with
  | [] => some r
  | _ => none
abbrev fCons (f : R → Rho → Option Rho) (fs : List R → Rho → Option Rho) : List R → Rho → Option Rho := fun xs r => match xs with
  | x :: xs => (f x r).bind fun r1 => fs xs r1
  | [] => none
theorem tgs_nil {K : PySem.W.Frag} : Tgts K gNil [] fNil := ⟨fun m H xs us r r' s q hE e => by
  unfold fNil at e
  split at e
  · cases e; exact ⟨s, fun Q h => ⟨q, h⟩, hE, fun _ _ => rfl⟩
  · cases e⟩
theorem tgs_cons {K : PySem.W.Frag} {g : TG} {gs : TGs} {vs ws : List Nat} {f : R → Rho → Option Rho} {fs : List R → Rho → Option Rho} (h : Tgt K g vs f) (k : Tgts K gs ws fs) : Tgts K (gCons g gs) (vs ++ ws) (fCons f fs) := ⟨fun m H xs us r r' s q hE e => by
  unfold fCons at e
  split at e
  · rename_i x xs
    rw [Option.bind_eq_some_iff] at e
    obtain ⟨r1, e1, e2⟩ := e
    obtain ⟨v, w, e3, q1, q2⟩ := q
    obtain ⟨s1, h1, h2, h3⟩ := h.run m H x v r r1 s q1 hE e1
    obtain ⟨s2, k1, k2, k3⟩ := k.run m H xs w r1 r' s1 q2 h2 e2
    exact ⟨s2, fun Q hq => ⟨v, w, e3, h1 _ (k1 Q hq)⟩, k2, fun us hu => (k3 us fun i hi => hu i (List.mem_append_right _ hi)).trans (h3 us fun i hi => hu i (List.mem_append_left _ hi))⟩
  · cases e⟩
abbrev fTp (n : Nat) (fs : List R → Rho → Option Rho) : R → Rho → Option Rho := fun x r => match x with
  | .d (.tup xs) => if xs.length = n then fs (xs.map R.d) r else none
  | .tr xs => if xs.length = n then fs xs r else none
  | _ => none
theorem repR_map {K : PySem.W.Frag} {m : List Addr} {H : Hp} : ∀ {xs : List D} {vs : List V}, RepDs K H xs vs → RepRs K m H (xs.map R.d) vs
  | [], _, h => h
  | x :: xs, _, ⟨v, r, e, h, t⟩ => ⟨v, r, e, h, repR_map t⟩
theorem tg_tup {K : PySem.W.Frag} {gs : TGs} {ws : List Nat} {n : Nat} {fs : List R → Rho → Option Rho} (k : Tgts K gs ws fs) : Tgt K (gTup K n gs) ws (fTp n fs) := ⟨fun m H x v r r' s q hE e => by
  unfold fTp at e
  split at e
  · split at e
    · rename_i xs hl
      obtain ⟨a, vs, e1, h1, h2⟩ := q
      obtain ⟨s2, k1, k2, k3⟩ := k.run m H _ vs r r' s (repR_map h2) hE e
      exact ⟨s2, fun Q hq => ⟨a, vs, e1, h1, by rw [RepDs.len h2]; exact hl, k1 Q hq⟩, k2, k3⟩
    · cases e
  · split at e
    · rename_i xs hl
      obtain ⟨a, vs, e1, h1, h2⟩ := q
      obtain ⟨s2, k1, k2, k3⟩ := k.run m H _ vs r r' s h2 hE e
      exact ⟨s2, fun Q hq => ⟨a, vs, e1, h1, by rw [RepRs.len h2]; exact hl, k1 Q hq⟩, k2, k3⟩
    · cases e
  · cases e⟩
/-- (a, b, ..) = value -/
abbrev wUnp (f : R → Rho → Option Rho) (w : PE1) : PS1 := fun N r S => w r S fun x S1 => bindV x S1 fun y S2 => match f y r with
  | some r' => N.nx r' S2
  | none => False
theorem ws_unp {tg : Expr} {g : TG} {vs : List Nat} {f : R → Rho → Option Rho} (he : WE X e we) (hg : PG X tg g) (ht : Tgt X.K g vs f) (hs : swapsWithSole [tg] e pos.line X.env = pure false := by rfl) (hw : swappedStores [tg] e X.env = pure none := by rfl)
    (h1 : (assignEach [tg] X.env).map (·.2) = [assign tg X.env] := by rfl) : WS X (.Assign [tg] e pos) (wUnp f we) :=
  ⟨psImp (ps_asg he.pe hg hs hw h1) fun D s H ⟨m, r, S, N, hE, hS, hw, hf⟩ => ⟨m, r, S, _, hE, hS, hw, fun x S1 v m1 H1 h1 g1 r1 q1 => by
    obtain ⟨y, S2, m2, w2, g2, r2, q2, _⟩ := bindV_ok g1 r1 q1 h1
    split at w2
    · rename_i r' e1
      obtain ⟨s', k1, k2, _⟩ := ht.run m2 H1 y v r r' s q2 (hE.grow g2) e1
      exact k1 _ (hf.nx r' S2 s' m2 H1 w2 g2 k2 r2)
    · exact w2.elim⟩⟩
/-- a[i] = value -/
def ixD (n : Nat) (k : Int) : Option Nat := if 0 ≤ k then (if k < n then some k.toNat else none) else if -(n : Int) ≤ k then some (k + n).toNat else none
abbrev wStI (wo wi we : PE1) : PS1 := fun N r S => we r S fun x S1 => wo r S1 fun o S2 => wi r S2 fun k S3 => match o, k, x with
  | .r (.loc n), .r (.d (.int k)), .r (.d z) => match S3[n]? with
    | some (.lst xs) => match ixD xs.length k with
      | some j => N.nx r (S3.set n (.lst (xs.set j z)))
      | none => False
    | _ => False
  | _, _, _ => False
theorem ws_stI {o i : Expr} {wo : PE1} (ho : WE X o wo) (hi : WE X i wi) (he : WE X e we) (hs : swapsWithSole [.Subscript o i p2] e pos.line X.env = pure false := by rfl) (hw : swappedStores [.Subscript o i p2] e X.env = pure none := by rfl)
    (h1 : (assignEach [.Subscript o i p2] X.env).map (·.2) = [assign (.Subscript o i p2) X.env] := by rfl)
    (ha : ∀ v, assign (.Subscript o i p2) X.env v = (do
      let ov ← holding [v] (eval o X.env)
      let iv ← holding [v, ov] (eval i X.env)
      standAt p2
      holding [v, ov, iv] (setItem ov iv v)
      release [v, ov, iv] []) := by intro _; rfl) : WS X (.Assign [.Subscript o i p2] e pos) (wStI wo wi we) :=
  ⟨psImp (ps_asg he.pe (pg_sub ho.pe hi.pe set_list ha) hs hw h1) fun D s H ⟨m, r, S, N, hE, hS, hw, hf⟩ => up1 hE hS hw fun x S1 v m1 H1 h1 g1 r1 q1 => up2 (hE.grow g1) r1 h1 fun y z S3 u w m3 H3 h3 g3 r3 qo qi => by
    split at h3
    · rename_i n k d
      split at h3
      · rename_i xs e1
        split at h3
        · rename_i j e2
          obtain ⟨a, k1, rfl⟩ := qo
          obtain ⟨a', k1', vs, k2, k3⟩ := r3.at_ n _ e1
          rw [k1] at k1'; cases k1'
          have qd : RepD X.K H3 d v := RepD.grow g3 d v q1
          refine ⟨a, vs, k, j, rfl, qi, k2, ?_, ?_⟩
          · rw [RepDs.len k3]; exact e2
          · have gw := Grow.write (m := m3) (vs' := vs.set j v) k1 k2
            exact hf.nx r _ s m3 _ h3 ((g1.trans g3).trans gw) (((hE.grow g1).grow g3).grow gw) (r3.write k1 k2 (k3.set j qd))
        · exact h3.elim
      · exact h3.elim
    · exact h3.elim⟩
end
end Z
set_option Elab.async false
set_option linter.all false
set_option maxRecDepth 100000
/-! Z5: loops, what is walked, comprehensions, list methods. -/
namespace Z
open PySem PySem.Spec PyProof.Rows L2 RZ
/-! ### leaving what is no longer wanted -/
mutual
def noLoc : R → Bool
  | .loc _ => false
  | .tr xs => noLocs xs
  | .d _ => true
  | .ro _ => true
  | .ex _ => true
  | .ad _ => true
def noLocs : List R → Bool
  | [] => true
  | x :: r => noLoc x && noLocs r
end
section
variable {K : PySem.W.Frag} {m m1 : List Addr} {H : Hp}
mutual
theorem RepR.free : ∀ (x : R) (v : V), noLoc x = true → RepR K m H x v → RepR K m1 H x v
  | .d _, _, _, h => h
  | .loc _, _, n, _ => by simp [noLoc] at n
  | .ro _, _, _, h => h
  | .tr xs, _, n, ⟨a, vs, e, h, r⟩ => ⟨a, vs, e, h, RepRs.free xs vs (by simpa [noLoc] using n) r⟩
  | .ex _, _, _, h => h
  | .ad _, _, _, h => h
theorem RepRs.free : ∀ (xs : List R) (vs : List V), noLocs xs = true → RepRs K m H xs vs → RepRs K m1 H xs vs
  | [], _, _, h => h
  | x :: xs, _, n, ⟨v, r, e, h, t⟩ => by
    rw [noLocs, Bool.and_eq_true] at n
    exact ⟨v, r, e, RepR.free x v n.1 h, RepRs.free xs r n.2 t⟩
end
end
def kept (ls : List Nat) : Option R → Option R
  | some (.d x) => some (.d x)
  | some (.ro x) => some (.ro x)
  | some (.ex x) => some (.ex x)
  | some (.ad x) => some (.ad x)
  | some (.tr xs) => if noLocs xs = true then some (.tr xs) else none
  | some (.loc n) => if n ∈ ls then some (.loc (ls.idxOf n)) else none
  | _ => none
/-- the store is what stood at the numbers ls, renumbered in this order; the first k stay -/
def Cut (k : Nat) (r : Rho) (S : Sto) (r' : Rho) (S' : Sto) : Prop :=
  (r' = r ∧ S' = S) ∨ ∃ ls : List Nat, ls.Nodup ∧ ls.take k = List.range k ∧ (∀ n ∈ ls, n < S.length) ∧ r' = r.map (kept ls) ∧ S' = ls.filterMap (S[·]?)
theorem Cut.refl {k : Nat} {r : Rho} {S : Sto} : Cut k r S r S := .inl ⟨rfl, rfl⟩
section
variable {K : PySem.W.Frag} {m m0 m1 m2 : List Addr} {H H0 H1 H2 : Hp} {S S' S1 S2 : Sto} {r r' : Rho} {N : En} {D : Ends}
theorem filterMap_get {α : Type} {S : List α} : ∀ {ls : List Nat}, (∀ n ∈ ls, n < S.length) → ∀ i : Nat, (ls.filterMap (S[·]?))[i]? = ls[i]?.bind (S[·]?)
  | [], _, i => by simp
  | n :: ls, h, i => by
    have hn := h n (by simp)
    rw [List.filterMap_cons, List.getElem?_eq_getElem hn]
    cases i with
    | zero => simp
    | succ i => simpa using filterMap_get (ls := ls) (fun k hk => h k (by simp [hk])) i
theorem filterMap_len {α : Type} {S : List α} : ∀ {ls : List Nat}, (∀ n ∈ ls, n < S.length) → (ls.filterMap (S[·]?)).length = ls.length
  | [], _ => rfl
  | n :: ls, h => by
    have hn := h n (by simp)
    rw [List.filterMap_cons, List.getElem?_eq_getElem hn]
    simpa using filterMap_len (ls := ls) (fun k hk => h k (by simp [hk]))
theorem Cut.ok {k : Nat} {s : L2.St} (c : Cut k r S r' S') (hk : m0.length = k) (g : Grow m0 H0 m H) (hE : RepE K m H r s) (hS : RepS K m H S) :
    ∃ m', Grow m0 H0 m' H ∧ RepE K m' H r' s ∧ RepS K m' H S' := by
  rcases c with ⟨rfl, rfl⟩ | ⟨ls, nd, pre, lt, rfl, rfl⟩
  · exact ⟨m, g, hE, hS⟩
  · have lt' : ∀ n ∈ ls, n < m.length := fun n hn => by rw [hS.len]; exact lt n hn
    have get : ∀ i : Nat, (ls.filterMap (m[·]?))[i]? = ls[i]?.bind (m[·]?) := filterMap_get lt'
    have sub : ∀ b, b ∈ ls.filterMap (m[·]?) → b ∈ m := fun b hb => by
      obtain ⟨n, _, e⟩ := List.mem_filterMap.mp hb
      exact List.mem_of_getElem? e
    have at_ : ∀ n, n ∈ ls → (ls.filterMap (m[·]?))[ls.idxOf n]? = m[n]? := fun n hn => by
      rw [get, List.getElem?_eq_getElem (List.idxOf_lt_length_iff.mpr hn)]
      simp
    refine ⟨ls.filterMap (m[·]?), ⟨fun n a e => ?_, g.tup, g.frz, g.xt, g.frame, fun b hb hn => g.new b (sub b hb) hn⟩, ⟨by simp [hE.len], fun i x e => ?_⟩, ⟨?_, ?_, fun n o e => ?_⟩⟩
    · have hn : n < k := by rw [← hk]; exact (List.getElem?_eq_some_iff.mp e).1
      have : ls[n]? = some n := by
        have h1 : (ls.take k)[n]? = some n := by rw [pre]; simp [hn]
        rw [List.getElem?_take_of_lt hn] at h1
        exact h1
      rw [get, this]
      exact g.pre n a e
    · rw [List.getElem?_map, Option.map_eq_some_iff] at e
      obtain ⟨o, e1, e2⟩ := e
      cases o with
      | none => cases e2
      | some y =>
        obtain ⟨v, h1, h2⟩ := hE.at_ i y e1
        refine ⟨v, h1, ?_⟩
        cases y with
        | d z => cases e2; exact h2
        | ro z => cases e2; exact h2
        | ex z => cases e2; exact h2
        | ad z => cases e2; exact h2
        | tr z =>
          simp only [kept] at e2
          split at e2
          · rename_i hn
            cases e2
            exact RepR.free (.tr z) v (by simpa [noLoc] using hn) h2
          · cases e2
        | loc n =>
          simp only [kept] at e2
          split at e2
          · rename_i hn
            cases e2
            obtain ⟨a, h3, h4⟩ := h2
            exact ⟨a, by rw [at_ n hn]; exact h3, h4⟩
          · cases e2
    · have inj : ∀ {ls : List Nat}, ls.Nodup → (∀ n ∈ ls, n < m.length) → (ls.filterMap (m[·]?)).Nodup := by
        intro ls
        induction ls with
        | nil => intro _ _; simp
        | cons n ls ih =>
          intro h1 h2
          rw [List.filterMap_cons, List.getElem?_eq_getElem (h2 n (by simp))]
          refine List.nodup_cons.mpr ⟨fun hm => ?_, ih (List.nodup_cons.mp h1).2 fun k hk => h2 k (by simp [hk])⟩
          obtain ⟨j, hj, e⟩ := List.mem_filterMap.mp hm
          obtain ⟨l1, e1⟩ := List.getElem?_eq_some_iff.mp e
          have := (List.getElem_inj hS.nd).mp e1
          subst this
          exact (List.nodup_cons.mp h1).1 hj
      exact inj nd lt'
    · rw [filterMap_len lt', filterMap_len lt]
    · rw [filterMap_get lt, Option.bind_eq_some_iff] at e
      obtain ⟨j, e1, e2⟩ := e
      obtain ⟨a, h1, h2⟩ := hS.at_ j o e2
      exact ⟨a, by rw [get, e1]; exact h1, h2⟩
end
section
variable {X : Cx} {st : Stmt} {body : List Stmt} {e a b c iter tg : Expr} {es : List Expr} {pos p2 : Pos} {wa wb we wi : PE1} {ws was : PA1} {t u tb : PS1} {tc tt : PT1}
/-! ### while -/
/-- I: the invariant by a measure that falls -/
abbrev wWhile (t : PT1) (body : PS1) : PS1 := fun N r S => ∃ I : Nat → Rho → Sto → Prop, (∃ n, I n r S) ∧ ∀ n r1 S1, I n r1 S1 →
  t r1 S1 fun b S2 => if b = true then body { nx := fun r2 S3 => ∃ r3 S4, Cut S.length r2 S3 r3 S4 ∧ ∃ k, k < n ∧ I k r3 S4, rt := N.rt, bk := N.nx, ct := fun r2 S3 => ∃ r3 S4, Cut S.length r2 S3 r3 S4 ∧ ∃ k, k < n ∧ I k r3 S4 } r1 S2 else N.nx r1 S2
theorem ws_while (hp : PassesOwn (model X.prog X.w) X.A X.env X.xe) (hc : WT X c tc) (hb : WSs X body tb) : WS X (.While c body [] pos) (wWhile tc tb) :=
  ⟨psImp (ps_while hp hc.pt hb.pss) fun D s H ⟨m, r, S, N, hE, hS, hw, hf⟩ => by
    obtain ⟨I, ⟨n, h0⟩, step⟩ := hw
    refine ⟨fun k s1 H1 => ∃ m1 r1 S1, Grow m H m1 H1 ∧ RepE X.K m1 H1 r1 s1 ∧ RepS X.K m1 H1 S1 ∧ I k r1 S1, ⟨n, m, r, S, Grow.refl, hE, hS, h0⟩, ?_⟩
    rintro k s1 H1 ⟨m1, r1, S1, g1, e1, q1, i1⟩
    refine ⟨m1, r1, S1, _, e1, q1, step k r1 S1 i1, fun b S2 m2 H2 h2 g2 r2 => ?_⟩
    cases b with
    | false =>
      rw [if_neg Bool.false_ne_true]
      exact hf.nx r1 S2 s1 m2 H2 h2 (g1.trans g2) (e1.grow g2) r2
    | true =>
      rw [if_pos rfl] at h2 ⊢
      have again : ∀ r3 S3 s3 m3 H3, (∃ r4 S4, Cut S.length r3 S3 r4 S4 ∧ ∃ j, j < k ∧ I j r4 S4) → Grow m2 H2 m3 H3 → RepE X.K m3 H3 r3 s3 → RepS X.K m3 H3 S3 →
          ∃ m', m' < k ∧ ∃ m1 r1 S1, Grow m H m1 H3 ∧ RepE X.K m1 H3 r1 s3 ∧ RepS X.K m1 H3 S1 ∧ I m' r1 S1 := fun r3 S3 s3 m3 H3 ⟨r4, S4, cu, j, hj, i4⟩ g3 e3 q3 => by
        obtain ⟨m4, g4, e4, q4⟩ := cu.ok hS.len ((g1.trans g2).trans g3) e3 q3
        exact ⟨j, hj, m4, r4, S4, g4, e4, q4, i4⟩
      refine ⟨fun s3 H3 => ∃ m', m' < k ∧ ∃ m1 r1 S1, Grow m H m1 H3 ∧ RepE X.K m1 H3 r1 s3 ∧ RepS X.K m1 H3 S1 ∧ I m' r1 S1, fun s3 H3 h => h, m2, r1, S2, _, e1.grow g2, r2, h2, ⟨again, ?_, ?_, again⟩⟩
      · exact fun x S' v m' H' n g' q' w' => hf.rt x S' v m' H' n ((g1.trans g2).trans g') q' w'
      · exact fun r' S' s' m' H' n g' e' q' => hf.nx r' S' s' m' H' n ((g1.trans g2).trans g') e' q'⟩
/-! ### what is walked -/
structure It1 where
  items : List R
  chk : Sto → Prop := fun _ => True
structure ItOk (K : PySem.W.Frag) (m0 : List Addr) (H0 : Hp) (J : It) (it : It1) : Prop where
  run : ∀ (i : Nat) m H S, Grow m0 H0 m H → RepS K m H S → it.chk S →
    (∀ x, it.items[i]? = some x → J.go i H ∧ ∀ v H', J.yld i H v H' → Grow m H m H' ∧ RepS K m H' S ∧ RepR K m H' x v) ∧ (it.items[i]? = none → J.stop i H)
abbrev PI1 := Rho → Sto → (It1 → Sto → Prop) → Prop
def upI (K : PySem.W.Frag) (w : PI1) : TI := fun s H R => ∃ m r S W, RepE K m H r s ∧ RepS K m H S ∧ w r S W ∧ ∀ it S' m' H' J, W it S' → Grow m H m' H' → RepS K m' H' S' → ItOk K m' H' J it → R J H'
structure WI (X : Cx) (tg iter : Expr) (w : PI1) : Prop where
  pi : PI X tg iter (upI X.K w)
theorem piImp {ti ti' : TI} (h : PI X tg iter ti) (k : ∀ s H R, ti' s H R → ti s H R) : PI X tg iter ti' := ⟨fun pins s z H R I q => h.run pins s z H R I (k _ _ _ q)⟩
/-- the items of a value, and what must stay as it is while they are walked -/
abbrev itOf (S : Sto) (x : SV) : Option It1 := match x with
  | .r (.loc n) => match S[n]? with
    | some (.lst xs) => some ⟨xs.map R.d, fun S => S[n]? = some (.lst xs)⟩
    | _ => none
  | .r (.tr xs) => some { items := xs }
  | x => (seqOf S x).map fun xs => { items := xs.map R.d }
/-- at each later state the value stands as it stood -/
theorem itOf_seq {K : PySem.W.Frag} {m0 : List Addr} {H0 Hs : Hp} {S : Sto} {x : SV} {v : V} {it : It1} (e : itOf S x = some it) (q : RepV K m0 H0 Hs x v) (r : RepS K m0 H0 S) :
    ∃ a, v = .ref a ∧ ∀ m H S', Grow m0 H0 m H → RepS K m H S' → it.chk S' → ∃ vs, RepRs K m H it.items vs ∧ if isLst x = true then SqL K H a vs else SqT K H a vs := by
  cases x with
  | f ys =>
    simp only [itOf, seqOf, Option.map_some, Option.some.injEq] at e
    subst e
    obtain ⟨a, _, rfl, _⟩ := id q
    refine ⟨a, rfl, fun m H S' g r' _ => ?_⟩
    obtain ⟨b, vs, eb, h1, h2⟩ := (q.grow g).seq r' (x := .f ys) rfl
    cases eb
    exact ⟨vs, repR_map h1, h2⟩
  | r y =>
    cases y with
    | ex ys => simp [itOf, seqOf] at e
    | ad ys => simp [itOf, seqOf] at e
    | tr ys =>
      simp only [itOf, Option.some.injEq] at e
      subst e
      obtain ⟨a, vs, rfl, h1, h2⟩ := q
      exact ⟨a, rfl, fun m H S' g r' _ => ⟨vs, RepRs.grow g _ _ h2, by rw [if_neg (by simp [isLst])]; exact rd_tup g h1⟩⟩
    | ro ys =>
      simp only [itOf, seqOf, Option.map_some, Option.some.injEq] at e
      subst e
      obtain ⟨a, vs, rfl, h1, h2⟩ := q
      exact ⟨a, rfl, fun m H S' g r' _ => ⟨vs, repR_map (RepDs.grow g _ _ h2), by rw [if_pos (by simp [isLst])]; exact (h1.grow g).sq⟩⟩
    | loc n =>
      obtain ⟨a, h1, rfl⟩ := q
      simp only [itOf] at e
      split at e
      · rename_i xs e1
        cases e
        refine ⟨a, rfl, fun m H S' g r' hc => ?_⟩
        obtain ⟨a', h2, vs, h3, h4⟩ := r'.at_ n _ hc
        rw [g.pre n a h1] at h2; cases h2
        exact ⟨vs, repR_map h4, by rw [if_pos (by simp [isLst])]; exact .inl (.inl h3)⟩
      · cases e
    | d y =>
      cases y with
      | tup ys =>
        simp only [itOf, seqOf, Option.map_some, Option.some.injEq] at e
        subst e
        obtain ⟨a, vs, rfl, h1, h2⟩ := q
        exact ⟨a, rfl, fun m H S' g r' _ => ⟨vs, repR_map (RepDs.grow g _ _ h2), by rw [if_neg (by simp [isLst])]; exact rd_tup g h1⟩⟩
      | lst ys =>
        simp only [itOf, seqOf, Option.map_some, Option.some.injEq] at e
        subst e
        obtain ⟨a, vs, rfl, h1, h2⟩ := q
        exact ⟨a, rfl, fun m H S' g r' _ => ⟨vs, repR_map (RepDs.grow g _ _ h2), by rw [if_pos (by simp [isLst])]; exact (h1.grow g).sq⟩⟩
      | non => simp [itOf, seqOf] at e
      | bl _ => simp [itOf, seqOf] at e
      | int _ => simp [itOf, seqOf] at e
      | str _ => simp [itOf, seqOf] at e
abbrev wIt (w : PE1) : PI1 := fun r S W => w r S fun x S1 => match itOf S1 x with
  | some it => W it S1
  | none => False
theorem itok_lst {K : PySem.W.Frag} {m0 : List Addr} {H0 : Hp} {a : Addr} {it : It1} (h : ∀ m H S', Grow m0 H0 m H → RepS K m H S' → it.chk S' → ∃ vs, RepRs K m H it.items vs ∧ SqL K H a vs) : ItOk K m0 H0 (Itl K a) it :=
  ⟨fun i m H S g r hc => by
    obtain ⟨vs, h1, h2⟩ := h m H S g r hc
    refine ⟨fun x e => ?_, fun e => ⟨vs, h2, ?_⟩⟩
    · obtain ⟨v, h3, h4⟩ := RepRs.get h1 e
      refine ⟨⟨vs, v, h2, h3⟩, fun u H' ⟨e1, e2⟩ => ?_⟩
      subst e1
      have := (e2 vs h2).symm.trans h3
      cases this
      exact ⟨Grow.refl, r, h4⟩
    · rw [RepRs.len h1]; exact List.getElem?_eq_none_iff.mp e⟩
theorem itok_tup {K : PySem.W.Frag} {m0 : List Addr} {H0 : Hp} {a : Addr} {it : It1} (h : ∀ m H S', Grow m0 H0 m H → RepS K m H S' → it.chk S' → ∃ vs, RepRs K m H it.items vs ∧ SqT K H a vs) : ItOk K m0 H0 (Itt K a) it :=
  ⟨fun i m H S g r hc => by
    obtain ⟨vs, h1, h2⟩ := h m H S g r hc
    refine ⟨fun x e => ?_, fun e => ⟨vs, h2, ?_⟩⟩
    · obtain ⟨v, h3, h4⟩ := RepRs.get h1 e
      refine ⟨⟨vs, v, h2, h3⟩, fun u H' ⟨e1, e2⟩ => ?_⟩
      subst e1
      have := (e2 vs h2).symm.trans h3
      cases this
      exact ⟨Grow.refl, r, h4⟩
    · rw [RepRs.len h1]; exact List.getElem?_eq_none_iff.mp e⟩
/-- a for over any of these, decided behind the evaluation -/
theorem pi_seq {te : TE} (he : PE X e te) : PI X tg e (fun s H R => te s H fun x H1 => ∃ a, x = .ref a ∧ ((∃ xs, SqL X.K H1 a xs) ∧ R (Itl X.K a) H1 ∨ (∃ xs, SqT X.K H1 a xs) ∧ R (Itt X.K a) H1)) := by
  refine ⟨fun pins s σ H R I h => ?_⟩
  refine thn (he.run pins s σ H _ I h) fun v s1 ⟨x, H1, I1, r1, q1⟩ => ?_
  obtain ⟨a, e, q | q⟩ := q1
  · obtain ⟨⟨xs, hq⟩, q⟩ := q
    subst e
    cases r1
    obtain ⟨its, rv, p, hz⟩ := I1.list hq
    refine wpAny_pyIter_list p.isList ?_
    refine ⟨s1.heap.objs.size, [s1.heap.objs.size], _, _, H1, rfl, I1.kept (t' := s1.toks) fun b o e => Heap.get?_push_of_some _ e, turn_list a _, ⟨_, Heap.get?_push_size _ rfl, rfl, rfl⟩, fun b hb => ?_, q⟩
    have e : b = s1.heap.objs.size := by simpa using hb
    subst e
    exact I1.fpOk (Nat.le_refl _) (I1.hok.fresh (Nat.le_refl _))
  · obtain ⟨⟨xs, hq⟩, q⟩ := q
    subst e
    cases r1
    obtain ⟨its, rv, p, hz⟩ := I1.tuple hq
    refine wpAny_pyIter_tuple (show s1.heap.IsTuple a its.toArray from p) ?_
    refine ⟨s1.heap.objs.size, [s1.heap.objs.size], _, _, H1, rfl, I1.kept (t' := s1.toks) fun b o e => Heap.get?_push_of_some _ e, turn_tuple a _, ⟨_, Heap.get?_push_size _ rfl, rfl, rfl⟩, fun b hb => ?_, q⟩
    have e : b = s1.heap.objs.size := by simpa using hb
    subst e
    exact I1.fpOk (Nat.le_refl _) (I1.hok.fresh (Nat.le_refl _))
theorem wi_seq (he : WE X e we) (hchk : True := trivial) : WI X tg e (wIt we) := ⟨piImp (pi_seq he.pe) fun s H R ⟨m, r, S, W, hE, hS, hw, hf⟩ => ⟨m, r, S, _, hE, hS, hw, fun x S1 v m1 H1 h1 g1 r1 q1 => by
  split at h1
  · rename_i it e1
    obtain ⟨a, rfl, h2⟩ := itOf_seq e1 q1 r1
    have hc : it.chk S1 := by
      unfold itOf at e1
      split at e1
      · split at e1
        · rename_i hh
          cases e1; exact hh
        · cases e1
      · cases e1; trivial
      · rw [Option.map_eq_some_iff] at e1
        obtain ⟨_, _, rfl⟩ := e1
        trivial
    refine ⟨a, rfl, ?_⟩
    obtain ⟨vs, k1, k2⟩ := h2 m1 H1 S1 Grow.refl r1 hc
    by_cases hl : isLst x = true
    · rw [if_pos hl] at k2
      exact .inl ⟨⟨vs, k2⟩, hf it S1 m1 H1 _ h1 g1 r1 (itok_lst fun m H S' g r' hc' => by
        obtain ⟨us, k3, k4⟩ := h2 m H S' g r' hc'
        rw [if_pos hl] at k4
        exact ⟨us, k3, k4⟩)⟩
    · rw [if_neg hl] at k2
      exact .inr ⟨⟨vs, k2⟩, hf it S1 m1 H1 _ h1 g1 r1 (itok_tup fun m H S' g r' hc' => by
        obtain ⟨us, k3, k4⟩ := h2 m H S' g r' hc'
        rw [if_neg hl] at k4
        exact ⟨us, k3, k4⟩)⟩
  · exact h1.elim⟩⟩
/-- range(n), range(a, b) -/
def rgR (lo : Int) (n : Nat) : List R := (List.range n).map fun i => R.d (.int (lo + (i : Nat)))
theorem itok_rng {K : PySem.W.Frag} {m0 : List Addr} {H0 : Hp} {lo : Int} {n : Nat} : ItOk K m0 H0 (Itr lo n) { items := rgR lo n } :=
  ⟨fun i m H S g r hc => ⟨fun x e => by
    have hi : i < n := by
      have := (List.getElem?_eq_some_iff.mp e).1
      simpa [rgR] using this
    have ex : x = R.d (.int (lo + (i : Nat))) := by
      simp only [rgR, List.getElem?_map, List.getElem?_range hi, Option.map_some, Option.some.injEq] at e
      exact e.symm
    refine ⟨hi, fun v H' ⟨e1, e2⟩ => ?_⟩
    subst e1 ex
    exact ⟨Grow.refl, r, e2⟩, fun e => by
    have := List.getElem?_eq_none_iff.mp e
    show n ≤ i
    simpa [rgR] using this⟩⟩
abbrev wRng1 (ws : PA1) : PI1 := fun r S W => ws r S fun xs S1 => match xs with
  | [.r (.d (.int j))] => j ≤ 16777216 ∧ -16777216 ≤ j ∧ W { items := rgR 0 j.toNat } S1
  | _ => False
abbrev wRng2 (ws : PA1) : PI1 := fun r S W => ws r S fun xs S1 => match xs with
  | [.r (.d (.int i)), .r (.d (.int j))] => (j ≤ 16777216 ∧ -16777216 ≤ j ∧ i ≤ 16777216 ∧ -16777216 ≤ i) ∧ W { items := rgR i (j - i).toNat } S1
  | _ => False
theorem wi_rng1 {p : Pos} (hg : Gl X "range") (hm : X.mg "range" = none) (ha : WA X [a] ws) (hs : starEach [a] X.env = [(false, eval a X.env)] := by rfl) : WI X tg (.Call (.Name "range" p) [a] [] pos) (wRng1 ws) :=
  ⟨piImp (pi_range1 hg hm ha.pa hs) fun s H R ⟨m, r, S, W, hE, hS, hw, hf⟩ => ⟨m, r, S, _, hE, hS, hw, fun xs S1 vs m1 H1 h1 g1 r1 q1 => by
    split at h1
    · rename_i j
      obtain ⟨v, rfl, q⟩ := q1.one
      exact ⟨j, by rw [show v = V.int j from q], by have := h1.2.1; omega, by have := h1.1; omega, hf _ S1 m1 H1 _ h1.2.2 g1 r1 itok_rng⟩
    · exact h1.elim⟩⟩
/-- zip of two lists or of two tuples -/
def prs : List R → List R → List R
  | .d x :: xs, .d y :: ys => .d (.tup [x, y]) :: prs xs ys
  | _, _ => []
def allD : List R → Bool
  | [] => true
  | .d _ :: r => allD r
  | _ :: _ => false
theorem prs_get : ∀ {xs ys : List R} {i : Nat} {z : R}, (prs xs ys)[i]? = some z → ∃ x y, xs[i]? = some (.d x) ∧ ys[i]? = some (.d y) ∧ z = .d (.tup [x, y])
  | .d x :: xs, .d y :: ys, 0, z, e => by simp [prs] at e; exact ⟨x, y, rfl, rfl, e.symm⟩
  | .d x :: xs, .d y :: ys, i + 1, z, e => by simpa using prs_get (xs := xs) (ys := ys) (i := i) (z := z) (by simpa [prs] using e)
  | [], _, i, z, e => by simp [prs] at e
  | .loc _ :: _, _, i, z, e => by simp [prs] at e
  | .ro _ :: _, _, i, z, e => by simp [prs] at e
  | .tr _ :: _, _, i, z, e => by simp [prs] at e
  | .d _ :: _, [], i, z, e => by simp [prs] at e
  | .d _ :: _, .loc _ :: _, i, z, e => by simp [prs] at e
  | .d _ :: _, .ro _ :: _, i, z, e => by simp [prs] at e
  | .d _ :: _, .tr _ :: _, i, z, e => by simp [prs] at e
theorem prs_none : ∀ {xs ys : List R} {i : Nat}, allD xs = true → allD ys = true → (prs xs ys)[i]? = none → xs.length ≤ i ∨ ys.length ≤ i
  | [], _, i, _, _, _ => .inl (by simp)
  | _ :: _, [], i, _, _, _ => .inr (by simp)
  | .d x :: xs, .d y :: ys, 0, _, _, e => by simp [prs] at e
  | .d x :: xs, .d y :: ys, i + 1, h1, h2, e => by
    have := prs_none (xs := xs) (ys := ys) (i := i) (by simpa [allD] using h1) (by simpa [allD] using h2) (by simpa [prs] using e)
    simpa using this
  | .loc _ :: _, _ :: _, i, h, _, _ => by simp [allD] at h
  | .ro _ :: _, _ :: _, i, h, _, _ => by simp [allD] at h
  | .tr _ :: _, _ :: _, i, h, _, _ => by simp [allD] at h
  | .d _ :: _, .loc _ :: _, i, _, h, _ => by simp [allD] at h
  | .d _ :: _, .ro _ :: _, i, _, h, _ => by simp [allD] at h
  | .d _ :: _, .tr _ :: _, i, _, h, _ => by simp [allD] at h
abbrev wZip (ws : PA1) : PI1 := fun r S W => ws r S fun xs S1 => match xs with
  | [x, y] => match itOf S1 x, itOf S1 y with
    | some i, some j => (isLst x = isLst y ∧ allD i.items = true ∧ allD j.items = true) ∧ W ⟨prs i.items j.items, fun S => i.chk S ∧ j.chk S⟩ S1
    | _, _ => False
  | _ => False
theorem itOf_chk {S : Sto} {x : SV} {it : It1} (e1 : itOf S x = some it) : it.chk S := by
  unfold itOf at e1
  split at e1
  · split at e1
    · rename_i hh
      cases e1; exact hh
    · cases e1
  · cases e1; trivial
  · rw [Option.map_eq_some_iff] at e1
    obtain ⟨_, _, rfl⟩ := e1
    trivial
theorem itok_zip {K : PySem.W.Frag} {m0 : List Addr} {H0 : Hp} {J : It} {i j : It1} (l : Bool) {a b : Addr} (h1 : allD i.items = true) (h2 : allD j.items = true)
    (hx : ∀ m H S', Grow m0 H0 m H → RepS K m H S' → i.chk S' → ∃ vs, RepRs K m H i.items vs ∧ if l = true then SqL K H a vs else SqT K H a vs)
    (hy : ∀ m H S', Grow m0 H0 m H → RepS K m H S' → j.chk S' → ∃ vs, RepRs K m H j.items vs ∧ if l = true then SqL K H b vs else SqT K H b vs)
    (hJ : J = if l = true then Itz K a b else ItzT K a b) : ItOk K m0 H0 J ⟨prs i.items j.items, fun S => i.chk S ∧ j.chk S⟩ :=
  ⟨fun k m H S g r hc => by
    obtain ⟨vs, k1, k2⟩ := hx m H S g r hc.1
    obtain ⟨us, k3, k4⟩ := hy m H S g r hc.2
    subst hJ
    refine ⟨fun z e => ?_, fun e => ?_⟩
    · obtain ⟨x, y, e1, e2, rfl⟩ := prs_get e
      obtain ⟨v, p1, p2⟩ := RepRs.get k1 e1
      obtain ⟨u, p3, p4⟩ := RepRs.get k3 e2
      have fin : ∀ T H', H T = none → H' = upd H T (.tup [v, u]) → Grow m H m H' ∧ RepS K m H' S ∧ RepR K m H' (.d (.tup [x, y])) (.ref T) := fun T H' n e' => by
        subst e'
        have gg : Grow m H m (upd H T (.tup [v, u])) := Grow.alloc n
        exact ⟨gg, r.alloc n, T, [v, u], rfl, .inl (.inl upd_same), v, [u], rfl, RepD.grow gg x v p2, u, [], rfl, RepD.grow gg y u p4, rfl⟩
      cases l with
      | true =>
        rw [if_pos rfl] at k2 k4 ⊢
        refine ⟨⟨vs, us, v, u, k2, k4, p1, p3⟩, fun w H' ⟨T, v', u', e3, n, e4, f1, f2⟩ => ?_⟩
        have q1 := (f1 vs k2).symm.trans p1
        have q2 := (f2 us k4).symm.trans p3
        cases q1; cases q2
        subst e3
        exact fin T H' n e4
      | false =>
        rw [if_neg Bool.false_ne_true] at k2 k4 ⊢
        refine ⟨⟨vs, us, v, u, k2, k4, p1, p3⟩, fun w H' ⟨T, v', u', e3, n, e4, f1, f2⟩ => ?_⟩
        have q1 := (f1 vs k2).symm.trans p1
        have q2 := (f2 us k4).symm.trans p3
        cases q1; cases q2
        subst e3
        exact fin T H' n e4
    · have hl := prs_none h1 h2 e
      rw [← RepRs.len k1, ← RepRs.len k3] at hl
      cases l with
      | true =>
        rw [if_pos rfl] at k2 k4 ⊢
        exact ⟨vs, us, k2, k4, hl⟩
      | false =>
        rw [if_neg Bool.false_ne_true] at k2 k4 ⊢
        exact ⟨vs, us, k2, k4, hl⟩⟩
theorem wi_zip {p tpos : Pos} {elts : List Expr} {kk : Nat} (hg : Gl X "zip") (hm : X.mg "zip" = none) (ha : WA X [a, b] ws)
    (hs : starEach [a, b] X.env = (false, eval a X.env) :: starEach [b] X.env := by rfl) (hpl : (backTo pos (starEach [b] X.env)).any (·.1) = false := by rfl) : WI X (.Tuple elts kk tpos) (.Call (.Name "zip" p) [a, b] [] pos) (wZip ws) :=
  ⟨piImp (pi_zipA hg hm ha.pa hs hpl) fun s H R ⟨m, r, S, W, hE, hS, hw, hf⟩ => ⟨m, r, S, _, hE, hS, hw, fun xs S1 vs m1 H1 h1 g1 r1 q1 => by
    split at h1
    · rename_i x y
      obtain ⟨v, u, rfl, qx, qy⟩ := q1.two
      split at h1
      · rename_i i j e1 e2
        obtain ⟨⟨hl, d1, d2⟩, h1⟩ := h1
        obtain ⟨a, rfl, hx⟩ := itOf_seq e1 qx r1
        obtain ⟨b, rfl, hy⟩ := itOf_seq e2 qy r1
        rw [← hl] at hy
        obtain ⟨vs, k1, k2⟩ := hx m1 H1 S1 Grow.refl r1 (itOf_chk e1)
        obtain ⟨us, k3, k4⟩ := hy m1 H1 S1 Grow.refl r1 (itOf_chk e2)
        refine ⟨a, b, vs, us, rfl, ?_⟩
        cases hb : isLst x with
        | true =>
          rw [hb] at k2 k4 hx hy
          rw [if_pos rfl] at k2 k4
          exact .inl ⟨k2, k4, hf _ S1 m1 H1 _ h1 g1 r1 (itok_zip true d1 d2 hx hy rfl)⟩
        | false =>
          rw [hb] at k2 k4 hx hy
          rw [if_neg Bool.false_ne_true] at k2 k4
          exact .inr ⟨k2, k4, hf _ S1 m1 H1 _ h1 g1 r1 (itok_zip false d1 d2 hx hy rfl)⟩
      · exact h1.elim
    · exact h1.elim⟩⟩
/-! ### for -/
def forL (k : Nat) (chk : Sto → Prop) (f : R → Rho → Option Rho) (body : PS1) (N : En) : List R → Rho → Sto → Prop
  | [], r, S => chk S ∧ N.nx r S
  | x :: xs, r, S => chk S ∧ match f x r with
    | some r1 => body { nx := fun r2 S2 => ∃ r3 S3, Cut k r2 S2 r3 S3 ∧ forL k chk f body N xs r3 S3, rt := N.rt, bk := N.nx, ct := fun r2 S2 => ∃ r3 S3, Cut k r2 S2 r3 S3 ∧ forL k chk f body N xs r3 S3 } r1 S
    | none => False
abbrev wFor (wi : PI1) (f : R → Rho → Option Rho) (body : PS1) : PS1 := fun N r S => wi r S fun it S1 => forL S1.length it.chk f body N it.items r S1
theorem ws_for {wi : PI1} {g : TG} {vs : List Nat} {f : R → Rho → Option Rho} (hp : PassesOwn (model X.prog X.w) X.A X.env X.xe) (hc : X.calm = true) (hi : WI X tg iter wi) (hg : PG X tg g) (ht : Tgt X.K g vs f) (hb : WSs X body tb)
    (hs : ∀ x, foldedSetIterable iter X.env x = pure x := by intro _; rfl) : WS X (.For tg iter body [] pos) (wFor wi f tb) :=
  ⟨psImp (ps_for hp hc hi.pi hg hb.pss hs) fun D s H ⟨m, r, S, N, hE, hS, hw, hf⟩ => ⟨m, r, S, _, hE, hS, hw, fun it S1 m1 H1 J h1 g1 r1 ok => by
    refine ⟨fun i n s2 H2 => ∃ m2 r2 S2, n = it.items.length - i ∧ Grow m1 H1 m2 H2 ∧ RepE X.K m2 H2 r2 s2 ∧ RepS X.K m2 H2 S2 ∧ forL S1.length it.chk f tb N (it.items.drop i) r2 S2, ⟨it.items.length, m1, r, S1, by simp, Grow.refl, hE.grow g1, r1, by simpa using h1⟩, ?_⟩
    rintro i n s2 H2 ⟨m2, r2, S2, rfl, g2, e2, q2, h2⟩
    cases e : it.items[i]? with
    | none =>
      have hl := List.getElem?_eq_none_iff.mp e
      rw [List.drop_eq_nil_of_le hl] at h2
      obtain ⟨h2, h3⟩ := h2
      exact .inl ⟨(ok.run i m2 H2 S2 g2 q2 h2).2 e, hf.nx r2 S2 s2 m2 H2 h3 (g1.trans g2) e2 q2⟩
    | some x =>
      obtain ⟨hl, ex⟩ := List.getElem?_eq_some_iff.mp e
      rw [List.drop_eq_getElem_cons hl, ex] at h2
      obtain ⟨h2, h3⟩ := h2
      obtain ⟨go, yl⟩ := (ok.run i m2 H2 S2 g2 q2 h2).1 x e
      refine .inr ⟨go, fun s' H' => ∃ m', m' < it.items.length - i ∧ ∃ m2 r2 S2, m' = it.items.length - (i + 1) ∧ Grow m1 H1 m2 H' ∧ RepE X.K m2 H' r2 s' ∧ RepS X.K m2 H' S2 ∧ forL S1.length it.chk f tb N (it.items.drop (i + 1)) r2 S2, fun s' H' h => h, fun v H3 y3 => ?_⟩
      obtain ⟨g3, q3, qx⟩ := yl v H3 y3
      split at h3
      · rename_i r3 e3
        obtain ⟨s3, k1, k2, _⟩ := ht.run m2 H3 x v r2 r3 s2 qx (e2.grow g3) e3
        refine k1 _ ⟨m2, r3, S2, _, k2, q3, h3, ?_⟩
        have g23 := g2.trans g3
        have again : ∀ r' S' s' m' H', (∃ r4 S4, Cut S1.length r' S' r4 S4 ∧ forL S1.length it.chk f tb N (it.items.drop (i + 1)) r4 S4) → Grow m2 H3 m' H' → RepE X.K m' H' r' s' → RepS X.K m' H' S' →
            ∃ m', m' < it.items.length - i ∧ ∃ m2 r2 S2, m' = it.items.length - (i + 1) ∧ Grow m1 H1 m2 H' ∧ RepE X.K m2 H' r2 s' ∧ RepS X.K m2 H' S2 ∧ forL S1.length it.chk f tb N (it.items.drop (i + 1)) r2 S2 := fun r' S' s' m' H' ⟨r4, S4, cu, h4⟩ g' e' q' => by
          obtain ⟨m4, g4, e4, q4⟩ := cu.ok r1.len (g23.trans g') e' q'
          exact ⟨_, by omega, m4, r4, S4, rfl, g4, e4, q4, h4⟩
        exact ⟨again, fun x S' v m' H' n g' q' w' => hf.rt x S' v m' H' n ((g1.trans g23).trans g') q' w', fun r' S' s' m' H' n g' e' q' => hf.nx r' S' s' m' H' n ((g1.trans g23).trans g') e' q', again⟩
      · exact h3.elim⟩⟩
/-! ### comprehensions -/
theorem Grow.own {m m1 : List Addr} {H H1 : Hp} {D : Addr} {o : HO} (g : Grow m H m1 H1) (h : H D = none) : Grow m H m1 (upd H1 D o) :=
  ⟨g.pre, fun b xs e => by rw [upd_ne (ne_of_none e h)]; exact g.tup b xs e, fun b ob u e => by rw [upd_ne (ne_of_none e h)]; exact g.frz b ob u e, fun b u e => by rw [upd_ne (ne_of_none e h)]; exact g.xt b u e, fun b u e hb => by rw [upd_ne (ne_of_none e h)]; exact g.frame b u e hb, g.new⟩
theorem RepS.own {K : PySem.W.Frag} {m : List Addr} {H : Hp} {S : Sto} {D : Addr} {vs vs' : List V} (r : RepS K m H S) (hm : D ∉ m) (hD : H D = some (.lst vs)) : RepS K m (upd H D (.lst vs')) S :=
  ⟨r.nd, r.len, fun n o e => by
    obtain ⟨a, h1, h2⟩ := r.at_ n o e
    have ne : a ≠ D := fun q => hm (by rw [← q]; exact List.mem_of_getElem? h1)
    have gw : Grow [D] H [D] (upd H D (.lst vs')) := Grow.write (n := 0) rfl hD
    exact ⟨a, h1, h2.grow gw (upd_ne ne)⟩⟩
structure WTs (X : Cx) (ifs : List Expr) (w : PT1) : Prop where
  pts : PTs X ifs (upT X.K w)
abbrev wYes : PT1 := fun _ S W => W true S
theorem wts_nil : WTs X [] wYes := ⟨⟨fun pins s z H Q I ⟨m, r, S, W, hE, hS, hw, hf⟩ => (pts_nil (X := X)).run pins s z H Q I (hf true S m H hw Grow.refl hS)⟩⟩
theorem wts_one (h : WT X c tc) : WTs X [c] tc := ⟨⟨fun pins s z H Q I q => (pts_one h.pt).run pins s z H Q I q⟩⟩
def lcL (k : Nat) (chk : Sto → Prop) (f : R → Rho → Option Rho) (t : PT1) (w : PE1) (r : Rho) : List R → Sto → (List D → Sto → Prop) → Prop
  | [], S, W => chk S ∧ W [] S
  | x :: xs, S, W => chk S ∧ match f x r with
    | some r1 => t r1 S fun b S1 => if b = true then w r1 S1 fun y S2 => match y with
        | .r (.d z) => lcL k chk f t w r xs (S2.take k) fun zs S3 => W (z :: zs) S3
        | _ => False
      else lcL k chk f t w r xs (S1.take k) W
    | none => False
def wipeR (r : Rho) : List Nat → Rho
  | [] => r
  | v :: vs => (wipeR r vs).set v none
abbrev wLc (wi : PI1) (f : R → Rho → Option Rho) (t : PT1) (w : PE1) (own : List Nat) : PE1 := fun r S W => wi r S fun it S1 => it.items.length ≤ 16777216 ∧ lcL S1.length it.chk f t w (wipeR r own) it.items S1 fun zs S2 => W (.f zs) S2
theorem RepE.wipe {K : PySem.W.Frag} {m : List Addr} {H : Hp} {r : Rho} {s : L2.St} (h : RepE K m H r s) : ∀ vs : List Nat, RepE K m H (wipeR r vs) (L2.wipe s vs)
  | [] => h
  | v :: vs => by
    have ih := RepE.wipe h vs
    unfold wipeR L2.wipe
    refine ⟨by simp [ih.len], fun i x e => ?_⟩
    by_cases hi : v = i
    · subst hi
      by_cases hl : v < (wipeR r vs).length
      · rw [List.getElem?_set_self hl] at e; cases e
      · rw [List.getElem?_eq_none (by simpa using hl)] at e; cases e
    · rw [List.getElem?_set_ne hi] at e
      obtain ⟨u, h1, h2⟩ := ih.at_ i x e
      exact ⟨u, by rw [List.getElem?_set_ne hi]; exact h1, h2⟩
theorem RepS.take {K : PySem.W.Frag} {m m1 : List Addr} {H : Hp} {S : Sto} (h : RepS K m H S) (hp : ∀ (n : Nat) a, m1[n]? = some a → m[n]? = some a) : RepS K m1 H (S.take m1.length) := by
  have e : m1 = m.take m1.length := by
    refine List.ext_getElem? fun n => ?_
    by_cases hn : n < m1.length
    · rw [List.getElem?_take_of_lt hn, List.getElem?_eq_getElem hn]
      exact (hp n _ (List.getElem?_eq_getElem hn)).symm
    · rw [List.getElem?_eq_none (by omega), List.getElem?_eq_none (by rw [List.length_take]; omega)]
  have hle : m1.length ≤ m.length := by
    have := congrArg List.length e
    rw [List.length_take] at this; omega
  refine ⟨by rw [e]; exact h.nd.sublist (List.take_sublist _ _), by rw [List.length_take, ← h.len]; omega, fun n o e1 => ?_⟩
  have hn : n < m1.length := by
    by_cases hn : n < m1.length
    · exact hn
    · rw [List.getElem?_eq_none (by rw [List.length_take]; omega)] at e1; cases e1
  rw [List.getElem?_take_of_lt hn] at e1
  obtain ⟨a, h1, h2⟩ := h.at_ n o e1
  refine ⟨a, ?_, h2⟩
  rw [List.getElem?_eq_getElem hn]
  exact (hp n _ (List.getElem?_eq_getElem hn)).symm.trans h1
theorem wipe_wipe {s : L2.St} : ∀ vs : List Nat, L2.wipe (L2.wipe s vs) vs = L2.wipe s vs := by
  have key : ∀ (vs us : List Nat) (s : L2.St), (∀ i ∈ vs, i ∈ us) → L2.wipe (L2.wipe s vs) us = L2.wipe s us := by
    intro vs
    induction vs with
    | nil => intro us s _; rfl
    | cons v vs ih =>
      intro us s h
      show L2.wipe ((L2.wipe s vs).set v none) us = _
      rw [wipe_set (h v (by simp)), ih us s fun i hi => h i (by simp [hi])]
  exact fun vs => key vs vs s fun _ h => h
theorem lc_up {K : PySem.W.Frag} {g : TG} {vs own : List Nat} {f : R → Rho → Option Rho} (ht : Tgt K g vs f) (ho : ∀ i ∈ vs, i ∈ own) {s : L2.St} {H : Hp} {Q : VK} {wi : PI1} {w : PE1} (h : up K (wLc wi f tt w own) s H Q) : tLc (upI K wi) g (upT K tt) (up K w) own s H Q := by
  obtain ⟨m, r, S, W, hE, hS, hw, hf⟩ := h
  refine ⟨m, r, S, _, hE, hS, hw, fun it S1 m1 H1 J ⟨hz, h1⟩ g1 r1 ok D hD => ?_⟩
  have hE1 := (hE.grow g1).wipe own
  refine ⟨fun i n H2 => ∃ acc vs2 S2 W2, n = it.items.length - i ∧ acc.length ≤ i ∧ Grow m1 H1 m1 H2 ∧ RepS K m1 H2 S2 ∧ H2 D = some (.lst vs2) ∧ RepDs K H2 acc vs2 ∧ lcL S1.length it.chk f tt w (wipeR r own) (it.items.drop i) S2 W2 ∧ (∀ zs S3, W2 zs S3 → W (.f (acc ++ zs)) S3),
    ⟨it.items.length, [], [], S1, _, by simp, by simp, Grow.alloc hD, r1.alloc hD, upd_same, rfl, by simpa using h1, fun zs S3 h => by simpa using h⟩, ?_⟩
  rintro i n H2 ⟨acc, vs2, S2, W2, rfl, hacc, g2, r2, hD2, qa, h2, hW⟩
  have Dm : D ∉ m1 := r1.notmem hD
  cases e : it.items[i]? with
  | none =>
    have hl := List.getElem?_eq_none_iff.mp e
    rw [List.drop_eq_nil_of_le hl] at h2
    obtain ⟨h2, h3⟩ := h2
    refine .inl ⟨(ok.run i m1 H2 S2 g2 r2 h2).2 e, hf _ S2 _ m1 H2 (hW [] S2 h3) (g1.trans g2) r2 ⟨D, vs2, rfl, hD2, Dm, g1.fresh r1 hD, by simpa using qa⟩⟩
  | some x =>
    obtain ⟨hl, ex⟩ := List.getElem?_eq_some_iff.mp e
    rw [List.drop_eq_getElem_cons hl, ex] at h2
    obtain ⟨h2, h3⟩ := h2
    obtain ⟨go, yl⟩ := (ok.run i m1 H2 S2 g2 r2 h2).1 x e
    refine .inr ⟨go, fun H' => ∃ acc vs2 S2 W2, acc.length ≤ i + 1 ∧ Grow m1 H1 m1 H' ∧ RepS K m1 H' S2 ∧ H' D = some (.lst vs2) ∧ RepDs K H' acc vs2 ∧ lcL S1.length it.chk f tt w (wipeR r own) (it.items.drop (i + 1)) S2 W2 ∧ (∀ zs S3, W2 zs S3 → W (.f (acc ++ zs)) S3),
      fun H' ⟨acc', vs3, S3, W3, a1, a2, a3, a4, a5, a6, a7⟩ => ⟨it.items.length - (i + 1), by omega, acc', vs3, S3, W3, rfl, a1, a2, a3, a4, a5, a6, a7⟩, fun v H3 y3 => ?_⟩
    obtain ⟨g3, q3, qx⟩ := yl v H3 y3
    split at h3
    · rename_i r3 e3
      have g23 := g2.trans g3
      obtain ⟨s3, k1, k2, k3⟩ := ht.run m1 H3 x v _ r3 _ qx (hE1.grow g23) e3
      have hD3 : H3 D = some (.lst vs2) := g3.frame D _ hD2 Dm
      refine k1 _ ⟨(k3 own ho).trans (wipe_wipe own), m1, r3, S2, _, k2, q3, h3, fun b S4 m4 H4 h4 g4 r4 => ?_⟩
      have hD4 : H4 D = some (.lst vs2) := g4.frame D _ hD3 Dm
      -- back to the numbers of the loop's start
      have back : ∀ {m5 : List Addr} {H5 : Hp} {S5 : Sto}, Grow m1 H1 m5 H5 → RepS K m5 H5 S5 → Grow m1 H1 m1 H5 ∧ RepS K m1 H5 (S5.take S1.length) := fun {m5 H5 S5} g5 r5 => by
        refine ⟨⟨fun _ _ h => h, g5.tup, g5.frz, g5.xt, g5.frame, fun _ h n => absurd h n⟩, ?_⟩
        rw [← r1.len]
        exact r5.take g5.pre
      dsimp only at h4 ⊢
      cases b with
      | false =>
        rw [if_neg Bool.false_ne_true] at h4 ⊢
        obtain ⟨g5, r5⟩ := back (g23.trans g4) r4
        exact ⟨acc, vs2, _, W2, by omega, g5, r5, hD4, RepDs.grow g4 _ _ (RepDs.grow g3 _ _ qa), h4, hW⟩
      | true =>
        rw [if_pos rfl] at h4 ⊢
        refine ⟨m4, r3, S4, _, k2.grow g4, r4, h4, fun y S5 u m5 H5 h5 g5 r5 q5 => ?_⟩
        split at h5
        · rename_i z
          have g25 := (g3.trans g4).trans g5
          have hD5 : H5 D = some (.lst vs2) := g25.frame D _ hD2 Dm
          obtain ⟨g6, r6⟩ := back ((g23.trans g4).trans g5) r5
          have gw : Grow [D] H5 [D] (upd H5 D (.lst (vs2 ++ [u]))) := Grow.write (n := 0) rfl hD5
          have qa5 : RepDs K H5 acc vs2 := RepDs.grow g25 _ _ qa
          refine ⟨vs2, hD5, ?_, acc ++ [z], vs2 ++ [u], _, _, by simp; omega, g6.own hD, r6.own Dm hD5, upd_same, RepDs.grow gw _ _ (qa5.app (RepDs.one q5)), h5, fun zs S6 h6 => ?_⟩
          · rw [RepDs.len qa5, sizeLine_eq]; omega
          · rw [List.append_assoc]; exact hW _ S6 h6
        · exact h5.elim
    · exact h3.elim
end
end Z
set_option Elab.async false
set_option linter.all false
set_option maxRecDepth 100000
/-! Z6: comprehensions as expressions, list methods, calls, a def's promise. -/
namespace Z
open PySem PySem.Spec PyProof.Rows L2 RZ
section
variable {X : Cx} {st : Stmt} {body : List Stmt} {e a b c iter tg elt : Expr} {es ifs : List Expr} {pos p2 : Pos} {wa wb we wi : PE1} {ws was : PA1} {t u tb : PS1} {tc tt : PT1}
theorem we_lc {scope : Scope} {own : List (Str × Nat)} {wi : PI1} {g : TG} {vs : List Nat} {f : R → Rho → Option Rho} (hc : X.calm = true) (hN : X.N.Nodup) (hi : WI X tg iter wi) (ok : BlkOk X.N X.env.scope scope own)
    (hg : ∀ (s : Shared) (H : Hp) (C : Addr) (cl : List (Str × Addr)) (fp : List Addr), PG (X.blk s H scope (compEnvC scope cl C X.env) fp) tg g) (hT : Tgt X.K g vs f) (ho : ∀ i ∈ vs, i ∈ own.map (·.2))
    (ht : ∀ (s : Shared) (H : Hp) (C : Addr) (cl : List (Str × Addr)) (fp : List Addr), WTs (X.blk s H scope (compEnvC scope cl C X.env) fp) ifs tt)
    (he : ∀ (s : Shared) (H : Hp) (C : Addr) (cl : List (Str × Addr)) (fp : List Addr), WE (X.blk s H scope (compEnvC scope cl C X.env) fp) elt we) (hs : ∀ x, foldedSetIterable iter X.env x = pure x := by intro _; rfl) :
    WE X (.ListComp elt [⟨tg, iter, ifs, 0⟩] scope pos) (wLc wi f tt we (own.map (·.2))) :=
  ⟨peImp (pe_lc hc hN hi.pi ok hg (fun s H C cl fp => (ht s H C cl fp).pts) (fun s H C cl fp => (he s H C cl fp).pe) hs) fun s H Q h => lc_up hT ho h⟩
theorem ws_setLc {scope : Scope} {own : List (Str × Nat)} {wi : PI1} {g : TG} {vs : List Nat} {f : R → Rho → Option Rho} {i : Nat} {y : Str} {py spos : Pos} (hc : X.calm = true) (hN : X.N.Nodup) (hy : X.N[i]? = some y) (hyl : X.env.scope.names.lookup y = some .local)
    (hsw : swapsWith (.ListComp elt [⟨tg, iter, ifs, 0⟩] scope pos) (some (.Name y py)) spos.line X.env = pure true) (hi : WI X tg iter wi) (ok : BlkOk X.N X.env.scope scope own)
    (hg : ∀ (s : Shared) (H : Hp) (C : Addr) (cl : List (Str × Addr)) (fp : List Addr), PG (X.blk s H scope (compEnvC scope cl C X.env) fp) tg g) (hT : Tgt X.K g vs f) (ho : ∀ i ∈ vs, i ∈ own.map (·.2))
    (ht : ∀ (s : Shared) (H : Hp) (C : Addr) (cl : List (Str × Addr)) (fp : List Addr), WTs (X.blk s H scope (compEnvC scope cl C X.env) fp) ifs tt)
    (he : ∀ (s : Shared) (H : Hp) (C : Addr) (cl : List (Str × Addr)) (fp : List Addr), WE (X.blk s H scope (compEnvC scope cl C X.env) fp) elt we) (hs : ∀ x, foldedSetIterable iter X.env x = pure x := by intro _; rfl) :
    WS X (.Assign [.Name y py] (.ListComp elt [⟨tg, iter, ifs, 0⟩] scope pos) spos) (wSet i (wLc wi f tt we (own.map (·.2)))) :=
  ⟨psImp (ps_setLc hc hN hy hyl hsw hi.pi ok hg (fun s H C cl fp => (ht s H C cl fp).pts) (fun s H C cl fp => (he s H C cl fp).pe) hs) fun D s H hw => set_fin (fun Q h => lc_up hT ho h) hw⟩
/-! ### list methods -/
abbrev wApp (wo we : PE1) : PE1 := fun r S W => wo r S fun x S1 => match x with
  | .r (.loc n) => isLo S1 n = true ∧ we r S1 fun y S2 => match y with
    | .r (.d z) => match S2[n]? with
      | some (.lst xs) => xs.length < 16777216 ∧ W (.r (.d .non)) (S2.set n (.lst (xs ++ [z])))
      | _ => False
    | _ => False
  | _ => False
theorem RepS.lst {K : PySem.W.Frag} {m : List Addr} {H : Hp} {S : Sto} {n : Nat} {v : V} (r : RepS K m H S) (q : RepR K m H (.loc n) v) (hn : isLo S n = true) : ∃ a vs xs, v = .ref a ∧ m[n]? = some a ∧ H a = some (.lst vs) ∧ S[n]? = some (.lst xs) ∧ RepDs K H xs vs := by
  obtain ⟨a, h1, rfl⟩ := q
  obtain ⟨xs, e⟩ := isLo_get hn
  obtain ⟨a', h2, vs, h4, h5⟩ := r.at_ n _ e
  rw [h1] at h2; cases h2
  exact ⟨a, vs, xs, rfl, h1, h4, e, h5⟩
theorem we_app {o : Expr} {apos : Pos} {wo : PE1} (ho : WE X o wo) (he : WE X e we)
    (h : ∀ {to te : TE}, PE X o to → PE X e te → PE X (.Call (.Attribute o "append" apos) [e] [] pos) (tBM X.K "list" rAppend to (tCons te tNil)) := by
      intro _ _ ho he; exact pe_bm PySem.F.plainAttrs_list PySem.F.slot_list_append PySem.F.type_list_append mt_append ho (pa_cons he pa_nil)) : WE X (.Call (.Attribute o "append" apos) [e] [] pos) (wApp wo we) :=
  ⟨peImp (h ho.pe he.pe) fun s H Q ⟨m, r, S, W, hE, hS, hw, hf⟩ => up1 hE hS hw fun x S1 v m1 H1 h1 g1 r1 q1 => by
    split at h1
    · rename_i n
      obtain ⟨hn, h1⟩ := h1
      obtain ⟨a, vs, xs, rfl, k1, k2, k3, k4⟩ := r1.lst q1 hn
      refine ⟨.inl ⟨rfl, vs, .inl (.inl k2)⟩, m1, r, S1, _, hE.grow g1, r1, h1, fun y S2 u m2 H2 h2 g2 r2 q2 => ?_⟩
      split at h2
      · rename_i z
        split at h2
        · rename_i ys e1
          obtain ⟨a', p1, vs', p2, p3⟩ := r2.at_ n _ e1
          rw [g2.pre n a k1] at p1; cases p1
          refine ⟨a, vs', u, rfl, rfl, p2, by rw [RepDs.len p3, sizeLine_eq]; exact h2.1, ?_⟩
          have gw : Grow m2 H2 m2 (upd H2 a (.lst (vs' ++ [u]))) := Grow.write (g2.pre n a k1) p2
          exact hf _ _ _ m2 _ h2.2 ((g1.trans g2).trans gw) (r2.write (g2.pre n a k1) p2 (p3.app (RepDs.one q2))) (show RepR _ _ _ _ _ from rfl)
        · exact h2.elim
      · exact h2.elim
    · exact h1.elim⟩
end
/-! ### a def's promise -/
/-- the arguments, the store (just the lists handed in, in order), what is wanted of the value and the store behind -/
abbrev SpZ := List R → Sto → (R → Sto → Prop) → Prop
mutual
def locR : R → List Nat
  | .loc n => [n]
  | .tr xs => argLocs xs
  | .d _ => []
  | .ro _ => []
  | .ex _ => []
  | .ad _ => []
def argLocs : List R → List Nat
  | [] => []
  | x :: r => locR x ++ argLocs r
end
mutual
def renR : Nat → R → R
  | k, .loc _ => .loc k
  | k, .tr xs => .tr (renum k xs)
  | _, .d x => .d x
  | _, .ro x => .ro x
  | _, .ex x => .ex x
  | _, .ad x => .ad x
def renum : Nat → List R → List R
  | _, [] => []
  | k, x :: r => renR k x :: renum (k + (locR x).length) r
end
def pick (S : Sto) : List Nat → Option Sto
  | [] => some []
  | n :: ns => match S[n]?, pick S ns with
    | some o, some r => some (o :: r)
    | _, _ => none
def putAll : Sto → List Nat → Sto → Sto
  | S, n :: ls, o :: T => putAll (S.set n o) ls T
  | S, _, _ => S
def backL (S : Sto) (ls : List Nat) (T : Sto) (x : R) (W : PK1) : Prop := match x with
  | .d y => W (.r (.d y)) (putAll S ls T)
  | .ro y => W (.r (.ro y)) (putAll S ls T)
  | .ex y => W (.r (.ex y)) (putAll S ls T)
  | .ad y => W (.r (.ad y)) (putAll S ls T)
  | .loc j => if j < ls.length then (match ls[j]? with
      | some n => W (.r (.loc n)) (putAll S ls T)
      | none => False) else match T[j]? with
      | some (.lst xs) => W (.f xs) (putAll S ls T)
      | some (.dct ep kvs) => W (.r (.loc S.length)) (putAll S ls T ++ [.dct ep kvs])
      | some (.dk kvs) => W (.r (.loc S.length)) (putAll S ls T ++ [.dk kvs])
      | _ => False
  | .tr xs => (argLocs xs).Nodup ∧ (∀ k ∈ argLocs xs, ls.length ≤ k) ∧ match pick T (argLocs xs) with
    | some U => W (.r (.tr (renum S.length xs))) (putAll S ls T ++ U)
    | none => False
abbrev callL (sp : SpZ) (n : Nat) (rs : List R) (S : Sto) (W : PK1) : Prop := (rs.length = n ∧ (argLocs rs).Nodup) ∧ match pick S (argLocs rs) with
  | some T => sp (renum 0 rs) T fun x T' => backL S (argLocs rs) T' x W
  | none => False
def liftSp (K : PySem.W.Frag) (n : Nat) (sp : SpZ) : Sp := fun vs H Q _ => ∃ m rs S W, rs.length = n ∧ RepRs K m H rs vs ∧ RepS K m H S ∧ sp rs S W ∧ ∀ x S' v m' H', W x S' → Grow m H m' H' → RepS K m' H' S' → RepR K m' H' x v → Q v H'
/-- the def of the name x, of n parameters, keeps its promise; level k -/
structure FnZ (P : Program) (w : World) (K : PySem.W.Frag) (mg : Str → Option Value) (base : Heap) (k : Nat) (x : Str) (n : Nat) (sp : SpZ) : Prop where
  ok : ∃ f fd ps, ps.length = n ∧ mg x = some (.ref f) ∧ PySem.W.keepIn K (.ref f) = true ∧ Binds K fd ps [] ∧ FnOk P w K mg base CX0 k f fd ps (liftSp K n sp)
theorem FnZ.mono {P : Program} {w : World} {K : PySem.W.Frag} {mg : Str → Option Value} {base : Heap} {j k : Nat} {x : Str} {n : Nat} {sp : SpZ} (F : FnZ P w K mg base j x n sp) (h : j ≤ k) : FnZ P w K mg base k x n sp := by
  obtain ⟨f, fd, ps, h1, h2, h3, h4, h5⟩ := F.ok
  exact ⟨f, fd, ps, h1, h2, h3, h4, h5.mono h⟩
theorem FnZ.imp {P : Program} {w : World} {K : PySem.W.Frag} {mg : Str → Option Value} {base : Heap} {k : Nat} {x : Str} {n : Nat} {sp sp' : SpZ} (F : FnZ P w K mg base k x n sp) (h : ∀ rs S W, sp' rs S W → sp rs S W) : FnZ P w K mg base k x n sp' := by
  obtain ⟨f, fd, ps, h1, h2, h3, h4, h5⟩ := F.ok
  exact ⟨f, fd, ps, h1, h2, h3, h4, h5.imp fun vs H Q E ⟨m, rs, S, W, hl, a, b, c, d⟩ => ⟨m, rs, S, W, hl, a, b, h _ _ _ c, d⟩⟩
section
variable {K : PySem.W.Frag} {m m1 m2 : List Addr} {H H0 H1 : Hp} {S S1 T : Sto}
theorem pick_ok : ∀ {ls : List Nat} {T : Sto}, pick S ls = some T → T.length = ls.length ∧ ∀ i : Nat, T[i]? = ls[i]?.bind (S[·]?)
  | [], T, h => by simp [pick] at h; subst h; exact ⟨rfl, fun i => by simp⟩
  | n :: ns, T, h => by
    unfold pick at h
    split at h
    · rename_i o r e1 e2
      cases h
      obtain ⟨h1, h2⟩ := pick_ok e2
      refine ⟨by simp [h1], fun i => ?_⟩
      cases i with
      | zero => simp [e1]
      | succ i => simpa using h2 i
    · cases h
/-- the store of some lists alone -/
theorem RepS.pick (r : RepS K m H S) {ls : List Nat} {T : Sto} (nd : ls.Nodup) (e : pick S ls = some T) : RepS K (ls.filterMap (m[·]?)) H T ∧ (∀ n ∈ ls, n < m.length) := by
  obtain ⟨h1, h2⟩ := pick_ok e
  have lt : ∀ n ∈ ls, n < m.length := fun n hn => by
    obtain ⟨i, hi⟩ := List.getElem?_of_mem hn
    have h3 := h2 i
    rw [hi] at h3
    have : i < T.length := by rw [h1]; exact (List.getElem?_eq_some_iff.mp hi).1
    rw [List.getElem?_eq_getElem this] at h3
    have h4 : S[n]? = some T[i] := h3.symm
    rw [r.len]; exact (List.getElem?_eq_some_iff.mp h4).1
  have get : ∀ i : Nat, (ls.filterMap (m[·]?))[i]? = ls[i]?.bind (m[·]?) := filterMap_get lt
  refine ⟨⟨?_, by rw [filterMap_len lt, h1], fun n o e1 => ?_⟩, lt⟩
  · have inj : ∀ {ls : List Nat}, ls.Nodup → (∀ n ∈ ls, n < m.length) → (ls.filterMap (m[·]?)).Nodup := by
      intro ls
      induction ls with
      | nil => intro _ _; simp
      | cons n ls ih =>
        intro h1 h2
        rw [List.filterMap_cons, List.getElem?_eq_getElem (h2 n (by simp))]
        refine List.nodup_cons.mpr ⟨fun hm => ?_, ih (List.nodup_cons.mp h1).2 fun k hk => h2 k (by simp [hk])⟩
        obtain ⟨j, hj, e⟩ := List.mem_filterMap.mp hm
        obtain ⟨l1, e1⟩ := List.getElem?_eq_some_iff.mp e
        have := (List.getElem_inj r.nd).mp e1
        subst this
        exact (List.nodup_cons.mp h1).1 hj
    exact inj nd lt
  · rw [h2, Option.bind_eq_some_iff] at e1
    obtain ⟨j, e2, e3⟩ := e1
    obtain ⟨a, h3, h4⟩ := r.at_ j o e3
    exact ⟨a, by rw [get, e2]; exact h3, h4⟩
theorem renum_len : ∀ (rs : List R) (k : Nat), (renum k rs).length = rs.length
  | [], _ => rfl
  | x :: r, k => by rw [renum, List.length_cons, List.length_cons, renum_len r]
mutual
theorem renR_at {mm : List Addr} : ∀ (x : R) (k : Nat) (v : V), RepR K m H x v → (∀ i n, (locR x)[i]? = some n → ∀ a, m[n]? = some a → mm[k + i]? = some a) → RepR K mm H (renR k x) v
  | .d _, _, _, h, _ => h
  | .ro _, _, _, h, _ => h
  | .ex _, _, _, h, _ => h
  | .ad _, _, _, h, _ => h
  | .loc n, k, v, ⟨a, h1, h2⟩, hh => ⟨a, by simpa using hh 0 n rfl a h1, h2⟩
  | .tr xs, k, v, ⟨a, vs, e, h, r⟩, hh => ⟨a, vs, e, h, renum_at xs k vs r hh⟩
theorem renum_at {mm : List Addr} : ∀ (rs : List R) (k : Nat) (vs : List V), RepRs K m H rs vs → (∀ i n, (argLocs rs)[i]? = some n → ∀ a, m[n]? = some a → mm[k + i]? = some a) → RepRs K mm H (renum k rs) vs
  | [], _, _, h, _ => h
  | x :: rs, k, _, ⟨v, r, e, h, t⟩, hh => ⟨v, r, e, renR_at x k v h (fun i n e1 a h3 => hh i n (by
      rw [argLocs, List.getElem?_append_left (List.getElem?_eq_some_iff.mp e1).1]; exact e1) a h3), renum_at rs _ r t fun i n e1 a h3 => by
      have := hh ((locR x).length + i) n (by rw [argLocs, List.getElem?_append_right (by omega), Nat.add_sub_cancel_left]; exact e1) a h3
      rw [Nat.add_assoc]; exact this⟩
end
theorem putAll_len : ∀ {ls : List Nat} {S T : Sto}, (putAll S ls T).length = S.length
  | [], S, T => by unfold putAll; rfl
  | n :: ls, S, [] => by unfold putAll; rfl
  | n :: ls, S, o :: T => by unfold putAll; rw [putAll_len, List.length_set]
theorem putAll_out {n : Nat} : ∀ {ls : List Nat} {S T : Sto}, n ∉ ls → (putAll S ls T)[n]? = S[n]?
  | [], S, T, _ => by unfold putAll; rfl
  | k :: ls, S, [], _ => by unfold putAll; rfl
  | k :: ls, S, o :: T, h => by
    unfold putAll
    rw [putAll_out (fun q => h (by simp [q])), List.getElem?_set_ne (fun q => h (by simp [q]))]
theorem putAll_in {n i : Nat} {o : O} : ∀ {ls : List Nat} {S T : Sto}, ls.Nodup → (putAll S ls T)[n]? = some o → ls[i]? = some n → i < T.length → T[i]? = some o
  | [], S, T, _, _, h, _ => by simp at h
  | k :: ls, S, [], _, _, _, h => by simp at h
  | k :: ls, S, p :: T, nd, e, h, hl => by
    unfold putAll at e
    cases i with
    | zero =>
      simp at h; subst h
      rw [putAll_out (List.nodup_cons.mp nd).1] at e
      have hk : k < S.length := by
        by_cases hk : k < S.length
        · exact hk
        · rw [List.getElem?_eq_none (by simpa using hk)] at e; cases e
      rw [List.getElem?_set_self hk] at e
      exact e
    | succ i => exact putAll_in (i := i) (List.nodup_cons.mp nd).2 e (by simpa using h) (by simpa using hl)
/-- behind a call: the caller's numbers again -/
theorem call_back {ls : List Nat} {T' : Sto} {m' : List Addr} (r : RepS K m H S) (nd : ls.Nodup) (lt : ∀ n ∈ ls, n < m.length) (g : Grow (ls.filterMap (m[·]?)) H m' H1) (r' : RepS K m' H1 T') :
    Grow m H m H1 ∧ RepS K m H1 (putAll S ls T') := by
  have get : ∀ i : Nat, (ls.filterMap (m[·]?))[i]? = ls[i]?.bind (m[·]?) := filterMap_get lt
  have sub : ∀ b, b ∈ ls.filterMap (m[·]?) → b ∈ m := fun b hb => by
    obtain ⟨n, _, e⟩ := List.mem_filterMap.mp hb
    exact List.mem_of_getElem? e
  refine ⟨⟨fun _ _ h => h, g.tup, g.frz, g.xt, fun b o e hb => g.frame b o e fun q => hb (sub b q), fun _ h n => absurd h n⟩, ⟨r.nd, by rw [putAll_len, r.len], fun n o e => ?_⟩⟩
  have hn : n < m.length := by
    have := (List.getElem?_eq_some_iff.mp e).1
    rw [putAll_len, ← r.len] at this; exact this
  refine ⟨m[n], List.getElem?_eq_getElem hn, ?_⟩
  by_cases hm : n ∈ ls
  · obtain ⟨i, hi⟩ := List.getElem?_of_mem hm
    have h1 : m'[i]? = some m[n] := g.pre i _ (by rw [get, hi]; exact List.getElem?_eq_getElem hn)
    have hl : i < T'.length := by rw [← r'.len]; exact (List.getElem?_eq_some_iff.mp h1).1
    have h2 := putAll_in nd e hi hl
    obtain ⟨a, h3, h4⟩ := r'.at_ i o h2
    rw [h1] at h3; cases h3
    exact h4
  · rw [putAll_out hm] at e
    obtain ⟨a, h1, h2⟩ := r.at_ n o e
    rw [List.getElem?_eq_getElem hn] at h1; cases h1
    obtain ⟨u, h3⟩ := h2.some
    refine h2.grow g ?_
    rw [h3]
    refine g.frame _ _ h3 fun q => ?_
    obtain ⟨k, hk, e1⟩ := List.mem_filterMap.mp q
    obtain ⟨l1, e2⟩ := List.getElem?_eq_some_iff.mp e1
    have := (List.getElem_inj r.nd).mp e2
    subst this
    exact hm hk
end
section
variable {X : Cx} {e : Expr} {es : List Expr} {was : PA1}
abbrev wCall (sp : SpZ) (n : Nat) (ws : PA1) : PE1 := fun r S W => ws r S fun xs S1 => bindVs xs S1 fun rs S2 => callL sp n rs S2 W
theorem rsOf_ok {K : PySem.W.Frag} {m : List Addr} {H H0 : Hp} : ∀ {xs : List SV} {vs : List V} {rs : List R}, RepVs K m H H0 xs vs → rsOf xs = some rs → RepRs K m H rs vs
  | [], _, _, h, e => by simp [rsOf] at e; subst e; exact h
  | .r x :: xs, _, _, ⟨v, r, e1, h, t⟩, e => by
    simp only [rsOf, Option.map_eq_some_iff] at e
    obtain ⟨rs, e2, rfl⟩ := e
    exact ⟨v, r, e1, h, rsOf_ok t e2⟩
  | .f _ :: _, _, _, _, e => by cases e
theorem bindVs_ok {K : PySem.W.Frag} {m0 : List Addr} {H0 H : Hp} : ∀ {xs : List SV} {vs : List V} {m : List Addr} {S : Sto} {W : List R → Sto → Prop}, Grow m0 H0 m H → RepS K m H S → RepVs K m H H0 xs vs → bindVs xs S W →
    ∃ rs S' m', W rs S' ∧ Grow m0 H0 m' H ∧ RepS K m' H S' ∧ RepRs K m' H rs vs ∧ ∀ (n : Nat) a, m[n]? = some a → m'[n]? = some a
  | [], vs, m, S, W, g, r, q, w => ⟨[], S, m, w, g, r, q, fun _ _ h => h⟩
  | .r x :: xs, _, m, S, W, g, r, ⟨v, us, e, h, t⟩, w => by
    obtain ⟨rs, S', m', w', g', r', q', p'⟩ := bindVs_ok (xs := xs) g r t w
    exact ⟨x :: rs, S', m', w', g', r', ⟨v, us, e, RepR.pre p' x v h, q'⟩, p'⟩
  | .f l :: xs, _, m, S, W, g, r, ⟨v, us, e, h, t⟩, w => by
    unfold bindVs at w
    split at w
    · rename_i rs e1
      obtain ⟨a, vs, e2, h1, h2, h3, h4⟩ := h
      refine ⟨_, _, m ++ [a], w, Grow.push h3 g, r.push h2 h1 h4, ⟨v, us, e, ⟨a, by rw [← r.len]; simp, e2⟩, RepRs.pre pre_push _ _ (rsOf_ok t e1)⟩, pre_push⟩
    · exact w.elim
theorem callL_ok {K : PySem.W.Frag} {n : Nat} {sp : SpZ} {m0 m : List Addr} {H0 H : Hp} {S : Sto} {rs : List R} {vs : List V} {W : PK1} {Q : VK} {E : XK} (g : Grow m0 H0 m H) (r : RepS K m H S) (q : RepRs K m H rs vs)
    (w : callL sp n rs S W) (f : Fin K m0 H0 W Q) : liftSp K n sp vs H Q E := by
  obtain ⟨⟨hn, nd⟩, w⟩ := w
  split at w
  · rename_i T eT
    obtain ⟨rT, lt⟩ := r.pick nd eT
    have get : ∀ i : Nat, ((argLocs rs).filterMap (m[·]?))[i]? = (argLocs rs)[i]?.bind (m[·]?) := filterMap_get lt
    have hn' : (renum 0 rs).length = n := by rw [renum_len]; exact hn
    refine ⟨(argLocs rs).filterMap (m[·]?), renum 0 rs, T, _, hn', renum_at rs 0 vs q (fun i k e1 a e2 => by rw [Nat.zero_add, get, e1]; exact e2), rT, w, fun x T' v m' H' h' g' r' q' => ?_⟩
    obtain ⟨g1, r1⟩ := call_back r nd lt g' r'
    have gg := g.trans g1
    have fresh : ∀ {j : Nat} {a : Addr}, (argLocs rs).length ≤ j → m'[j]? = some a → a ∉ (argLocs rs).filterMap (m[·]?) := fun {j a} hj e hm => by
      obtain ⟨i, hi⟩ := List.getElem?_of_mem hm
      have e1 := g'.pre i a hi
      have hl := (List.getElem?_eq_some_iff.mp hi).1
      rw [filterMap_len lt] at hl
      obtain ⟨l1, e2⟩ := List.getElem?_eq_some_iff.mp e1
      obtain ⟨l2, e3⟩ := List.getElem?_eq_some_iff.mp e
      have := (List.getElem_inj r'.nd).mp (e2.trans e3.symm)
      omega
    have fresh0 : ∀ {j : Nat} {a : Addr}, (argLocs rs).length ≤ j → m'[j]? = some a → H a = none := fun {j a} hj e => g'.new a (List.mem_of_getElem? e) (fresh hj e)
    unfold backL at h'
    cases x with
    | d y => exact f _ _ v m H' h' gg r1 q'
    | ro y => exact f _ _ v m H' h' gg r1 q'
    | ex y => exact f _ _ v m H' h' gg r1 q'
    | ad y => exact f _ _ v m H' h' gg r1 q'
    | loc j =>
      simp only at h'
      obtain ⟨a, e1, rfl⟩ := q'
      split at h'
      · rename_i hj
        split at h'
        · rename_i k e2
          have e3 : m'[j]? = m[k]? := by
            have hk := lt k (List.mem_of_getElem? e2)
            have := g'.pre j (m[k]) (by rw [get, e2]; exact List.getElem?_eq_getElem hk)
            rw [this, List.getElem?_eq_getElem hk]
          exact f _ _ _ m H' h' gg r1 ⟨a, by rw [← e3]; exact e1, rfl⟩
        · exact h'.elim
      · rename_i hj
        split at h'
        · rename_i xs e2
          obtain ⟨a', e3, us, k1, k2⟩ := r'.at_ j _ e2
          rw [e1] at e3; cases e3
          have hH := fresh0 (by omega) e1
          exact f _ _ _ m H' h' gg r1 ⟨a, us, rfl, k1, r.notmem hH, g.fresh r hH, k2⟩
        · rename_i e2
          obtain ⟨a', e3, k1⟩ := r'.at_ j _ e2
          rw [e1] at e3; cases e3
          have hH := fresh0 (by omega) e1
          exact f _ _ _ (m ++ [a]) H' h' (Grow.push (g.fresh r hH) gg) (r1.pushO (r.notmem hH) k1) ⟨a, by rw [← r.len]; simp, rfl⟩
        · rename_i e2
          obtain ⟨a', e3, k1⟩ := r'.at_ j _ e2
          rw [e1] at e3; cases e3
          have hH := fresh0 (by omega) e1
          exact f _ _ _ (m ++ [a]) H' h' (Grow.push (g.fresh r hH) gg) (r1.pushO (r.notmem hH) k1) ⟨a, by rw [← r.len]; simp, rfl⟩
        · exact h'.elim
    | tr xs =>
      obtain ⟨t2, t3, h'⟩ := h'
      split at h'
      · rename_i U eU
        obtain ⟨rU, ltU⟩ := r'.pick t2 eU
        have getU : ∀ i : Nat, ((argLocs xs).filterMap (m'[·]?))[i]? = (argLocs xs)[i]?.bind (m'[·]?) := filterMap_get ltU
        have out : ∀ b, b ∈ (argLocs xs).filterMap (m'[·]?) → H b = none := fun b hb => by
          obtain ⟨k, hk, e⟩ := List.mem_filterMap.mp hb
          exact fresh0 (t3 k hk) e
        obtain ⟨a, us, ev, k1, k2⟩ := q'
        refine f _ _ v (m ++ (argLocs xs).filterMap (m'[·]?)) H' h' ⟨fun i b e => ?_, gg.tup, gg.frz, gg.xt, gg.frame, fun b hb hm => ?_⟩ ⟨?_, by rw [List.length_append, List.length_append, r1.len, rU.len], fun i o e => ?_⟩ ⟨a, us, ev, k1, ?_⟩
        · have := gg.pre i b e
          rw [List.getElem?_append_left (List.getElem?_eq_some_iff.mp this).1]; exact this
        · rcases List.mem_append.mp hb with z | z
          · exact gg.new b z hm
          · exact g.fresh r (out b z)
        · rw [List.nodup_append]
          exact ⟨r1.nd, rU.nd, fun b hb c hc e => by subst e; exact r.notmem (out b hc) hb⟩
        · by_cases hi : i < (putAll S (argLocs rs) T').length
          · rw [List.getElem?_append_left hi] at e
            obtain ⟨b, h1, h2⟩ := r1.at_ i o e
            exact ⟨b, by rw [List.getElem?_append_left (by rw [r1.len]; exact hi)]; exact h1, h2⟩
          · rw [List.getElem?_append_right (by omega)] at e
            obtain ⟨b, h1, h2⟩ := rU.at_ _ o e
            exact ⟨b, by rw [List.getElem?_append_right (by rw [r1.len]; omega), r1.len]; exact h1, h2⟩
        · refine renum_at _ _ _ k2 fun i k e1 b e2 => ?_
          rw [← r.len, List.getElem?_append_right (by omega), Nat.add_sub_cancel_left, getU, e1]
          exact e2
      · exact h'.elim
  · exact w.elim
theorem we_call {k n : Nat} {x : Str} {p pos : Pos} {sp : SpZ} (F : FnZ X.prog X.w X.K X.mg X.base k x n sp) (hr : Room k X.A) (hg : Gl X x) (ha : WA X (e :: es) was) (hdb : (x == ("__debug__" : Str)) = false := by decide)
    (he : starEach (e :: es) X.env = (false, eval e X.env) :: starEach es X.env := by rfl) (hpl : (backTo pos (starEach es X.env)).any (·.1) = false := by rfl) : WE X (.Call (.Name x p) (e :: es) [] pos) (wCall sp n was) := by
  obtain ⟨f, fd, ps, h1, h2, h3, h4, h5⟩ := F.ok
  have hp := pe_call (E := E0) (p := p) h5 hr hg h2 h3 h4 .nil pass0 ha.pa hdb he hpl
  refine ⟨⟨fun pins s z H Q I ⟨m, r, S, W, hE, hS, hw, hf⟩ => hp.run pins s z H Q I ⟨m, r, S, _, hE, hS, hw, fun xs S1 vs m1 H1 k1 g1 r1 q1 => ?_⟩⟩⟩
  obtain ⟨rs, S2, m2, w2, g2, r2, q2, _⟩ := bindVs_ok g1 r1 q1 k1
  rw [List.append_nil]
  exact callL_ok g2 r2 q2 w2 hf
end
/-- the slots at the entry -/
abbrev start1 (n : Nat) (rs : List R) : Rho := rs.map some ++ List.replicate (n - rs.length) none
section
variable {P : Program} {w : World} {K : PySem.W.Frag} {mg : Str → Option Value} {base : Heap}
/-- behind a return: the lists handed in, and the list handed back, if it is a new one -/
abbrev retN (k : Nat) (W : R → Sto → Prop) : R → Sto → Prop := fun x S => match x with
  | .d y => W (.d y) (S.take k)
  | .ro y => W (.ro y) (S.take k)
  | .ex y => W (.ex y) (S.take k)
  | .ad y => W (.ad y) (S.take k)
  | .loc j => if j < k then W (.loc j) (S.take k) else match S[j]? with
    | some o => W (.loc k) (S.take k ++ [o])
    | none => False
  | .tr xs => W (.tr xs) S
theorem retN_ok {m0 m' : List Addr} {H0 H' : Hp} {S' : Sto} {x : R} {v : V} {k : Nat} {W : R → Sto → Prop} (hk : m0.length = k) (g : Grow m0 H0 m' H') (r : RepS K m' H' S') (q : RepR K m' H' x v) (w : retN k W x S') :
    ∃ y T m2, W y T ∧ Grow m0 H0 m2 H' ∧ RepS K m2 H' T ∧ RepR K m2 H' y v := by
  have hle : k ≤ S'.length := by
    rw [← r.len, ← hk]
    by_cases h : m0.length = 0
    · omega
    · have h1 : m0.length - 1 < m0.length := by omega
      have := (List.getElem?_eq_some_iff.mp (g.pre (m0.length - 1) _ (List.getElem?_eq_getElem h1))).1
      omega
  have e0 : (List.range k).filterMap (S'[·]?) = S'.take k := by
    have go : ∀ n, n ≤ S'.length → (List.range n).filterMap (S'[·]?) = S'.take n := by
      intro n
      induction n with
      | zero => intro _; simp
      | succ n ih =>
        intro h
        have hn : n < S'.length := by omega
        rw [List.range_succ, List.filterMap_append, ih (by omega), List.take_add_one, List.getElem?_eq_getElem hn, List.filterMap_cons, List.getElem?_eq_getElem hn]
        rfl
    exact go k hle
  have cut0 : ∀ y : R, kept (List.range k) (some y) = some y → RepR K m' H' y v → ∃ m2, Grow m0 H0 m2 H' ∧ RepS K m2 H' (S'.take k) ∧ RepR K m2 H' y v := fun y hy qy => by
    obtain ⟨m2, a, b, c⟩ := Cut.ok (K := K) (r := [some y]) (s := [some v]) (r' := [some y].map (kept (List.range k))) (S' := (List.range k).filterMap (S'[·]?)) (.inr ⟨_, List.nodup_range, by rw [List.take_range]; simp, fun n hn => by have := List.mem_range.mp hn; omega, rfl, rfl⟩) hk g
      ⟨rfl, fun i z e => by
        cases i with
        | zero => simp at e; subst e; exact ⟨v, rfl, qy⟩
        | succ i => simp at e⟩ r
    rw [e0] at c
    obtain ⟨u, h1, h2⟩ := b.at_ 0 y (by simp [hy])
    simp at h1; subst h1
    exact ⟨m2, a, c, h2⟩
  unfold retN at w
  split at w
  · obtain ⟨m2, a, b, c⟩ := cut0 _ rfl q
    exact ⟨_, _, m2, w, a, b, c⟩
  · obtain ⟨m2, a, b, c⟩ := cut0 _ rfl q
    exact ⟨_, _, m2, w, a, b, c⟩
  · obtain ⟨m2, a, b, c⟩ := cut0 _ rfl q
    exact ⟨_, _, m2, w, a, b, c⟩
  · obtain ⟨m2, a, b, c⟩ := cut0 _ rfl q
    exact ⟨_, _, m2, w, a, b, c⟩
  · rename_i j
    split at w
    · rename_i hj
      obtain ⟨m2, a, b, c⟩ := cut0 (.loc j) (by simp only [kept, List.mem_range, hj, if_true]; congr 2; exact (by
        have : ∀ n, j < n → (List.range n).idxOf j = j := by
          intro n
          induction n with
          | zero => intro h; omega
          | succ n ih =>
            intro h
            rw [List.range_succ, List.idxOf_append]
            by_cases hh : j < n
            · rw [if_pos (List.mem_range.mpr hh)]; exact ih hh
            · rw [if_neg (by simpa using hh)]
              have : j = n := by omega
              subst this; simp
        exact this k hj)) q
      exact ⟨_, _, m2, w, a, b, c⟩
    · rename_i hj
      split at w
      · rename_i o eo
        have hjl := (List.getElem?_eq_some_iff.mp eo).1
        have nm : j ∉ List.range k := by simp; omega
        obtain ⟨m2, a, b, c⟩ := Cut.ok (K := K) (r := [some (.loc j)]) (s := [some v]) (r' := [some (.loc j)].map (kept (List.range k ++ [j]))) (S' := (List.range k ++ [j]).filterMap (S'[·]?))
          (.inr ⟨_, by rw [List.nodup_append]; exact ⟨List.nodup_range, by simp, fun x hx y hy e => by simp at hy; subst hy; subst e; exact nm hx⟩, by rw [List.take_append]; simp [List.take_range], fun n hn => by
            rcases List.mem_append.mp hn with z | z
            · have := List.mem_range.mp z; omega
            · simp at z; omega, rfl, rfl⟩) hk g
          ⟨rfl, fun i z e => by
            cases i with
            | zero => simp at e; subst e; exact ⟨v, rfl, q⟩
            | succ i => simp at e⟩ r
        rw [List.filterMap_append, e0, List.filterMap_cons, eo] at c
        have hk2 : kept (List.range k ++ [j]) (some (R.loc j)) = some (.loc k) := by
          simp only [kept]
          rw [if_pos (by simp)]
          congr 2
          rw [List.idxOf_append, if_neg nm]
          simp
        obtain ⟨u, h1, h2⟩ := b.at_ 0 (.loc k) (by simp [hk2])
        simp at h1; subst h1
        exact ⟨_, _, m2, w, a, c, h2⟩
      · exact w.elim
  · exact ⟨_, _, m', w, g, r, q⟩
/-- THE RULE: a def by its body's combinators, and their reading -/
theorem fn_ok {x : Str} {st : Stmt} {f : Addr} {fd : FuncData} {N ps : List Str} {k : Nat} {wb : PS1} {sp : SpZ} (F : Fun K x x st f fd) (sc : FnScope N ps (defScope st))
    (hbody : ∀ (cdv : Value) (A : Around) (outer : List Env) (s : Shared) (H : Hp) (E : XK), Room k (A.deeper (envOfC x (defScope st) s.heap.objs.size f cdv)) →
      WSs (cxOf CX0 P w K mg base N x (defScope st) f cdv A outer s H E).nox (defBody st) wb)
    (hread : ∀ rs S W, rs.length = ps.length → sp rs S W → wb { nx := fun _ S1 => retN S.length W (.d .non) S1, rt := retN S.length W } (start1 N.length rs) S) : FnOk P w K mg base CX0 (k + 1) f fd ps (liftSp K ps.length sp) := by
  refine F.ok sc (fun vs H Q E ⟨m, rs, S, W, hl, q, _⟩ => (RepRs.len q).trans hl) fun cdv A outer s H vs Q E hr ⟨m, rs, S, W, hl, q, hS, hsp, hf⟩ => ⟨_, (hbody cdv A outer s H E hr).pss, ?_⟩
  refine ⟨m, start1 N.length rs, S, _, ?_, hS, hread rs S W hl hsp, ⟨fun r' S' s' m' H' n g e q' => (by
      obtain ⟨y, T, m2, a, b, c, d⟩ := retN_ok (K := K) (x := .d .non) (v := .non) hS.len g q' rfl n
      exact hf y T .non m2 H' a b c d), fun y S' v m' H' n g q' w' => (by
      obtain ⟨y2, T, m2, a, b, c, d⟩ := retN_ok hS.len g q' w' n
      exact hf y2 T v m2 H' a b c d), fun _ _ _ _ _ n => n.elim, fun _ _ _ _ _ n => n.elim⟩⟩
  refine ⟨?_, fun i y e => ?_⟩
  · unfold L2.start Z.start1
    simp [RepRs.len q]
  · unfold start1 at e
    by_cases hi : i < rs.length
    · rw [List.getElem?_append_left (by simpa using hi), List.getElem?_map, Option.map_eq_some_iff] at e
      obtain ⟨z, e1, e2⟩ := e
      cases e2
      obtain ⟨v, h1, h2⟩ := RepRs.get q e1
      refine ⟨v, ?_, h2⟩
      unfold L2.start
      rw [List.getElem?_append_left (by rw [List.length_map, RepRs.len q]; exact hi), List.getElem?_map, h1]
      rfl
    · rw [List.getElem?_append_right (by simpa using hi)] at e
      rw [List.getElem?_replicate] at e
      split at e <;> cases e
theorem fn_def {x : Str} {st : Stmt} {f : Addr} {fd : FuncData} {N ps : List Str} {k : Nat} {wb : PS1} {sp : SpZ} (F : Fun K x x st f fd) (hm : mg x = some (.ref f)) (hb : Binds K fd ps []) (sc : FnScope N ps (defScope st))
    (hbody : ∀ (cdv : Value) (A : Around) (outer : List Env) (s : Shared) (H : Hp) (E : XK), Room k (A.deeper (envOfC x (defScope st) s.heap.objs.size f cdv)) →
      WSs (cxOf CX0 P w K mg base N x (defScope st) f cdv A outer s H E).nox (defBody st) wb)
    (hread : ∀ rs S W, rs.length = ps.length → sp rs S W → wb { nx := fun _ S1 => retN S.length W (.d .non) S1, rt := retN S.length W } (start1 N.length rs) S) : FnZ P w K mg base (k + 1) x ps.length sp :=
  ⟨f, fd, ps, rfl, hm, F.kp, hb, fn_ok F sc hbody hread⟩
/-- a def of the text, as the top left it -/
structure DefAt (K : PySem.W.Frag) (mg : Str → Option Value) (x : Str) (st : Stmt) (ps : List Str) : Prop where
  ex : ∃ f fd, Fun K x x st f fd ∧ mg x = some (.ref f) ∧ Binds K fd ps []
theorem DefAt.mk' {h : Heap} {x : Str} {st : Stmt} {ps : List Str} {f : Addr} {oc : Value} {od an : Option Addr} {osl : Array (Option Value)} {kV doc pm cdv ct : Value} (X : K.In h) (G : h.Ns mainGlobals mg)
    (a : PySem.W.nsIn K mainGlobals x = some (some (.ref f))) (l : K.lookup f = some ⟨oc, od, .func (PySem.W.fnOf x x (defArgs st) (defBody st) (defScope st) .none kV doc pm an cdv ct), osl⟩)
    (c : PySem.W.codeIn K cdv x = true) (k : PySem.W.keepIn K (.ref f) = true)
    (b : ∀ (kV doc pm : Value) (an : Option Addr) (cdv ct : Value) (us : List Value), us.length = ps.length → bindArgs (PySem.W.fnOf x x (defArgs st) (defBody st) (defScope st) .none kV doc pm an cdv ct) ⟨us, []⟩ = pure (ps.zip us)) : DefAt K mg x st ps :=
  have F := fun_mk (st := st) l c k
  ⟨f, _, F, PySem.W.mg_of X G a, F.binds b⟩
theorem DefAt.fn {x : Str} {st : Stmt} {N ps : List Str} {k : Nat} {wb : PS1} {sp : SpZ} (d : DefAt K mg x st ps) (sc : FnScope N ps (defScope st))
    (hbody : ∀ (f : Addr) (cdv : Value) (A : Around) (outer : List Env) (s : Shared) (H : Hp) (E : XK), Room k (A.deeper (envOfC x (defScope st) s.heap.objs.size f cdv)) →
      WSs (cxOf CX0 P w K mg base N x (defScope st) f cdv A outer s H E).nox (defBody st) wb)
    (hread : ∀ rs S W, rs.length = ps.length → sp rs S W → wb { nx := fun _ S1 => retN S.length W (.d .non) S1, rt := retN S.length W } (start1 N.length rs) S) : FnZ P w K mg base (k + 1) x ps.length sp :=
  let ⟨f, _, F, hm, hb⟩ := d.ex
  fn_def F hm hb sc (hbody f) hread
end
/-- the law's own promise: of a list that nobody writes it hands back True -/
def spLaw (P : List Int → Prop) : SpZ := fun rs S W => match rs, S with
  | [.ro xs], [] => ∃ ns : List Int, xs = ns.map D.int ∧ P ns ∧ W (.d (.bl true)) []
  | _, _ => False
end Z
namespace Z
open PySem PySem.Spec PyProof.Rows L2 RZ
/-- the script: at most 63 ints, each of at most 2 ^ 20 bits -/
def SB : Nat := 1048577
def Script (ns : List Int) : Prop := ns.length ≤ 63 ∧ ∀ z ∈ ns, z.natAbs < 2 ^ SB
theorem bits_lt {z : Int} (h : Builtin.Int.intBits z ≤ 1048576) : z.natAbs < 2 ^ SB := by
  by_cases hz : z = 0
  · subst hz; exact Nat.two_pow_pos _
  · unfold Builtin.Int.intBits at h
    rw [if_neg (by simpa using hz)] at h
    exact Nat.lt_of_lt_of_le ((Nat.log2_lt (by omega)).mp (Nat.lt_of_lt_of_le (Nat.lt_succ_self _) h)) (Nat.pow_le_pow_right (by decide) (by unfold SB; decide))
theorem law_start {K : PySem.W.Frag} {H : Hp} {a : Addr} {ns : List Int} (hl : ns.length ≤ 63) (hb : ∀ z ∈ ns, Builtin.Int.intBits z ≤ 1048576) (hO : Only H) (hS : SqL K H a (ns.map V.int)) :
    liftSp K 1 (spLaw Script) [.ref a] H (fun v _ => v = .bl true) fun _ _ _ => False := by
  refine ⟨[], [.ro (ns.map D.int)], [], fun x _ => x = .d (.bl true), rfl, ⟨.ref a, [], rfl, ⟨a, ns.map V.int, rfl, ?_, repInts ns⟩, rfl⟩, ⟨List.nodup_nil, rfl, fun _ _ e => by simp at e⟩, ⟨ns, rfl, ⟨hl, fun z hz => bits_lt (hb z hz)⟩, rfl⟩, fun x S' v m' H' w _ _ q => by subst w; exact q⟩
  rcases hS with (h | ⟨o, h⟩) | h
  · rcases hO a with n | ⟨o, xs, n⟩
    · rw [n] at h; cases h
    · rw [n] at h; cases h
  · exact .inl ⟨o, h⟩
  · exact .inr h
end Z
set_option Elab.async false
set_option linter.all false
/-! M1: rows of whole numbers, what divides all of them, their plain form. Plain mathematics. -/
namespace Z
theorem cdvd {d : Nat} {x : Int} : (d : Int) ∣ x ↔ d ∣ x.natAbs := by
  rw [← Int.natAbs_dvd_natAbs]; simp
/-- what divides all of a row -/
def gl : List Int → Nat
  | [] => 0
  | x :: xs => Nat.gcd x.natAbs (gl xs)
theorem gl_dvd : ∀ {xs : List Int} {x : Int}, x ∈ xs → (gl xs : Int) ∣ x
  | y :: ys, x, h => by
    rcases List.mem_cons.mp h with e | e
    · subst e
      exact cdvd.mpr (Nat.gcd_dvd_left _ _)
    · have := gl_dvd e
      exact Int.dvd_trans (Int.natCast_dvd_natCast.mpr (Nat.gcd_dvd_right _ _)) this
theorem gl_zero : ∀ {xs : List Int}, gl xs = 0 → ∀ x ∈ xs, x = 0
  | xs, h, x, hx => by
    have := gl_dvd hx
    rw [h] at this
    simpa using this
theorem gl_pos {xs : List Int} (h : ∃ x ∈ xs, x ≠ 0) : 0 < gl xs := by
  obtain ⟨x, hx, h0⟩ := h
  exact Nat.pos_of_ne_zero fun e => h0 (gl_zero e x hx)
theorem gl_le {xs : List Int} {x : Int} (hx : x ∈ xs) (h0 : x ≠ 0) : gl xs ≤ x.natAbs := Nat.le_of_dvd (by omega) (cdvd.mp (gl_dvd hx))
theorem gl_map_mul (k : Int) : ∀ xs : List Int, gl (xs.map (k * ·)) = k.natAbs * gl xs
  | [] => by simp [gl]
  | x :: xs => by
    simp only [List.map_cons, gl, gl_map_mul k xs, Int.natAbs_mul, Nat.gcd_mul_left]
/-- the sign of the first number that isn't 0 -/
def fs : List Int → Int
  | [] => 1
  | x :: xs => if x = 0 then fs xs else if x < 0 then -1 else 1
theorem fs_or : ∀ xs : List Int, fs xs = 1 ∨ fs xs = -1
  | [] => .inl rfl
  | x :: xs => by
    unfold fs
    split
    · exact fs_or xs
    · split
      · exact .inr rfl
      · exact .inl rfl
theorem fs_sq (xs : List Int) : fs xs * fs xs = 1 := by rcases fs_or xs with e | e <;> rw [e] <;> rfl
theorem fs_mul {k : Int} (hk : k ≠ 0) : ∀ {xs : List Int}, (∃ x ∈ xs, x ≠ 0) → fs (xs.map (k * ·)) = (if k < 0 then -1 else 1) * fs xs
  | [], h => by simp at h
  | x :: xs, h => by
    by_cases hx : x = 0
    · subst hx
      have h' : ∃ x ∈ xs, x ≠ 0 := by
        obtain ⟨y, hy, h0⟩ := h
        rcases List.mem_cons.mp hy with e | e
        · exact absurd e h0
        · exact ⟨y, e, h0⟩
      simpa [fs] using fs_mul hk h'
    · have hkx : k * x ≠ 0 := Int.mul_ne_zero hk hx
      simp only [List.map_cons, fs, if_neg hx, if_neg hkx]
      by_cases h1 : k < 0
      · by_cases h2 : x < 0
        · rw [if_pos h1, if_pos h2, if_neg (by have := Int.mul_pos_of_neg_of_neg h1 h2; omega)]; rfl
        · rw [if_pos h1, if_neg h2, if_pos (Int.mul_neg_of_neg_of_pos h1 (by omega))]; rfl
      · by_cases h2 : x < 0
        · rw [if_neg h1, if_pos h2, if_pos (Int.mul_neg_of_pos_of_neg (by omega) h2)]; rfl
        · rw [if_neg h1, if_neg h2, if_neg (by have := Int.mul_pos (show 0 < k by omega) (show 0 < x by omega); omega)]; rfl
/-- the row divided by what divides all -/
def prow (xs : List Int) : List Int := xs.map (· / (gl xs : Int))
/-- the plain form: the first number that isn't 0 above 0 -/
def pln (xs : List Int) : List Int := xs.map fun x => fs xs * (x / (gl xs : Int))
theorem prow_mul {xs : List Int} (h : ∃ x ∈ xs, x ≠ 0) : xs = (prow xs).map ((gl xs : Int) * ·) := by
  unfold prow
  rw [List.map_map]
  have : ∀ x ∈ xs, ((fun x => (gl xs : Int) * x) ∘ fun x => x / (gl xs : Int)) x = x := fun x hx => Int.mul_ediv_cancel' (gl_dvd hx)
  conv => lhs; rw [← List.map_id xs]
  exact List.map_congr_left fun x hx => (this x hx).symm
theorem pln_mul {xs : List Int} (h : ∃ x ∈ xs, x ≠ 0) : xs = (pln xs).map ((fs xs * (gl xs : Int)) * ·) := by
  unfold pln
  rw [List.map_map]
  have : ∀ x ∈ xs, ((fun x => fs xs * (gl xs : Int) * x) ∘ fun x => fs xs * (x / (gl xs : Int))) x = x := fun x hx => by
    show fs xs * (gl xs : Int) * (fs xs * (x / (gl xs : Int))) = x
    have e1 := Int.mul_ediv_cancel' (gl_dvd hx)
    have e2 := fs_sq xs
    calc _ = (fs xs * fs xs) * ((gl xs : Int) * (x / (gl xs : Int))) := by grind
      _ = x := by rw [e2, e1, Int.one_mul]
  conv => lhs; rw [← List.map_id xs]
  exact List.map_congr_left fun x hx => (this x hx).symm
theorem nz_map {k : Int} (hk : k ≠ 0) {xs : List Int} (h : ∃ x ∈ xs, x ≠ 0) : ∃ x ∈ xs.map (k * ·), x ≠ 0 := by
  obtain ⟨x, hx, h0⟩ := h
  exact ⟨k * x, List.mem_map.mpr ⟨x, hx, rfl⟩, Int.mul_ne_zero hk h0⟩
theorem nz_of_map {k : Int} {xs : List Int} (h : ∃ x ∈ xs.map (k * ·), x ≠ 0) : ∃ x ∈ xs, x ≠ 0 := by
  obtain ⟨y, hy, h0⟩ := h
  obtain ⟨x, hx, rfl⟩ := List.mem_map.mp hy
  exact ⟨x, hx, fun e => h0 (by subst e; simp)⟩
/-- THE LAW of the plain form: multiples have the same -/
theorem pln_smul {k : Int} (hk : k ≠ 0) {xs : List Int} (h : ∃ x ∈ xs, x ≠ 0) : pln (xs.map (k * ·)) = pln xs := by
  unfold pln
  rw [List.map_map, fs_mul hk h, gl_map_mul]
  refine List.map_congr_left fun x hx => ?_
  have hg := gl_pos h
  show (if k < 0 then -1 else 1) * fs xs * (k * x / ((k.natAbs * gl xs : Nat) : Int)) = fs xs * (x / (gl xs : Int))
  obtain ⟨y, hy⟩ := gl_dvd hx
  have e1 : x / (gl xs : Int) = y := by rw [hy]; exact Int.mul_ediv_cancel_left _ (by omega)
  rw [e1]
  by_cases h1 : k < 0
  · rw [if_pos h1]
    have e2 : k * x = ((k.natAbs * gl xs : Nat) : Int) * (-y) := by
      rw [hy, Int.natCast_mul, show (k.natAbs : Int) = -k by omega]; grind
    rw [e2, Int.mul_ediv_cancel_left _ (by have : 0 < k.natAbs * gl xs := Nat.mul_pos (by omega) hg; omega)]
    grind
  · rw [if_neg h1]
    have e2 : k * x = ((k.natAbs * gl xs : Nat) : Int) * y := by
      rw [hy, Int.natCast_mul, show (k.natAbs : Int) = k by omega]; grind
    rw [e2, Int.mul_ediv_cancel_left _ (by have : 0 < k.natAbs * gl xs := Nat.mul_pos (by omega) hg; omega)]
    grind
theorem fsgl_ne {xs : List Int} (h : ∃ x ∈ xs, x ≠ 0) : fs xs * (gl xs : Int) ≠ 0 := by
  have := gl_pos h
  rcases fs_or xs with e | e <;> rw [e] <;> omega
theorem pln_nz {xs : List Int} (h : ∃ x ∈ xs, x ≠ 0) : ∃ x ∈ pln xs, x ≠ 0 := by
  have e := pln_mul h
  rw [e] at h
  exact nz_of_map h
theorem pln_pln {xs : List Int} (h : ∃ x ∈ xs, x ≠ 0) : pln (pln xs) = pln xs := by
  have := pln_smul (fsgl_ne h) (pln_nz h)
  rw [← pln_mul h] at this
  exact this.symm
theorem pln_len (xs : List Int) : (pln xs).length = xs.length := by simp [pln]
/-- the numbers grow no greater -/
theorem pln_bd {n : Nat} {xs : List Int} (h : ∃ x ∈ xs, x ≠ 0) (hb : ∀ x ∈ xs, x.natAbs < n) : ∀ x ∈ pln xs, x.natAbs < n := fun x hx => by
  unfold pln at hx
  obtain ⟨y, hy, rfl⟩ := List.mem_map.mp hx
  have h1 := hb y hy
  have hg := gl_pos h
  have e : (fs xs * (y / (gl xs : Int))).natAbs = (y / (gl xs : Int)).natAbs := by rcases fs_or xs with e | e <;> rw [e] <;> simp
  rw [e, Int.natAbs_ediv_of_dvd (gl_dvd hy)]
  exact Nat.lt_of_le_of_lt (Nat.div_le_self _ _) h1
/-- what the loop over a row reckons -/
theorem gl_fold : ∀ (xs : List Int) (g : Nat), xs.foldl (fun g x => Nat.gcd g x.natAbs) g = Nat.gcd g (gl xs)
  | [], g => by simp [gl]
  | x :: xs, g => by simp only [List.foldl_cons, gl, gl_fold xs, Nat.gcd_assoc]
/-- the first number that isn't 0 -/
theorem first_nz : ∀ {xs : List Int}, (∃ x ∈ xs, x ≠ 0) → ∃ y ys, xs.filter (fun x => !(x == 0)) = y :: ys ∧ y ≠ 0 ∧ fs xs = if y < 0 then -1 else 1
  | [], h => by simp at h
  | x :: xs, h => by
    by_cases hx : x = 0
    · subst hx
      have h' : ∃ x ∈ xs, x ≠ 0 := by
        obtain ⟨y, hy, h0⟩ := h
        rcases List.mem_cons.mp hy with e | e
        · exact absurd e h0
        · exact ⟨y, e, h0⟩
      obtain ⟨y, ys, h1, h2, h3⟩ := first_nz h'
      exact ⟨y, ys, by simpa [List.filter_cons] using h1, h2, by simpa [fs] using h3⟩
    · exact ⟨x, xs.filter (fun x => !(x == 0)), by simp [List.filter_cons, hx], hx, by simp [fs, hx]⟩
theorem prow_nz {xs : List Int} (h : ∃ x ∈ xs, x ≠ 0) : ∃ x ∈ prow xs, x ≠ 0 := by
  have e := prow_mul h
  rw [e] at h
  exact nz_of_map h
theorem fs_prow {xs : List Int} (h : ∃ x ∈ xs, x ≠ 0) : fs (prow xs) = fs xs := by
  have hg := gl_pos h
  have e := congrArg fs (prow_mul h)
  rw [fs_mul (by omega) (prow_nz h), if_neg (by omega), Int.one_mul] at e
  exact e.symm
theorem pln_prow (xs : List Int) : pln xs = (prow xs).map (fs xs * ·) := by
  unfold pln prow
  rw [List.map_map]; rfl
end Z
set_option Elab.async false
set_option linter.all false
set_option maxRecDepth 100000
set_option exponentiation.threshold 20000
/-! Z7: helps for readings: sizes, loops over lists of any length. -/
namespace Z
open PySem PySem.Spec PyProof.Rows L2 RZ
/-! ### sizes -/
/-- below 2 ^ n -/
structure Bd (n : Nat) (i : Int) : Prop where
  lt : i.natAbs < 2 ^ n
theorem bd_iff {n : Nat} {i : Int} : Bd n i ↔ i.natAbs < 2 ^ n := ⟨fun h => h.lt, fun h => ⟨h⟩⟩
theorem Bd.lit {n : Nat} {i : Int} (h : i.natAbs < 2 ^ n) : Bd n i := ⟨h⟩
theorem Bd.zero {n : Nat} : Bd n 0 := Bd.lit (Nat.two_pow_pos _)
theorem Bd.mono {m n : Nat} {i : Int} (h : Bd m i) (k : m ≤ n) : Bd n i := Bd.lit (Nat.lt_of_lt_of_le h.lt (Nat.pow_le_pow_right (by decide) k))
theorem Bd.mul {m n : Nat} {i j : Int} (h : Bd m i) (k : Bd n j) : Bd (m + n) (i * j) := by
  simp only [bd_iff] at *
  rw [Int.natAbs_mul, Nat.pow_add]
  exact Nat.mul_lt_mul'' h k
theorem Bd.add {m n : Nat} {i j : Int} (h : Bd m i) (k : Bd n j) : Bd (max m n + 1) (i + j) := by
  have h1 := h.mono (Nat.le_max_left m n)
  have h2 := k.mono (Nat.le_max_right m n)
  simp only [bd_iff] at *
  rw [Nat.pow_succ]
  omega
theorem Bd.neg {m : Nat} {i : Int} (h : Bd m i) : Bd m (-i) := by simp only [bd_iff] at *; rw [Int.natAbs_neg]; exact h
theorem Bd.of_le {n : Nat} {i b : Int} (h1 : -b ≤ i) (h2 : i ≤ b) (h : b < 2 ^ n) : Bd n i := by
  refine bd_iff.mpr ?_
  have : (i.natAbs : Int) < 2 ^ n := by omega
  have e : ((2 ^ n : Nat) : Int) = 2 ^ n := by simp
  rw [← e] at this
  exact Int.ofNat_lt.mp this
/-- a product of two numbers of such sizes is carried -/
theorem mulOk {m n : Nat} {i j : Int} (h : Bd m i) (k : Bd n j) (hs : m + n ≤ 134217728) : MulOk i j := ⟨(mulx_ok h.lt k.lt hs).ok⟩
theorem mulOk_l {i j : Int} (h : -(2 ^ 64) < i ∧ i < 2 ^ 64) : MulOk i j := ⟨(show CMul i j from .inl h).ok⟩
theorem mulOk_r {i j : Int} (h : -(2 ^ 64) < j ∧ j < 2 ^ 64) : MulOk i j := ⟨(show CMul i j from .inr h).ok⟩
theorem cdv {n : Nat} {i j : Int} (h0 : j ≠ 0) (h : Bd n j) (hn : n ≤ 9000) : CDv i j := ⟨h0, .inl (Nat.lt_of_lt_of_le h.lt (Nat.pow_le_pow_right (by decide) hn))⟩
theorem cdv_small {i j : Int} (h0 : j ≠ 0) (h : j.natAbs < 2 ^ 200) : CDv i j := cdv (n := 200) h0 (Bd.lit h) (by decide)
/-! ### loops over lists of any length -/
section
variable {k : Nat} {chk : Sto → Prop} {f : R → Rho → Option Rho} {t : PT1} {w : PE1} {r : Rho}
/-- a comprehension whose parts leave the store as it is -/
theorem lcL_pure {items : List R} (g : R → D) (p : R → Bool) {S : Sto} {W : List D → Sto → Prop} (hk : S.take k = S) (hc : chk S)
    (h : ∀ x ∈ items, ∃ r1, f x r = some r1 ∧ (∀ W1 : Bool → Sto → Prop, W1 (p x) S → t r1 S W1) ∧ (p x = true → ∀ W1 : PK1, W1 (.r (.d (g x))) S → w r1 S W1)) (q : W ((items.filter p).map g) S) : lcL k chk f t w r items S W := by
  induction items generalizing W with
  | nil => exact ⟨hc, q⟩
  | cons x xs ih =>
    obtain ⟨r1, h1, h2, h3⟩ := h x (by simp)
    unfold lcL
    refine ⟨hc, ?_⟩
    rw [h1]
    refine h2 _ ?_
    cases hp : p x with
    | true =>
      rw [if_pos rfl]
      refine h3 hp _ ?_
      rw [hk]
      exact ih (fun y hy => h y (by simp [hy])) (by simpa [List.filter_cons, hp] using q)
    | false =>
      rw [if_neg Bool.false_ne_true, hk]
      exact ih (fun y hy => h y (by simp [hy])) (by simpa [List.filter_cons, hp] using q)
theorem lcL_map {items : List R} (g : R → D) {S : Sto} {W : List D → Sto → Prop} (hk : S.take k = S) (hc : chk S)
    (h : ∀ x ∈ items, ∃ r1, f x r = some r1 ∧ (∀ W1 : Bool → Sto → Prop, W1 true S → t r1 S W1) ∧ ∀ W1 : PK1, W1 (.r (.d (g x))) S → w r1 S W1) (q : W (items.map g) S) : lcL k chk f t w r items S W :=
  lcL_pure g (fun _ => true) hk hc (fun x hx => let ⟨r1, a, b, c⟩ := h x hx; ⟨r1, a, b, fun _ => c⟩) (by
    have : items.filter (fun _ => true) = items := List.filter_eq_self.mpr fun _ _ => rfl
    rw [this]; exact q)
end
/-- the same over a row of ints -/
theorem lcL_ints {k : Nat} {chk : Sto → Prop} {f : R → Rho → Option Rho} {t : PT1} {w : PE1} {r : Rho} {ns : List Int} (g : Int → Int) {S : Sto} {W : List D → Sto → Prop} (hk : S.take k = S) (hc : chk S)
    (h : ∀ n ∈ ns, ∃ r1, f (.d (.int n)) r = some r1 ∧ (∀ W1 : Bool → Sto → Prop, W1 true S → t r1 S W1) ∧ ∀ W1 : PK1, W1 (.r (.d (.int (g n)))) S → w r1 S W1) (q : W ((ns.map g).map D.int) S) : lcL k chk f t w r ((ns.map D.int).map R.d) S W := by
  refine lcL_map (fun x => match x with | .d (.int n) => .int (g n) | _ => .non) hk hc (fun x hx => ?_) ?_
  · simp only [List.map_map, List.mem_map, Function.comp] at hx
    obtain ⟨n, hn, rfl⟩ := hx
    exact h n hn
  · have e : ((ns.map D.int).map R.d).map (fun x => match x with | .d (.int n) => D.int (g n) | _ => .non) = (ns.map g).map D.int := by simp [List.map_map, Function.comp_def]
    rw [e]; exact q
/-- with a test -/
theorem lcL_intsF {k : Nat} {chk : Sto → Prop} {f : R → Rho → Option Rho} {t : PT1} {w : PE1} {r : Rho} {ns : List Int} (p : Int → Bool) {S : Sto} {W : List D → Sto → Prop} (hk : S.take k = S) (hc : chk S)
    (h : ∀ n ∈ ns, ∃ r1, f (.d (.int n)) r = some r1 ∧ (∀ W1 : Bool → Sto → Prop, W1 (p n) S → t r1 S W1) ∧ (p n = true → ∀ W1 : PK1, W1 (.r (.d (.int n))) S → w r1 S W1)) (q : W ((ns.filter p).map D.int) S) : lcL k chk f t w r ((ns.map D.int).map R.d) S W := by
  refine lcL_pure (fun x => match x with | .d d => d | _ => .non) (fun x => match x with | .d (.int n) => p n | _ => false) hk hc (fun x hx => ?_) ?_
  · simp only [List.map_map, List.mem_map, Function.comp] at hx
    obtain ⟨n, hn, rfl⟩ := hx
    exact h n hn
  · have e : (((ns.map D.int).map R.d).filter (fun x => match x with | .d (.int n) => p n | _ => false)).map (fun x => match x with | .d d => d | _ => .non) = (ns.filter p).map D.int := by
      rw [List.map_map, List.filter_map, List.map_map]
      rfl
    rw [e]; exact q
/-- a for by what holds ahead of each turn -/
theorem forL_ix {k : Nat} {chk : Sto → Prop} {f : R → Rho → Option Rho} {body : PS1} {N : En} {items : List R} (I : Nat → Rho → Sto → Prop)
    (hs : ∀ i x, items[i]? = some x → ∀ r S, I i r S → ∀ M : Rho → Sto → Prop, (∀ r' S', I (i + 1) r' S' → M r' S') → chk S ∧ match f x r with
      | some r1 => body { nx := fun r2 S2 => ∃ r3 S3, Cut k r2 S2 r3 S3 ∧ M r3 S3, rt := N.rt, bk := N.nx, ct := fun r2 S2 => ∃ r3 S3, Cut k r2 S2 r3 S3 ∧ M r3 S3 } r1 S
      | none => False)
    (hd : ∀ r S, I items.length r S → chk S ∧ N.nx r S) {r : Rho} {S : Sto} (h0 : I 0 r S) : forL k chk f body N items r S := by
  have key : ∀ (n i : Nat), n + i = items.length → ∀ r S, I i r S → forL k chk f body N (items.drop i) r S := by
    intro n
    induction n with
    | zero =>
      intro i hi r S h
      have : i = items.length := by omega
      subst this
      rw [List.drop_eq_nil_of_le (Nat.le_refl _)]
      exact hd r S h
    | succ n ih =>
      intro i hi r S h
      have hl : i < items.length := by omega
      rw [List.drop_eq_getElem_cons hl]
      unfold forL
      exact hs i _ (List.getElem?_eq_getElem hl) r S h _ fun r' S' h' => ih (i + 1) (by omega) r' S' h'
  simpa using key items.length 0 (by omega) r S h0
theorem rgR_get {lo : Int} {n i : Nat} {x : R} (h : (rgR lo n)[i]? = some x) : i < n ∧ x = .d (.int (lo + (i : Nat))) := by
  have hi : i < n := by
    have := (List.getElem?_eq_some_iff.mp h).1
    simpa [rgR] using this
  simp only [rgR, List.getElem?_map, List.getElem?_range hi, Option.map_some, Option.some.injEq] at h
  exact ⟨hi, h.symm⟩
theorem rgR_len {lo : Int} {n : Nat} : (rgR lo n).length = n := by simp [rgR]
theorem getI_0 {a : D} {xs : List D} : getI (a :: xs) 0 = some a := rfl
theorem getI_1 {a b : D} {xs : List D} : getI (a :: b :: xs) 1 = some b := rfl
theorem getI_2 {a b c : D} {xs : List D} : getI (a :: b :: c :: xs) 2 = some c := rfl
theorem getI_3 {a b c d : D} {xs : List D} : getI (a :: b :: c :: d :: xs) 3 = some d := rfl
theorem getI_of {xs : List D} {i : Int} (h0 : 0 ≤ i) (h1 : i < xs.length) : getI xs i = xs[i.toNat]? := by unfold getI; rw [if_pos h0]
/-- an item at a place that lies in the row -/
theorem getI_in {xs : List D} {i : Int} (h0 : 0 ≤ i) (h1 : i < xs.length) : ∃ z, getI xs i = some z ∧ z ∈ xs := by
  have hl : i.toNat < xs.length := by omega
  rw [getI_of h0 h1, List.getElem?_eq_getElem hl]
  exact ⟨_, rfl, List.getElem_mem hl⟩
theorem getI_ints {ns : List Int} {i : Int} (h0 : 0 ≤ i) (h1 : i < ns.length) : ∃ z, getI (ns.map D.int) i = some (.int z) ∧ z ∈ ns := by
  obtain ⟨z, h, hz⟩ := getI_in (xs := ns.map D.int) h0 (by simpa using h1)
  obtain ⟨n, hn, rfl⟩ := List.mem_map.mp hz
  exact ⟨n, h, hn⟩
theorem cutD_take {xs : List D} (k : Nat) : cutD xs none (some (k : Int)) = xs.take k := by
  unfold cutD
  rw [HT.sIx_nat, HT.sIx_none, List.drop_zero, Nat.sub_zero]
  by_cases h : k ≤ xs.length
  · rw [Nat.min_eq_left h]
  · rw [Nat.min_eq_right (by omega), List.take_length, List.take_of_length_le (by omega)]
theorem cutD_drop {xs : List D} (k : Nat) : cutD xs (some (k : Int)) none = xs.drop k := by
  unfold cutD
  rw [HT.sIx_nat, HT.sIx_none]
  by_cases h : k ≤ xs.length
  · rw [Nat.min_eq_left h, List.take_of_length_le (by rw [List.length_drop]; omega)]
  · rw [Nat.min_eq_right (by omega), Nat.sub_self, List.take_zero, List.drop_eq_nil_of_le (by omega)]
theorem ixD_10 : ixD 1 0 = some 0 := rfl
theorem ixD_20 : ixD 2 0 = some 0 := rfl
theorem ixD_21 : ixD 2 1 = some 1 := rfl
theorem ixD_30 : ixD 3 0 = some 0 := rfl
theorem ixD_31 : ixD 3 1 = some 1 := rfl
theorem ixD_32 : ixD 3 2 = some 2 := rfl
theorem ixD_40 : ixD 4 0 = some 0 := rfl
theorem ixD_41 : ixD 4 1 = some 1 := rfl
theorem ixD_42 : ixD 4 2 = some 2 := rfl
theorem ixD_43 : ixD 4 3 = some 3 := rfl
theorem rgR_zero {lo : Int} : rgR lo 0 = [] := rfl
theorem rgR_succ {lo : Int} {n : Nat} : rgR lo (n + 1) = .d (.int lo) :: rgR (lo + 1) n := by
  unfold rgR
  rw [List.range_succ_eq_map, List.map_cons, List.map_map]
  refine List.cons_eq_cons.mpr ⟨by simp, List.map_congr_left fun i _ => ?_⟩
  show R.d (.int (lo + ((i + 1 : Nat) : Int))) = R.d (.int (lo + 1 + (i : Int)))
  rw [show lo + ((i + 1 : Nat) : Int) = lo + 1 + (i : Int) by omega]
theorem fdiv_pos {i j : Int} (h : 0 < j) : i.fdiv j = i / j := Int.fdiv_eq_ediv_of_nonneg i (by omega)
theorem fmod_pos {i j : Int} (h : 0 < j) : i.fmod j = i % j := Int.fmod_eq_emod_of_nonneg i (by omega)
theorem depth_ints (xs : List Int) : PyData.depthAll (pys (xs.map D.int)) ≤ 1 := by
  induction xs with
  | nil => simp [pys, PyData.depthAll]
  | cons x xs ih => simp [pys, py, PyData.depthAll, PyData.depth]; omega
end Z
set_option Elab.async false
set_option linter.all false
set_option maxRecDepth 100000
/-! Z8: further words: a list taken apart; reversed; a raise that is never reached; constants of the module. -/
namespace Z
open PySem PySem.Spec PyProof.Rows L2 RZ
section
variable {X : Cx} {e : Expr} {we : PE1} {pos : Pos}
/-- (a, b, ..) = a list -/
abbrev wUnl (n : Nat) (fs : List R → Rho → Option Rho) (w : PE1) : PS1 := fun N r S => w r S fun x S1 => match isLst x, seqOf S1 x with
  | true, some xs => if xs.length = n then (match fs (xs.map R.d) r with
    | some r' => N.nx r' S1
    | none => False) else False
  | _, _ => False
/-- the signs of a text, one by one -/
abbrev chrs (x : Str) : List R := x.cps.toList.map fun c => R.d (.str ⟨#[c]⟩)
abbrev wItS (w : PE1) : PI1 := fun r S W => w r S fun x S1 => match x with
  | .r (.d (.str s)) => W { items := chrs s } S1
  | _ => False
theorem itok_str {K : PySem.W.Frag} {m0 : List Addr} {H0 : Hp} {x : Str} : ItOk K m0 H0 (Its x) { items := chrs x } :=
  ⟨fun i m H S g r hc => by
    refine ⟨fun y e => ?_, fun e => ?_⟩
    · simp only [chrs, List.getElem?_map, Option.map_eq_some_iff, Array.getElem?_toList] at e
      obtain ⟨c, hc, rfl⟩ := e
      refine ⟨(Array.getElem?_eq_some_iff.mp hc).1, fun v H' ⟨eh, d, hd, ev⟩ => ?_⟩
      subst eh
      rw [hc] at hd; cases hd
      exact ⟨Grow.refl, r, ev⟩
    · simp only [chrs, List.getElem?_map, Option.map_eq_none_iff, Array.getElem?_toList] at e
      exact Array.getElem?_eq_none_iff.mp e⟩
theorem wi_str {tg : Expr} (he : WE X e we) : WI X tg e (wItS we) :=
  ⟨piImp (pi_str he.pe) fun s H R ⟨m, r, S, W, hE, hS, hw, hf⟩ => ⟨m, r, S, _, hE, hS, hw, fun x S1 v m1 H1 h1 g1 r1 q1 => by
    split at h1
    · rename_i y
      exact ⟨y, q1, hf _ S1 m1 H1 _ h1 g1 r1 itok_str⟩
    · exact h1.elim⟩⟩
/-- len of a text -/
abbrev fSLen : PF := fun xs S W => match xs with
  | [.r (.d (.str a))] => a.length ≤ 16777216 ∧ W (.r (.d (.int (a.length : Nat)))) S
  | _ => False
theorem f_slen : FnP X (.builtin "len") fSLen := by
  refine ⟨_, call_len_str, fun xs S W vs m H H0 Q r q w f => ?_⟩
  unfold fSLen at w
  split at w
  · rename_i a
    obtain ⟨v, rfl, q1⟩ := q.one
    obtain rfl : v = V.str a := q1
    exact ⟨a, rfl, by rw [sizeLine_eq]; exact w.1, f.here r (x := svi _) rfl w.2⟩
  · exact w.elim
/-- t in s, s + t, s[i] of texts -/
abbrev pSIn : P2 := fun x y S W => match x, y with
  | .r (.d (.str a)), .r (.d (.str b)) => W (.r (.d (.bl (!(Builtin.Str.occurrences b a 0 b.length 1).isEmpty)))) S
  | _, _ => False
abbrev pSCat : P2 := fun x y S W => match x, y with
  | .r (.d (.str a)), .r (.d (.str b)) => a.length + b.length ≤ 16777216 ∧ W (.r (.d (.str (a ++ b)))) S
  | _, _ => False
theorem o_scat : OpP X (binaryOp .Add) pSCat := by
  refine ⟨_, op_add_str, fun x y S W v u m H H0 Q r qx qy w f => ?_⟩
  unfold pSCat at w
  split at w
  · rename_i a b
    exact ⟨a, b, qx, qy, by rw [sizeLine_eq]; exact w.1, f.here r (x := .r (.d (.str (a ++ b)))) rfl w.2⟩
  · exact w.elim
abbrev pSIx : P2 := fun x y S W => match x, y with
  | .r (.d (.str a)), .r (.d (.int i)) => match a.cps[i.toNat]? with
    | some c => (0 ≤ i ∧ i < 16777216 ∧ i < a.length) ∧ W (.r (.d (.str ⟨#[c]⟩))) S
    | none => False
  | _, _ => False
theorem we_six {a b : Expr} {wa wb : PE1} (ha : WE X a wa) (hb : WE X b wb) (hs : PlainIxT b) : WE X (.Subscript a b pos) (wBin pSIx wa wb) :=
  ⟨peImp (pe_item_str ha.pe hb.pe hs) fun s H Q ⟨m, ρ, S, W, hE, hS, hw, hf⟩ => up2 hE hS hw fun x y S2 v u m2 H2 z g2 r2 qx qy => by
    unfold pSIx at z
    split at z
    · rename_i a i
      split at z
      · rename_i c e
        exact ⟨a, i, c, qx, qy, z.1.1, by have := z.1.2.1; omega, z.1.2.2, e, (hf.later g2 r2).here r2 (x := .r (.d (.str ⟨#[c]⟩))) rfl z.2⟩
      · exact z.elim
    · exact z.elim⟩
/-- s.index(t), t found in s -/
abbrev wSIdx (wo we : PE1) : PE1 := fun r S W => wo r S fun x S1 => match x with
  | .r (.d (.str a)) => we r S1 fun y S2 => match y with
    | .r (.d (.str b)) => match Builtin.Str.occurrences a b 0 a.length 1 with
      | i :: _ => W (.r (.d (.int (i : Nat)))) S2
      | [] => False
    | _ => False
  | _ => False
/-- a constant of the module -/
structure ConAt (K : PySem.W.Frag) (mg : Str → Option Value) (x : Str) (d : D) : Prop where
  ex : ∃ v u, mg x = some u ∧ RelV v u ∧ ∀ H, RepD K H d v
theorem we_gc {x : Str} {d : D} {p : Pos} (hg : Gl X x) (h : ConAt X.K X.mg x d) (hd : (x == ("__debug__" : Str)) = false := by decide) : WE X (.Name x p) (wC d) :=
  let ⟨_, _, hm, r, k⟩ := h.ex
  we_c (pe_glob hg hm r hd) k
theorem RepDs.ints {K : PySem.W.Frag} {H : Hp} : ∀ ns : List Int, RepDs K H (ns.map D.int) (ns.map V.int)
  | [] => rfl
  | n :: ns => ⟨_, _, rfl, rfl, RepDs.ints ns⟩
theorem ConAt.ints {K : PySem.W.Frag} {mg : Str → Option Value} {h : Heap} {x : Str} {a : Addr} {od : Option Addr} {its : Array Value} {n : Nat} {osl : Array (Option Value)} {ns : List Int} (KX : K.In h) (G : h.Ns mainGlobals mg)
    (e : PySem.W.nsIn K mainGlobals x = some (some (.ref a))) (l : K.lookup a = some ⟨.type "tuple", od, .seq its n, osl⟩) (hz : its.size ≤ sizeLine) (hv : Vals (ns.map V.int) its.toList) : ConAt K mg x (.tup (ns.map D.int)) :=
  ⟨.ref a, .ref a, PySem.W.mg_of KX G e, rfl, fun H => ⟨a, ns.map V.int, rfl, .inr ⟨_, its, n, l, rfl, rfl, hz, hv⟩, RepDs.ints ns⟩⟩
theorem ConAt.str {K : PySem.W.Frag} {mg : Str → Option Value} {h : Heap} {x : Str} {s : Str} {t : Tok} (KX : K.In h) (G : h.Ns mainGlobals mg)
    (e : PySem.W.nsIn K mainGlobals x = some (some (.str s t))) : ConAt K mg x (.str s) :=
  ⟨.str s, .str s t, PySem.W.mg_of KX G e, ⟨t, rfl⟩, fun _ => rfl⟩
theorem ConAt.int {K : PySem.W.Frag} {mg : Str → Option Value} {h : Heap} {x : Str} {i : Int} {t : Tok} (KX : K.In h) (G : h.Ns mainGlobals mg)
    (e : PySem.W.nsIn K mainGlobals x = some (some (.int i t))) : ConAt K mg x (.int i) :=
  ⟨.int i, .int i t, PySem.W.mg_of KX G e, ⟨t, rfl⟩, fun _ => rfl⟩
/-- reversed(list or tuple) -/
abbrev wRev (w : PE1) : PI1 := fun r S W => w r S fun x S1 => match itOf S1 x with
  | some it => W { items := it.items.reverse, chk := it.chk } S1
  | none => False
abbrev pIsB (neg : Bool) : P2 := fun x y S W => match x, y with
  | .r (.d (.bl b)), .r (.d (.bl c)) => W (.r (.d (.bl (if neg then b != c else b == c)))) S
  | _, _ => False
/-- a new list that nobody will write: from here on it is data -/
abbrev wFz (w : PE1) : PE1 := fun r S W => w r S fun x S1 => match x with
  | .f xs => W (.r (.d (.lst xs))) S1
  | .r y => W (.r y) S1
/-- a statement that is never reached -/
abbrev wNever : PS1 := fun _ _ _ => False
end
/-- the rest of a block behind a name: so that no rewriting looks into it -/
theorem seqI {t u : PS1} {N : En} {r : Rho} {S : Sto} (h : ∀ P : Rho → Sto → Prop, (∀ r S, u N r S → P r S) → t { nx := P, rt := N.rt, bk := N.bk, ct := N.ct } r S) : wSeq t u N r S := h _ fun _ _ h => h
/-! the arguments of a def, one by one -/
end Z
set_option Elab.async false
set_option linter.all false
set_option maxRecDepth 100000
set_option exponentiation.threshold 20000
/-! R1: promises that stand in several laws. -/
namespace Z
open PySem PySem.Spec PyProof.Rows L2 RZ
/-- what divides both -/
def spGcd : SpZ := fun rs S W => match rs with
  | [.d (.int a), .d (.int b)] => W (.d (.int (Int.gcd a b))) S
  | _ => False
/-- the plain row -/
def spPln : SpZ := fun rs S W => match rs with
  | [.d (.tup xs)] => ∃ ns : List Int, xs = ns.map D.int ∧ (∃ n ∈ ns, n ≠ 0) ∧ (∀ n ∈ ns, Bd 9000 n) ∧ ns.length ≤ 1000 ∧ W (.d (.tup ((pln ns).map D.int))) S
  | _ => False
theorem pln_bds {n : Nat} {ns : List Int} (hz : ∃ n ∈ ns, n ≠ 0) (hb : ∀ x ∈ ns, Bd n x) : ∀ x ∈ pln ns, Bd n x := fun x hx => Bd.lit (pln_bd hz (fun y hy => (hb y hy).lt) x hx)
end Z
set_option Elab.async false
set_option linter.all false
/-! M2: fractions, points, turns of points. -/
namespace Z
/-- a fraction as data -/
def frD (q : Rat) : D := .tup [.int q.num, .int (q.den : Int)]
theorem frD_inj {p q : Rat} : frD p = frD q ↔ p = q := by
  constructor
  · intro h
    unfold frD at h
    injection h with h
    injection h with h1 h2
    injection h2 with h2 _
    injection h1 with h1
    injection h2 with h2
    exact Rat.ext h1 (Int.ofNat.inj h2)
  · intro h; rw [h]
theorem fdiv_of {t g k : Int} (h : t = g * k) (hg : g ≠ 0) : t.fdiv g = k := by rw [h]; exact Int.mul_fdiv_cancel_left _ hg
/-- the two numbers that the lowest terms are divided by -/
theorem made_num {t b : Int} (hb : b ≠ 0) : ((t : Rat) / (b : Rat)).num = if b < 0 then t.fdiv (-(Int.gcd t b : Int)) else t.fdiv (Int.gcd t b) := by
  have hg : 0 < Int.gcd t b := Int.gcd_pos_of_ne_zero_right t hb
  rw [← Rat.divInt_eq_div, Rat.num_divInt]
  obtain ⟨k, hk⟩ := Int.gcd_dvd_left t b
  have e : (b.gcd t : Int) = (Int.gcd t b : Int) := by rw [Int.gcd_comm]
  rw [e]
  split
  · rename_i h
    rw [Int.sign_eq_neg_one_of_neg h]
    have e1 : -1 * t = (Int.gcd t b : Int) * (-k) := by grind
    have e2 : t = (-(Int.gcd t b : Int)) * (-k) := by grind
    rw [e1, Int.mul_ediv_cancel_left _ (by omega), fdiv_of e2 (by omega)]
  · rename_i h
    rw [Int.sign_eq_one_of_pos (by omega), Int.one_mul, Int.fdiv_eq_ediv_of_nonneg _ (by omega)]
theorem made_den {t b : Int} (hb : b ≠ 0) : ((((t : Rat) / (b : Rat)).den : Nat) : Int) = if b < 0 then b.fdiv (-(Int.gcd t b : Int)) else b.fdiv (Int.gcd t b) := by
  have hg : 0 < Int.gcd t b := Int.gcd_pos_of_ne_zero_right t hb
  rw [← Rat.divInt_eq_div, Rat.den_divInt, if_neg hb, Int.gcd_comm b t]
  obtain ⟨k, hk⟩ := Int.gcd_dvd_right t b
  have e0 : b.natAbs = Int.gcd t b * k.natAbs := by
    have := congrArg Int.natAbs hk
    rw [Int.natAbs_mul] at this
    simpa using this
  rw [e0, Nat.mul_div_cancel_left _ hg]
  split
  · rename_i h
    have e2 : b = (-(Int.gcd t b : Int)) * (-k) := by grind
    rw [fdiv_of e2 (by omega)]
    have : k < 0 := by
      by_cases hk0 : 0 ≤ k
      · have := Int.mul_nonneg (show (0 : Int) ≤ (Int.gcd t b : Int) by omega) hk0; omega
      · omega
    omega
  · rename_i h
    rw [fdiv_of hk (by omega)]
    have : 0 ≤ k := by
      by_cases hk0 : 0 ≤ k
      · exact hk0
      · have := Int.mul_neg_of_pos_of_neg (show (0 : Int) < (Int.gcd t b : Int) by omega) (show k < 0 by omega); omega
    omega
/-! ### points and turns -/
abbrev Pt := Rat × Rat × Rat
def ptD (p : Pt) : D := .tup [frD p.1, frD p.2.1, frD p.2.2]
/-- the size of a four -/
def nrm (w x y z : Rat) : Rat := w * w + x * x + y * y + z * z
/-- the turn of a four of fractions -/
def rotQ (w x y z : Rat) (p : Pt) : Pt :=
  ((p.1 * (w * w + x * x - y * y - z * z) + p.2.1 * (2 * (x * y - w * z)) + p.2.2 * (2 * (x * z + w * y))) * (nrm w x y z)⁻¹,
   (p.1 * (2 * (x * y + w * z)) + p.2.1 * (w * w - x * x + y * y - z * z) + p.2.2 * (2 * (y * z - w * x))) * (nrm w x y z)⁻¹,
   (p.1 * (2 * (x * z - w * y)) + p.2.1 * (2 * (y * z + w * x)) + p.2.2 * (w * w - x * x - y * y + z * z)) * (nrm w x y z)⁻¹)
def rot (a : List Int) (p : Pt) : Pt := match a with
  | [w, x, y, z] => rotQ w x y z p
  | _ => p
/-- the product of fours, the first one's turn done last -/
def qmul : List Int → List Int → List Int
  | [p, q, r, s], [t, u, v, o] => [p * t - q * u - r * v - s * o, p * u + q * t + r * o - s * v, p * v - q * o + r * t + s * u, p * o + q * v - r * u + s * t]
  | _, _ => []
def qbk : List Int → List Int
  | [w, x, y, z] => [w, -x, -y, -z]
  | _ => []
theorem four_of {a : List Int} (h : a.length = 4) : ∃ w x y z, a = [w, x, y, z] := by
  match a, h with
  | [w, x, y, z], _ => exact ⟨w, x, y, z, rfl⟩
def nrmI : List Int → Int
  | [w, x, y, z] => w * w + x * x + y * y + z * z
  | _ => 0
theorem sq_pos {x : Int} (h : x ≠ 0) : 0 < x * x := by
  rcases Int.lt_or_gt_of_ne h with h | h
  · exact Int.mul_pos_of_neg_of_neg h h
  · exact Int.mul_pos h h
theorem sq_nn (x : Int) : 0 ≤ x * x := by
  by_cases h : x = 0
  · subst h; decide
  · exact Int.le_of_lt (sq_pos h)
theorem nrmI_pos {w x y z : Int} (h : ∃ n ∈ [w, x, y, z], n ≠ 0) : 0 < nrmI [w, x, y, z] := by
  obtain ⟨n, hn, h0⟩ := h
  have a := sq_nn w
  have b := sq_nn x
  have c := sq_nn y
  have d := sq_nn z
  have e := sq_pos h0
  show 0 < w * w + x * x + y * y + z * z
  simp only [List.mem_cons, List.not_mem_nil, or_false] at hn
  rcases hn with rfl | rfl | rfl | rfl <;> omega
theorem nz_of_nrm {w x y z : Int} (h : nrmI [w, x, y, z] ≠ 0) : ∃ n ∈ [w, x, y, z], n ≠ 0 := by
  by_cases h1 : w = 0
  · by_cases h2 : x = 0
    · by_cases h3 : y = 0
      · by_cases h4 : z = 0
        · subst h1 h2 h3 h4; exact absurd rfl h
        · exact ⟨z, by simp, h4⟩
      · exact ⟨y, by simp, h3⟩
    · exact ⟨x, by simp, h2⟩
  · exact ⟨w, by simp, h1⟩
theorem nrmI_qmul {a b : List Int} (ha : a.length = 4) (hb : b.length = 4) : nrmI (qmul a b) = nrmI a * nrmI b := by
  obtain ⟨p, q, r, s, rfl⟩ := four_of ha
  obtain ⟨t, u, v, o, rfl⟩ := four_of hb
  simp only [qmul, nrmI]
  grind
theorem qmul_len {a b : List Int} (ha : a.length = 4) (hb : b.length = 4) : (qmul a b).length = 4 := by
  obtain ⟨p, q, r, s, rfl⟩ := four_of ha
  obtain ⟨t, u, v, o, rfl⟩ := four_of hb
  rfl
theorem qmul_nz {a b : List Int} (ha : a.length = 4) (hb : b.length = 4) (h1 : ∃ n ∈ a, n ≠ 0) (h2 : ∃ n ∈ b, n ≠ 0) : ∃ n ∈ qmul a b, n ≠ 0 := by
  have e := nrmI_qmul ha hb
  obtain ⟨p, q, r, s, rfl⟩ := four_of ha
  obtain ⟨t, u, v, o, rfl⟩ := four_of hb
  have k1 := nrmI_pos h1
  have k2 := nrmI_pos h2
  refine nz_of_nrm ?_
  have := Int.mul_pos k1 k2
  show nrmI (qmul [p, q, r, s] [t, u, v, o]) ≠ 0
  omega
theorem qmul_bd {m n : Nat} {a b : List Int} (h1 : ∀ x ∈ a, Bd m x) (h2 : ∀ x ∈ b, Bd n x) : ∀ x ∈ qmul a b, Bd (m + n + 3) x := by
  unfold qmul
  split
  · rename_i p q r s t u v o
    simp only [List.mem_cons, List.not_mem_nil, or_false] at h1 h2 ⊢
    have mm : ∀ i j, Bd m i → Bd n j → Bd (m + n) (i * j) := fun i j a b => a.mul b
    have p1 := h1 p (by simp); have p2 := h1 q (by simp); have p3 := h1 r (by simp); have p4 := h1 s (by simp)
    have q1 := h2 t (by simp); have q2 := h2 u (by simp); have q3 := h2 v (by simp); have q4 := h2 o (by simp)
    have fin : ∀ {a b c d e f : Int}, Bd (m + n) a → Bd (m + n) b → Bd (m + n) c → Bd (m + n) d → (e = a - b - c - d ∨ e = a + b + c - d ∨ e = a - b + c + d ∨ e = a + b - c + d) → Bd (m + n + 3) e := by
      intro a b c d e f h1 h2 h3 h4 h
      simp only [bd_iff] at *
      have : 2 ^ (m + n + 3) = 2 ^ (m + n) * 8 := by rw [Nat.pow_add]
      rcases h with h | h | h | h <;> omega
    rintro x (rfl | rfl | rfl | rfl)
    · exact fin (f := 0) (mm _ _ p1 q1) (mm _ _ p2 q2) (mm _ _ p3 q3) (mm _ _ p4 q4) (.inl rfl)
    · exact fin (f := 0) (mm _ _ p1 q2) (mm _ _ p2 q1) (mm _ _ p3 q4) (mm _ _ p4 q3) (.inr (.inl rfl))
    · exact fin (f := 0) (mm _ _ p1 q3) (mm _ _ p2 q4) (mm _ _ p3 q1) (mm _ _ p4 q2) (.inr (.inr (.inl rfl)))
    · exact fin (f := 0) (mm _ _ p1 q4) (mm _ _ p2 q3) (mm _ _ p3 q2) (mm _ _ p4 q1) (.inr (.inr (.inr rfl)))
  · intro x hx; simp at hx
theorem nrm_mul (w x y z a b c d : Rat) : nrm (a * w - b * x - c * y - d * z) (a * x + b * w + c * z - d * y) (a * y - b * z + c * w + d * x) (a * z + b * y - c * x + d * w) = nrm a b c d * nrm w x y z := by
  unfold nrm; grind
/-- one turn and then another one is the turn of the product -/
theorem rotQ_comp (w x y z a b c d : Rat) (p : Pt) : rotQ (a * w - b * x - c * y - d * z) (a * x + b * w + c * z - d * y) (a * y - b * z + c * w + d * x) (a * z + b * y - c * x + d * w) p = rotQ a b c d (rotQ w x y z p) := by
  obtain ⟨p, q, r⟩ := p
  unfold rotQ
  rw [nrm_mul, Rat.inv_mul_rev]
  generalize (nrm w x y z)⁻¹ = i
  generalize (nrm a b c d)⁻¹ = j
  simp only [Prod.mk.injEq]
  refine ⟨?_, ?_, ?_⟩ <;> grind
theorem rot_comp {a b : List Int} (ha : a.length = 4) (hb : b.length = 4) (p : Pt) : rot (qmul b a) p = rot b (rot a p) := by
  obtain ⟨w, x, y, z, rfl⟩ := four_of ha
  obtain ⟨s, t, u, v, rfl⟩ := four_of hb
  simp only [rot, qmul]
  rw [← rotQ_comp]
  simp only [Rat.intCast_sub, Rat.intCast_add, Rat.intCast_mul]
theorem nrm_ne {w x y z : Int} (h : ∃ n ∈ [w, x, y, z], n ≠ 0) : nrm w x y z ≠ 0 := by
  have := nrmI_pos h
  have e : nrm w x y z = ((nrmI [w, x, y, z] : Int) : Rat) := by simp only [nrm, nrmI, Rat.intCast_add, Rat.intCast_mul]
  rw [e]
  intro h0
  have : nrmI [w, x, y, z] = 0 := by exact_mod_cast h0
  omega
theorem rotQ_smul {k w x y z : Rat} (hk : k ≠ 0) (p : Pt) : rotQ (k * w) (k * x) (k * y) (k * z) p = rotQ w x y z p := by
  obtain ⟨p, q, r⟩ := p
  unfold rotQ
  have e : nrm (k * w) (k * x) (k * y) (k * z) = (k * k) * nrm w x y z := by unfold nrm; grind
  have hkk : k * k ≠ 0 := by grind
  have e2 : (nrm (k * w) (k * x) (k * y) (k * z))⁻¹ = (nrm w x y z)⁻¹ * (k * k)⁻¹ := by rw [e, Rat.inv_mul_rev]
  have e3 := Rat.mul_inv_cancel _ hkk
  rw [e2]
  generalize (nrm w x y z)⁻¹ = i
  generalize hj : (k * k)⁻¹ = j at e3
  simp only [Prod.mk.injEq]
  refine ⟨?_, ?_, ?_⟩ <;> grind
theorem rot_smul {k : Int} (hk : k ≠ 0) {a : List Int} (ha : a.length = 4) (p : Pt) : rot (a.map (k * ·)) p = rot a p := by
  obtain ⟨w, x, y, z, rfl⟩ := four_of ha
  simp only [rot, List.map_cons, List.map_nil, Rat.intCast_mul]
  exact rotQ_smul (by exact_mod_cast hk) p
theorem rot_pln {a : List Int} (ha : a.length = 4) (hz : ∃ n ∈ a, n ≠ 0) (p : Pt) : rot (pln a) p = rot a p := by
  conv => rhs; rw [pln_mul hz]
  exact (rot_smul (fsgl_ne hz) (by rw [pln_len, ha]) p).symm
end Z
set_option Elab.async false
set_option linter.all false
set_option maxRecDepth 100000
set_option exponentiation.threshold 20000
/-! R2: promises about fours, fractions, points. -/
namespace Z
open PySem PySem.Spec PyProof.Rows L2 RZ
/-- the product of two fours -/
def spProd : SpZ := fun rs S W => match rs with
  | [.d (.tup xs), .d (.tup ys)] => ∃ a b : List Int, xs = a.map D.int ∧ ys = b.map D.int ∧ a.length = 4 ∧ b.length = 4 ∧ (∀ x ∈ a, Bd 60000000 x) ∧ (∀ x ∈ b, Bd 60000000 x) ∧ W (.d (.tup ((qmul a b).map D.int))) S
  | _ => False
/-- one turn and then another one -/
def spThen : SpZ := fun rs S W => match rs with
  | [.d (.tup xs), .d (.tup ys)] => ∃ a b : List Int, xs = a.map D.int ∧ ys = b.map D.int ∧ a.length = 4 ∧ b.length = 4 ∧ (∃ x ∈ a, x ≠ 0) ∧ (∃ x ∈ b, x ≠ 0) ∧ (∀ x ∈ a, Bd 4400 x) ∧ (∀ x ∈ b, Bd 4400 x) ∧ W (.d (.tup ((pln (qmul b a)).map D.int))) S
  | _ => False
/-- a fraction in lowest terms -/
def spMade : SpZ := fun rs S W => match rs with
  | [.d (.int t), .d (.int b)] => b ≠ 0 ∧ Bd 9000 b ∧ W (.d (frD ((t : Rat) / (b : Rat)))) S
  | _ => False
theorem frD_pos {t b : Int} (h : 0 < b) : frD ((t : Rat) / (b : Rat)) = .tup [.int (t.fdiv (Int.gcd t b)), .int (b.fdiv (Int.gcd t b))] := by
  unfold frD
  rw [made_num (by omega), made_den (by omega), if_neg (by omega), if_neg (by omega)]
theorem frD_neg {t b : Int} (h : b < 0) : frD ((t : Rat) / (b : Rat)) = .tup [.int (t.fdiv (-(Int.gcd t b : Int))), .int (b.fdiv (-(Int.gcd t b : Int)))] := by
  unfold frD
  rw [made_num (by omega), made_den (by omega), if_pos h, if_pos h]
theorem gcd_cdv {t b : Int} (hb : b ≠ 0) (h : Bd 9000 b) (n : Int) : CDv n (Int.gcd t b) ∧ CDv n (-(Int.gcd t b : Int)) := by
  have hg : 0 < Int.gcd t b := Int.gcd_pos_of_ne_zero_right t hb
  have hle : Int.gcd t b ≤ b.natAbs := Nat.le_of_dvd (by omega) (Int.natAbs_dvd_natAbs.mpr (Int.gcd_dvd_right t b) |> fun q => by simpa using q)
  have b1 : Bd 9000 (Int.gcd t b : Int) := by simp only [bd_iff] at *; simp only [Int.natAbs_natCast]; omega
  exact ⟨cdv (by omega) b1 (Nat.le_refl _), cdv (by omega) b1.neg (Nat.le_refl _)⟩
/-- sizes of a fraction -/
def BQ (n : Nat) (q : Rat) : Prop := Bd n q.num ∧ Bd n (q.den : Int)
theorem BQ.mono {m n : Nat} {q : Rat} (h : BQ m q) (k : m ≤ n) : BQ n q := ⟨h.1.mono k, h.2.mono k⟩
theorem BQ.made {n : Nat} {t b : Int} (hb : b ≠ 0) (h1 : Bd n t) (h2 : Bd n b) : BQ n ((t : Rat) / (b : Rat)) := by
  have hg : 0 < Int.gcd t b := Int.gcd_pos_of_ne_zero_right t hb
  rw [← Rat.divInt_eq_div]
  unfold BQ; simp only [bd_iff] at *
  rw [Rat.num_divInt, Rat.den_divInt, if_neg hb]
  refine ⟨?_, ?_⟩
  · refine Nat.lt_of_le_of_lt (Int.natAbs_ediv_le_natAbs _ _) ?_
    rw [Int.natAbs_mul]
    have : b.sign.natAbs = 1 := Int.natAbs_sign_of_ne_zero hb
    rw [this, Nat.one_mul]; exact h1
  · simp only [Int.natAbs_natCast]
    exact Nat.lt_of_le_of_lt (Nat.div_le_self _ _) h2
/-- a point of one common bottom and tops of such sizes -/
def PtB (n : Nat) (p : Pt) : Prop := ∃ L : Nat, 0 < L ∧ Bd n (L : Int) ∧ ∀ q, (q = p.1 ∨ q = p.2.1 ∨ q = p.2.2) → q.den ∣ L ∧ Bd n (q.num * ((L / q.den : Nat) : Int))
theorem PtB.mono {m n : Nat} {p : Pt} (h : PtB m p) (k : m ≤ n) : PtB n p := by
  obtain ⟨L, h0, h1, h2⟩ := h
  exact ⟨L, h0, h1.mono k, fun q hq => ⟨(h2 q hq).1, (h2 q hq).2.mono k⟩⟩
theorem PtB.of {n : Nat} {p : Pt} (h1 : BQ n p.1) (h2 : BQ n p.2.1) (h3 : BQ n p.2.2) : PtB (n * 4) p := by
  obtain ⟨p, q, r⟩ := p
  simp only at h1 h2 h3
  have d1 := p.den_pos
  have d2 := q.den_pos
  have d3 := r.den_pos
  have hL : Bd (n + n + n) ((p.den * q.den * r.den : Nat) : Int) := by
    rw [Int.natCast_mul, Int.natCast_mul]
    exact (h1.2.mul h2.2).mul h3.2
  refine ⟨p.den * q.den * r.den, Nat.mul_pos (Nat.mul_pos d1 d2) d3, hL.mono (by omega), fun x hx => ?_⟩
  have key : ∀ x : Rat, Bd n x.num → x.den ∣ p.den * q.den * r.den → x.den ∣ p.den * q.den * r.den ∧ Bd (n * 4) (x.num * ((p.den * q.den * r.den / x.den : Nat) : Int)) := fun x hx hd => by
    refine ⟨hd, ?_⟩
    have : Bd (n + n + n) ((p.den * q.den * r.den / x.den : Nat) : Int) := by
      simp only [bd_iff] at *
      simp only [Int.natAbs_natCast] at *
      exact Nat.lt_of_le_of_lt (Nat.div_le_self _ _) hL
    exact (hx.mul this).mono (by omega)
  rcases hx with rfl | rfl | rfl
  · exact key _ h1.1 (Nat.dvd_trans (Nat.dvd_mul_right _ _) (Nat.dvd_mul_right _ _))
  · exact key _ h2.1 (Nat.dvd_trans (Nat.dvd_mul_left _ _) (Nat.dvd_mul_right _ _))
  · exact key _ h3.1 (Nat.dvd_mul_left _ _)
theorem PtB.bq {n : Nat} {p : Pt} (h : PtB n p) {q : Rat} (hq : q = p.1 ∨ q = p.2.1 ∨ q = p.2.2) : BQ n q := by
  obtain ⟨L, h0, h1, h2⟩ := h
  obtain ⟨hd, hb⟩ := h2 q hq
  refine ⟨?_, ?_⟩
  · simp only [bd_iff] at *
    rw [Int.natAbs_mul] at hb
    simp only [Int.natAbs_natCast] at hb
    have : 0 < L / q.den := Nat.div_pos (Nat.le_of_dvd h0 hd) q.den_pos
    exact Nat.lt_of_le_of_lt (Nat.le_mul_of_pos_right _ this) hb
  · simp only [bd_iff] at *
    simp only [Int.natAbs_natCast] at *
    exact Nat.lt_of_le_of_lt (Nat.le_of_dvd h0 hd) h1
/-- the turned point -/
def TB (a : List Int) (p : Pt) : Prop := ∃ m n : Nat, 2 * m + n ≤ 8900 ∧ (∀ x ∈ a, Bd m x) ∧ PtB n p
def spTurn : SpZ := fun rs S W => match rs with
  | [.d (.tup xs), .d pd] => ∃ (a : List Int) (p : Pt), xs = a.map D.int ∧ a.length = 4 ∧ (∃ x ∈ a, x ≠ 0) ∧ TB a p ∧ pd = ptD p ∧ W (.d (ptD (rot a p))) S
  | _ => False
/-- the rows of a four's table, whole -/
def rowsI : List Int → List (List Int)
  | [w, x, y, z] => [[w * w + x * x - y * y - z * z, 2 * (x * y - w * z), 2 * (x * z + w * y)], [2 * (x * y + w * z), w * w - x * x + y * y - z * z, 2 * (y * z - w * x)], [2 * (x * z - w * y), 2 * (y * z + w * x), w * w - x * x - y * y + z * z]]
  | _ => []
def rowD (xs : List Int) : D := .tup (xs.map D.int)
theorem rowsI_bd {n : Nat} {a : List Int} (h : ∀ x ∈ a, Bd n x) : ∀ row ∈ rowsI a, ∀ x ∈ row, Bd (n + n + 2) x := by
  unfold rowsI
  split
  · rename_i w x y z
    simp only [List.mem_cons, List.not_mem_nil, or_false] at h ⊢
    have mm : ∀ i j, Bd n i → Bd n j → (i * j).natAbs < 2 ^ (n + n) := fun i j a b => (a.mul b).lt
    have p1 := h w (by simp); have p2 := h x (by simp); have p3 := h y (by simp); have p4 := h z (by simp)
    have e : 2 ^ (n + n + 2) = 2 ^ (n + n) * 4 := by rw [Nat.pow_add]
    have a1 := mm _ _ p1 p1; have a2 := mm _ _ p2 p2; have a3 := mm _ _ p3 p3; have a4 := mm _ _ p4 p4
    have b1 := mm _ _ p2 p3; have b2 := mm _ _ p1 p4; have b3 := mm _ _ p2 p4; have b4 := mm _ _ p1 p3; have b5 := mm _ _ p3 p4; have b6 := mm _ _ p1 p2
    have s1 := sq_nn w; have s2 := sq_nn x; have s3 := sq_nn y; have s4 := sq_nn z
    rintro row (rfl | rfl | rfl) u hu <;> simp only [List.mem_cons, List.not_mem_nil, or_false] at hu <;> rcases hu with rfl | rfl | rfl <;> (refine bd_iff.mpr ?_; rw [e]; omega)
  · intro row hr; simp at hr
end Z
set_option Elab.async false
set_option linter.all false
set_option maxRecDepth 100000
set_option exponentiation.threshold 20000
/-! R3: more of fours and turned points, plain. -/
namespace Z
open PySem PySem.Spec PyProof.Rows L2 RZ
theorem qbk_len {a : List Int} (ha : a.length = 4) : (qbk a).length = 4 := by
  obtain ⟨p, q, r, s, rfl⟩ := four_of ha; rfl
theorem qbk_nz {a : List Int} (ha : a.length = 4) (hz : ∃ n ∈ a, n ≠ 0) : ∃ n ∈ qbk a, n ≠ 0 := by
  obtain ⟨w, x, y, z, rfl⟩ := four_of ha
  obtain ⟨n, hn, h0⟩ := hz
  simp only [qbk, List.mem_cons, List.not_mem_nil, or_false] at hn ⊢
  rcases hn with rfl | rfl | rfl | rfl
  · exact ⟨n, by simp, h0⟩
  · exact ⟨-n, by simp, by omega⟩
  · exact ⟨-n, by simp, by omega⟩
  · exact ⟨-n, by simp, by omega⟩
theorem qbk_bd {n : Nat} {a : List Int} (hb : ∀ x ∈ a, Bd n x) : ∀ x ∈ qbk a, Bd n x := by
  unfold qbk
  split
  · simp only [List.mem_cons, List.not_mem_nil, or_false, forall_eq_or_imp, forall_eq] at hb ⊢
    exact ⟨hb.1, hb.2.1.neg, hb.2.2.1.neg, hb.2.2.2.neg⟩
  · intro x hx; simp at hx
theorem nrmI_ne {a : List Int} (ha : a.length = 4) (hz : ∃ n ∈ a, n ≠ 0) : nrmI a ≠ 0 := by
  obtain ⟨w, x, y, z, rfl⟩ := four_of ha
  have := nrmI_pos hz
  omega
/-! ### a point over one bottom -/
/-- the top of q over the bottom B -/
def topOf (B : Nat) (q : Rat) : Int := q.num * ((B / q.den : Nat) : Int)
theorem topOf_eq {B : Nat} {q : Rat} (h0 : 0 < B) (hd : q.den ∣ B) : (topOf B q : Rat) = q * (B : Rat) := by
  obtain ⟨c, rfl⟩ := hd
  have h1 : q.den * c / q.den = c := Nat.mul_div_cancel_left c q.den_pos
  unfold topOf
  have hd : (q.den : Rat) ≠ 0 := by exact_mod_cast (by have := q.den_pos; omega : q.den ≠ 0)
  have e : q * (q.den : Rat) = (q.num : Rat) := by
    conv => lhs; lhs; rw [← Rat.mkRat_self q, Rat.mkRat_eq_div]
    rw [Rat.div_def, Rat.mul_assoc, Rat.inv_mul_cancel _ hd, Rat.mul_one]
  rw [h1, Rat.intCast_mul, Rat.natCast_mul, ← Rat.mul_assoc, e]
  rfl
theorem fdiv_nat (a b : Nat) : (a : Int).fdiv (b : Int) = ((a / b : Nat) : Int) := by
  rw [Int.fdiv_eq_ediv_of_nonneg _ (by omega)]; rfl
/-- one line of the table on a point -/
def dotI (row : List Int) (B : Nat) (p : Pt) : Int := match row with
  | [a, b, c] => a * topOf B p.1 + b * topOf B p.2.1 + c * topOf B p.2.2
  | _ => 0
theorem rot_rows {a : List Int} (ha : a.length = 4) (hz : ∃ n ∈ a, n ≠ 0) {p : Pt} {B : Nat} (h0 : 0 < B) (h1 : p.1.den ∣ B) (h2 : p.2.1.den ∣ B) (h3 : p.2.2.den ∣ B) :
    ptD (rot a p) = .tup ((rowsI a).map fun row => frD ((dotI row B p : Rat) / ((nrmI a * (B : Int) : Int) : Rat))) := by
  have e1 := topOf_eq h0 h1
  have e2 := topOf_eq h0 h2
  have e3 := topOf_eq h0 h3
  obtain ⟨w, x, y, z, rfl⟩ := four_of ha
  have hB : (B : Rat) ≠ 0 := by exact_mod_cast (by omega : B ≠ 0)
  have hn := nrm_ne hz
  have en : ((nrmI [w, x, y, z] : Int) : Rat) = nrm w x y z := by
    simp only [nrmI, nrm, Rat.intCast_add, Rat.intCast_mul]
  obtain ⟨p1, p2, p3⟩ := p
  simp only at e1 e2 e3
  have key : ∀ r1 r2 r3 : Int, ((dotI [r1, r2, r3] B (p1, p2, p3) : Int) : Rat) / ((nrmI [w, x, y, z] * (B : Int) : Int) : Rat) = (p1 * r1 + p2 * r2 + p3 * r3) * (nrm w x y z)⁻¹ := fun r1 r2 r3 => by
    simp only [dotI, Rat.intCast_add, Rat.intCast_mul, e1, e2, e3, en, Rat.intCast_natCast]
    rw [Rat.div_def, Rat.inv_mul_rev]
    have := Rat.mul_inv_cancel _ hB
    generalize (nrm (w : Rat) x y z)⁻¹ = i
    generalize ((B : Rat))⁻¹ = j at this ⊢
    grind
  simp only [ptD, rowsI, List.map_cons, List.map_nil, key, rot, rotQ]
  simp only [Rat.intCast_add, Rat.intCast_mul, Rat.intCast_sub]
  rfl
/-- the least common bottom, one more part -/
def lcmS (b d : Nat) : Nat := b * (d / Nat.gcd b d)
theorem lcmS_pos {b d : Nat} (hb : 0 < b) (hd : 0 < d) : 0 < lcmS b d := Nat.mul_pos hb (Nat.div_pos (Nat.le_of_dvd hd (Nat.gcd_dvd_right b d)) (Nat.gcd_pos_of_pos_left _ hb))
theorem lcmS_eq (b d : Nat) : lcmS b d = Nat.lcm b d := by
  unfold lcmS Nat.lcm
  rw [← Nat.mul_div_assoc _ (Nat.gcd_dvd_right b d)]
theorem lcmS_l (b d : Nat) : b ∣ lcmS b d := by rw [lcmS_eq]; exact Nat.dvd_lcm_left b d
theorem lcmS_r (b d : Nat) : d ∣ lcmS b d := by rw [lcmS_eq]; exact Nat.dvd_lcm_right b d
theorem lcmS_dvd {b d L : Nat} (h1 : b ∣ L) (h2 : d ∣ L) : lcmS b d ∣ L := by rw [lcmS_eq]; exact Nat.lcm_dvd h1 h2
theorem topOf_bd {n : Nat} {B L : Nat} {q : Rat} (hL : 0 < L) (h1 : q.den ∣ B) (h2 : B ∣ L) (h : Bd n (q.num * ((L / q.den : Nat) : Int))) : Bd n (topOf B q) := by
  unfold topOf
  simp only [bd_iff] at *
  rw [Int.natAbs_mul] at *
  simp only [Int.natAbs_natCast] at *
  exact Nat.lt_of_le_of_lt (Nat.mul_le_mul_left _ (Nat.div_le_div_right (Nat.le_of_dvd hL h2))) h
/-! ### rows of anything -/
theorem lcL_enc {α : Type} {k : Nat} {chk : Sto → Prop} {f : R → Rho → Option Rho} {t : PT1} {w : PE1} {r : Rho} {xs : List α} (enc : α → R) (g : α → D) {S : Sto} {W : List D → Sto → Prop} (hk : S.take k = S) (hc : chk S)
    (h : ∀ x ∈ xs, ∃ r1, f (enc x) r = some r1 ∧ (∀ W1 : Bool → Sto → Prop, W1 true S → t r1 S W1) ∧ ∀ W1 : PK1, W1 (.r (.d (g x))) S → w r1 S W1) (q : W (xs.map g) S) : lcL k chk f t w r (xs.map enc) S W := by
  induction xs generalizing W with
  | nil => exact ⟨hc, q⟩
  | cons x xs ih =>
    obtain ⟨r1, h1, h2, h3⟩ := h x (by simp)
    simp only [List.map_cons]
    unfold lcL
    refine ⟨hc, ?_⟩
    rw [h1]
    refine h2 _ ?_
    rw [if_pos rfl]
    refine h3 _ ?_
    rw [hk]
    exact ih (fun y hy => h y (by simp [hy])) q
theorem item_enc {α : Type} {enc : α → R} {xs : List α} {i : Nat} {x : R} (hx : (xs.map enc)[i]? = some x) : ∃ y, xs[i]? = some y ∧ x = enc y := by
  rw [List.getElem?_map] at hx
  cases e : xs[i]? with
  | none => rw [e] at hx; simp at hx
  | some y => rw [e] at hx; simp at hx; exact ⟨y, rfl, hx.symm⟩
theorem take_one {α β : Type} {xs : List α} {i : Nat} {y : α} (h : xs[i]? = some y) (g : α → β) : (xs.take (i + 1)).map g = (xs.take i).map g ++ [g y] := by
  rw [List.take_add_one, h]; simp
theorem mem_take_one {α : Type} {xs : List α} {i : Nat} {y q : α} (h : xs[i]? = some y) (hq : q ∈ xs.take (i + 1)) : q ∈ xs.take i ∨ q = y := by
  rw [List.take_add_one, h] at hq; simpa using hq
theorem mem_of_at {α : Type} {xs : List α} {i : Nat} {y : α} (h : xs[i]? = some y) : y ∈ xs := List.mem_of_getElem? h
def qsOf (p : Pt) : List Rat := [p.1, p.2.1, p.2.2]
theorem ptD_qs (p : Pt) : ptD p = .tup ((qsOf p).map frD) := rfl
theorem rowsI_three {a row : List Int} (h : row ∈ rowsI a) : ∃ x y z, row = [x, y, z] := by
  unfold rowsI at h
  split at h
  · simp only [List.mem_cons, List.not_mem_nil, or_false] at h
    rcases h with rfl | rfl | rfl <;> exact ⟨_, _, _, rfl⟩
  · simp at h
theorem nrmI_bd {n : Nat} {a : List Int} (h : ∀ x ∈ a, Bd n x) : Bd (n + n + 2) (nrmI a) := by
  unfold nrmI
  split
  · rename_i w x y z
    simp only [List.mem_cons, List.not_mem_nil, or_false, forall_eq_or_imp, forall_eq] at h
    obtain ⟨p1, p2, p3, p4⟩ := h
    have a1 := (p1.mul p1).lt; have a2 := (p2.mul p2).lt; have a3 := (p3.mul p3).lt; have a4 := (p4.mul p4).lt
    have s1 := sq_nn w; have s2 := sq_nn x; have s3 := sq_nn y; have s4 := sq_nn z
    have e : 2 ^ (n + n + 2) = 2 ^ (n + n) * 4 := by rw [Nat.pow_add]
    refine bd_iff.mpr ?_
    rw [e]; omega
  · exact Bd.zero
def sqs (xs : List Int) : Int := (xs.map fun x => x * x).sum
def spSize : SpZ := fun rs S W => match rs with
  | [.d (.tup xs)] => ∃ ns : List Int, xs = ns.map D.int ∧ (∀ n ∈ ns, Bd 60000000 n) ∧ ns.length ≤ 1000 ∧ W (.d (.int (sqs ns))) S
  | _ => False
theorem sqs_four {a : List Int} (h : a.length = 4) : sqs a = nrmI a := by
  obtain ⟨w, x, y, z, rfl⟩ := four_of h
  simp only [sqs, nrmI, List.map_cons, List.map_nil, List.sum_cons, List.sum_nil]
  omega
theorem fr_den (q : Rat) : (q.den : Int) ≠ 0 := by have := q.den_pos; omega
theorem gcd_nat (b d : Nat) : Int.gcd (b : Int) (d : Int) = Nat.gcd b d := by simp [Int.gcd]
/-! ### places in a store that grew -/
theorem at_k {S l : Sto} {k : Nat} : (S ++ l)[S.length + k]? = l[k]? := by
  rw [List.getElem?_append_right (by omega), Nat.add_sub_cancel_left]
theorem at_0 {S l : Sto} : (S ++ l)[S.length]? = l[0]? := at_k (k := 0)
theorem set_k {S l : Sto} {k : Nat} {x : O} : (S ++ l).set (S.length + k) x = S ++ l.set k x := by
  rw [List.set_append_right _ _ (by omega), Nat.add_sub_cancel_left]
theorem set_0 {S l : Sto} {x : O} : (S ++ l).set S.length x = S ++ l.set 0 x := set_k (k := 0)
theorem lt_k {n k : Nat} : (n + k < n) = False := by simp
theorem take_k {S l : Sto} {k : Nat} : (S ++ l).take (S.length + k) = S ++ l.take k := by
  rw [List.take_append, Nat.add_sub_cancel_left, List.take_of_length_le (by omega)]
theorem lt_kk {n j k : Nat} : (n + j < n + k) = (j < k) := by simp
theorem rowsI_len (a : List Int) : (rowsI a).length ≤ 3 := by unfold rowsI; split <;> simp
theorem forL_cons {k : Nat} {chk : Sto → Prop} {f : R → Rho → Option Rho} {body : PS1} {N : En} {x : R} {xs : List R} {r : Rho} {S : Sto} (hc : chk S)
    (h : match f x r with
      | some r1 => body { nx := fun r2 S2 => ∃ r3 S3, Cut k r2 S2 r3 S3 ∧ forL k chk f body N xs r3 S3, rt := N.rt, bk := N.nx, ct := fun r2 S2 => ∃ r3 S3, Cut k r2 S2 r3 S3 ∧ forL k chk f body N xs r3 S3 } r1 S
      | none => False) : forL k chk f body N (x :: xs) r S := by
  unfold forL
  exact ⟨hc, h⟩
theorem forL_nil {k : Nat} {chk : Sto → Prop} {f : R → Rho → Option Rho} {body : PS1} {N : En} {r : Rho} {S : Sto} (hc : chk S) (h : N.nx r S) : forL k chk f body N [] r S := by
  unfold forL
  exact ⟨hc, h⟩
theorem lt_0k {n k : Nat} : (n < n + k) = (0 < k) := by simp
/-- a drawn point: small tops and bottoms -/
def PtS (p : Pt) : Prop := ∀ q ∈ qsOf p, BQ 100 q
theorem PtS.big {p : Pt} (h : PtS p) : PtB 4000 p := by
  have k : PtB (100 * 4) p := PtB.of (h _ (by simp [qsOf])) (h _ (by simp [qsOf])) (h _ (by simp [qsOf]))
  exact k.mono (by decide)
theorem eqv_ii {a b : Int} : PyData.eqv (.int a) (.int b) = (a == b) := by simp only [PyData.eqv]
theorem eqv_bb {a b : Bool} : PyData.eqv (.bool a) (.bool b) = (a == b) := by simp only [PyData.eqv]
theorem eqv_tt {a b : List PyData} : PyData.eqv (.tuple a) (.tuple b) = PyData.eqvAll a b := by simp only [PyData.eqv]
theorem eqv_ll {a b : List PyData} : PyData.eqv (.list a) (.list b) = PyData.eqvAll a b := by simp only [PyData.eqv]
theorem eqv_nn : PyData.eqv .none .none = true := by simp only [PyData.eqv]
theorem eqv_tn {a : List PyData} : PyData.eqv (.tuple a) .none = false := by simp only [PyData.eqv]
theorem eqv_nt {a : List PyData} : PyData.eqv .none (.tuple a) = false := by simp only [PyData.eqv]
theorem eqv_it {a : List PyData} {i : Int} : PyData.eqv (.int i) (.tuple a) = false := by simp only [PyData.eqv]
theorem eqv_ti {a : List PyData} {i : Int} : PyData.eqv (.tuple a) (.int i) = false := by simp only [PyData.eqv]
theorem eqv_in {i : Int} : PyData.eqv (.int i) .none = false := by simp only [PyData.eqv]
theorem eqv_ni {i : Int} : PyData.eqv .none (.int i) = false := by simp only [PyData.eqv]
theorem eqa_nil : PyData.eqvAll [] [] = true := by simp only [PyData.eqvAll]
theorem eqa_nc {a : PyData} {as : List PyData} : PyData.eqvAll [] (a :: as) = false := by simp only [PyData.eqvAll]
theorem eqa_cn {a : PyData} {as : List PyData} : PyData.eqvAll (a :: as) [] = false := by simp only [PyData.eqvAll]
theorem eqa_cc {a b : PyData} {as bs : List PyData} : PyData.eqvAll (a :: as) (b :: bs) = (PyData.eqv a b && PyData.eqvAll as bs) := by simp only [PyData.eqvAll]
end Z
set_option Elab.async false
set_option linter.all false
set_option maxRecDepth 100000
set_option exponentiation.threshold 20000
/-! R4: sizes of turned points, squares of distances, sameness of points. -/
namespace Z
open PySem PySem.Spec PyProof.Rows L2 RZ
theorem fr_parts (q : Rat) : ∃ d : Rat, d ≠ 0 ∧ ((q.den : Int) : Rat) = d ∧ (q.num : Rat) = q * d := by
  have hd : (q.den : Rat) ≠ 0 := by exact_mod_cast (by have := q.den_pos; omega : q.den ≠ 0)
  refine ⟨(q.den : Rat), hd, rfl, ?_⟩
  conv => rhs; lhs; rw [← Rat.mkRat_self q, Rat.mkRat_eq_div]
  rw [Rat.div_def, Rat.mul_assoc, Rat.inv_mul_cancel _ hd, Rat.mul_one]
theorem rot_one (p : Pt) : rot [1, 0, 0, 0] p = p := by
  have h1 : nrm 1 0 0 0 = 1 := by decide +kernel
  obtain ⟨p1, p2, p3⟩ := p
  simp only [rot, rotQ, show ((1 : Int) : Rat) = 1 from rfl, show ((0 : Int) : Rat) = 0 from rfl, Prod.mk.injEq]
  rw [h1]
  rw [show (1 : Rat)⁻¹ = 1 by decide +kernel]
  refine ⟨?_, ?_, ?_⟩ <;> grind
end Z
set_option Elab.async false
set_option linter.all false
set_option maxRecDepth 100000
set_option exponentiation.threshold 20000
/-! R5: a turn is told by what it does to points. -/
set_option Elab.async false
set_option linter.all false
set_option maxRecDepth 100000
set_option exponentiation.threshold 20000
/-! R6: sizes by a common bottom; sums of points; motions. -/
namespace Z
open PySem PySem.Spec PyProof.Rows L2 RZ
/-- every part over one bottom -/
theorem ptb_iff {n : Nat} {p : Pt} : PtB n p ↔ ∃ L : Nat, 0 < L ∧ Bd n (L : Int) ∧ ∀ q ∈ qsOf p, q.den ∣ L ∧ Bd n (topOf L q) := by
  constructor
  · rintro ⟨L, h0, h1, h2⟩
    exact ⟨L, h0, h1, fun q hq => h2 q (by simpa [qsOf] using hq)⟩
  · rintro ⟨L, h0, h1, h2⟩
    exact ⟨L, h0, h1, fun q hq => h2 q (by simpa [qsOf] using hq)⟩
theorem den_dvd {t : Int} {b : Nat} (hb : 0 < b) {q : Rat} (h : q = (t : Rat) / ((b : Int) : Rat)) : q.den ∣ b ∧ topOf b q = t := by
  have hd : q.den ∣ b := by
    have e : q = Rat.divInt t (b : Int) := by rw [h, Rat.divInt_eq_div]
    rw [e]
    rw [Rat.den_divInt, if_neg (by omega), Int.natAbs_natCast]
    refine Nat.div_dvd_of_dvd ?_
    have := Int.gcd_dvd_left (b : Int) t
    exact_mod_cast this
  refine ⟨hd, ?_⟩
  have e := topOf_eq hb hd
  have hB : (b : Rat) ≠ 0 := by exact_mod_cast (by omega : b ≠ 0)
  have e2 : (topOf b q : Rat) = (t : Rat) := by
    rw [e, h, Rat.div_def, Rat.mul_assoc, show (((b : Int) : Rat)) = (b : Rat) from rfl, Rat.inv_mul_cancel _ hB, Rat.mul_one]
  exact_mod_cast e2
theorem PtB.rot {m n : Nat} {a : List Int} (ha : a.length = 4) (hz : ∃ x ∈ a, x ≠ 0) (hb : ∀ x ∈ a, Bd m x) {p : Pt} (hp : PtB n p) : PtB (2 * m + n + 4) (Z.rot a p) := by
  obtain ⟨L, h0, h1, h2⟩ := ptb_iff.mp hp
  have nb : Bd (m + m + 2) (nrmI a) := nrmI_bd hb
  have npos : 0 < nrmI a := by
    obtain ⟨w, x, y, z, rfl⟩ := four_of ha
    exact nrmI_pos hz
  have rb := rowsI_bd hb
  have e := rot_rows ha hz h0 (h2 p.1 (by simp [qsOf])).1 (h2 p.2.1 (by simp [qsOf])).1 (h2 p.2.2 (by simp [qsOf])).1
  obtain ⟨N, hN⟩ : ∃ N : Nat, nrmI a = (N : Int) := ⟨(nrmI a).toNat, by omega⟩
  have hN0 : 0 < N := by omega
  refine ptb_iff.mpr ⟨N * L, Nat.mul_pos hN0 h0, ?_, ?_⟩
  · have := nb.mul h1
    rw [hN] at this
    exact Bd.mono (m := m + m + 2 + n) (by exact_mod_cast this) (by omega)
  · have key : ∀ row ∈ rowsI a, ∀ q : Rat, q = (dotI row L p : Rat) / ((nrmI a * (L : Int) : Int) : Rat) → q.den ∣ N * L ∧ Bd (2 * m + n + 4) (topOf (N * L) q) := fun row hr q hq => by
      have r := rb row hr
      obtain ⟨r1, r2, r3, rfl⟩ := rowsI_three hr
      simp only [List.mem_cons, List.not_mem_nil, or_false, forall_eq_or_imp, forall_eq] at r
      obtain ⟨b1, b2, b3⟩ := r
      have c1 := (h2 p.1 (by simp [qsOf])).2
      have c2 := (h2 p.2.1 (by simp [qsOf])).2
      have c3 := (h2 p.2.2 (by simp [qsOf])).2
      have e1 : ((nrmI a * (L : Int) : Int)) = ((N * L : Nat) : Int) := by rw [hN]; rfl
      rw [e1] at hq
      obtain ⟨k1, k2⟩ := den_dvd (Nat.mul_pos hN0 h0) hq
      refine ⟨k1, ?_⟩
      rw [k2]
      simp only [dotI]
      exact (((b1.mul c1).add (b2.mul c2)).add (b3.mul c3)).mono (by omega)
    rw [ptD_qs] at e
    have e2 : (qsOf (Z.rot a p)).map frD = ((rowsI a).map fun row => (dotI row L p : Rat) / ((nrmI a * (L : Int) : Int) : Rat)).map frD := by
      rw [List.map_map]; simpa [Function.comp_def] using e
    have inj : ∀ xs ys : List Rat, xs.map frD = ys.map frD → xs = ys := by
      intro xs
      induction xs with
      | nil => intro ys h; cases ys with
        | nil => rfl
        | cons y ys => simp at h
      | cons x xs ih => intro ys h; cases ys with
        | nil => simp at h
        | cons y ys =>
          simp only [List.map_cons, List.cons.injEq] at h
          rw [frD_inj.mp h.1, ih ys h.2]
    rw [inj _ _ e2]
    intro q hq
    obtain ⟨row, hr, rfl⟩ := List.mem_map.mp hq
    exact key row hr _ rfl
def ptAdd (p q : Pt) : Pt := (p.1 + q.1, p.2.1 + q.2.1, p.2.2 + q.2.2)
def ptNeg (p : Pt) : Pt := (-p.1, -p.2.1, -p.2.2)
theorem add_tops {L K : Nat} {x y : Rat} (hL : 0 < L) (hK : 0 < K) (h1 : x.den ∣ L) (h2 : y.den ∣ K) : (x + y).den ∣ L * K ∧ topOf (L * K) (x + y) = topOf L x * K + topOf K y * L := by
  refine den_dvd (Nat.mul_pos hL hK) ?_
  have e1 := topOf_eq hL h1
  have e2 := topOf_eq hK h2
  have z1 : (L : Rat) ≠ 0 := by exact_mod_cast (by omega : L ≠ 0)
  have z2 : (K : Rat) ≠ 0 := by exact_mod_cast (by omega : K ≠ 0)
  have hz : (L : Rat) * K ≠ 0 := by
    intro h
    rcases Rat.mul_eq_zero.mp h with h | h
    · exact z1 h
    · exact z2 h
  have i1 := Rat.mul_inv_cancel _ hz
  simp only [Rat.intCast_add, Rat.intCast_mul, e1, e2]
  rw [Rat.div_def, show (((L * K : Nat) : Int) : Rat) = (L : Rat) * K by rw [← Rat.natCast_mul]; rfl, show (((K : Nat) : Int) : Rat) = (K : Rat) from rfl, show (((L : Nat) : Int) : Rat) = (L : Rat) from rfl]
  generalize ((L : Rat) * K)⁻¹ = j at i1 ⊢
  grind
theorem PtB.add {n k : Nat} {p q : Pt} (hp : PtB n p) (hq : PtB k q) : PtB (n + k + 1) (ptAdd p q) := by
  obtain ⟨L, h0, h1, h2⟩ := ptb_iff.mp hp
  obtain ⟨K, g0, g1, g2⟩ := ptb_iff.mp hq
  refine ptb_iff.mpr ⟨L * K, Nat.mul_pos h0 g0, ?_, ?_⟩
  · exact Bd.mono (m := n + k) (by have := h1.mul g1; exact_mod_cast this) (by omega)
  · have key : ∀ x y : Rat, x.den ∣ L ∧ Bd n (topOf L x) → y.den ∣ K ∧ Bd k (topOf K y) → (x + y).den ∣ L * K ∧ Bd (n + k + 1) (topOf (L * K) (x + y)) := fun x y ⟨a1, a2⟩ ⟨b1, b2⟩ => by
      obtain ⟨c1, c2⟩ := add_tops h0 g0 a1 b1
      refine ⟨c1, ?_⟩
      rw [c2]
      exact ((a2.mul g1).add (b2.mul h1)).mono (by omega)
    intro r hr
    simp only [qsOf, ptAdd, List.mem_cons, List.not_mem_nil, or_false] at hr
    rcases hr with rfl | rfl | rfl
    · exact key _ _ (h2 _ (by simp [qsOf])) (g2 _ (by simp [qsOf]))
    · exact key _ _ (h2 _ (by simp [qsOf])) (g2 _ (by simp [qsOf]))
    · exact key _ _ (h2 _ (by simp [qsOf])) (g2 _ (by simp [qsOf]))
theorem PtB.neg {n : Nat} {p : Pt} (hp : PtB n p) : PtB n (ptNeg p) := by
  obtain ⟨L, h0, h1, h2⟩ := ptb_iff.mp hp
  refine ptb_iff.mpr ⟨L, h0, h1, fun r hr => ?_⟩
  have key : ∀ x : Rat, x.den ∣ L ∧ Bd n (topOf L x) → (-x).den ∣ L ∧ Bd n (topOf L (-x)) := fun x ⟨a1, a2⟩ => by
    refine ⟨by rw [Rat.neg_den]; exact a1, ?_⟩
    have : topOf L (-x) = - topOf L x := by
      unfold topOf; rw [Rat.neg_num, Rat.neg_den, Int.neg_mul]
    rw [this]; exact a2.neg
  simp only [qsOf, ptNeg, List.mem_cons, List.not_mem_nil, or_false] at hr
  rcases hr with rfl | rfl | rfl
  · exact key _ (h2 _ (by simp [qsOf]))
  · exact key _ (h2 _ (by simp [qsOf]))
  · exact key _ (h2 _ (by simp [qsOf]))
/-- the sum of two fractions -/
def spAdd : SpZ := fun rs S W => match rs with
  | [.d x, .d y] => ∃ (p q : Rat) (m n : Nat), x = frD p ∧ y = frD q ∧ BQ m p ∧ BQ n q ∧ m + n ≤ 9000 ∧ W (.d (frD (p + q))) S
  | _ => False
theorem add_made {p q : Rat} : ((p.num * (q.den : Int) + q.num * (p.den : Int) : Int) : Rat) / (((p.den : Int) * (q.den : Int) : Int) : Rat) = p + q := by
  obtain ⟨d1, z1, e1, f1⟩ := fr_parts p
  obtain ⟨d2, z2, e2, f2⟩ := fr_parts q
  simp only [Rat.intCast_add, Rat.intCast_mul, e1, e2, f1, f2]
  have hz : d1 * d2 ≠ 0 := by
    intro h
    rcases Rat.mul_eq_zero.mp h with h | h
    · exact z1 h
    · exact z2 h
  have := Rat.mul_inv_cancel _ hz
  rw [Rat.div_def]
  generalize (d1 * d2)⁻¹ = j at this ⊢
  grind
theorem made_ne {p q : Rat} : (p.den : Int) * (q.den : Int) ≠ 0 := Int.mul_ne_zero (fr_den p) (fr_den q)
/-! ### motions: a four and a point -/
abbrev Mo := List Int × Pt
def mov (m : Mo) (p : Pt) : Pt := ptAdd (rot m.1 p) m.2
def moAnd (a b : Mo) : Mo := (pln (qmul b.1 a.1), mov b a.2)
def moBack (m : Mo) : Mo := (pln (qbk m.1), ptNeg (rot (pln (qbk m.1)) m.2))
/-- sizes of a motion -/
structure MB (m n : Nat) (a : Mo) : Prop where
  len : a.1.length = 4
  nz : ∃ x ∈ a.1, x ≠ 0
  bd : ∀ x ∈ a.1, Bd m x
  pt : PtB n a.2
theorem MB.mov {m n k : Nat} {a : Mo} (h : MB m n a) {p : Pt} (hp : PtB k p) : PtB (2 * m + k + 4 + n + 1) (mov a p) := (PtB.rot h.len h.nz h.bd hp).add h.pt
theorem MB.and {m n k l : Nat} {a b : Mo} (ha : MB m n a) (hb : MB k l b) : MB (k + m + 3) (2 * k + n + 4 + l + 1) (moAnd a b) := by
  have q := qmul_nz hb.len ha.len hb.nz ha.nz
  exact ⟨by simp only [moAnd]; rw [pln_len, qmul_len hb.len ha.len], pln_nz q, pln_bds q (qmul_bd hb.bd ha.bd), hb.mov ha.pt⟩
theorem MB.back {m n : Nat} {a : Mo} (h : MB m n a) : MB m (2 * m + n + 4) (moBack a) := by
  have q := qbk_nz h.len h.nz
  have l : (pln (qbk a.1)).length = 4 := by rw [pln_len, qbk_len h.len]
  have b := pln_bds q (qbk_bd h.bd)
  exact ⟨l, pln_nz q, b, (PtB.rot l (pln_nz q) b h.pt).neg⟩
end Z
set_option Elab.async false
set_option linter.all false
set_option maxRecDepth 100000
set_option exponentiation.threshold 20000
/-! R7: laws of motions. -/
namespace Z
open PySem PySem.Spec PyProof.Rows L2 RZ
/-- the parts that laws of motions ask -/
structure MW (a : Mo) : Prop where
  len : a.1.length = 4
  nz : ∃ x ∈ a.1, x ≠ 0
theorem MB.w {m n : Nat} {a : Mo} (h : MB m n a) : MW a := ⟨h.len, h.nz⟩
theorem MW.and {a b : Mo} (ha : MW a) (hb : MW b) : MW (moAnd a b) :=
  ⟨by simp only [moAnd]; rw [pln_len, qmul_len hb.len ha.len], pln_nz (qmul_nz hb.len ha.len hb.nz ha.nz)⟩
theorem MW.back {a : Mo} (h : MW a) : MW (moBack a) :=
  ⟨by simp only [moBack]; rw [pln_len, qbk_len h.len], pln_nz (qbk_nz h.len h.nz)⟩
theorem MB.mono {m n k l : Nat} {a : Mo} (h : MB m n a) (h1 : m ≤ k) (h2 : n ≤ l) : MB k l a := ⟨h.len, h.nz, fun x hx => (h.bd x hx).mono h1, h.pt.mono h2⟩
end Z
set_option Elab.async false
set_option linter.all false
set_option maxRecDepth 100000
set_option exponentiation.threshold 20000
/-! R8: ways (three whole numbers), their products; swings and twists. -/
namespace Z
open PySem PySem.Spec PyProof.Rows L2 RZ
def dt : List Int → List Int → Int
  | [a, b, c], [p, q, r] => a * p + b * q + c * r
  | _, _ => 0
def crs : List Int → List Int → List Int
  | [a, b, c], [p, q, r] => [b * r - c * q, c * p - a * r, a * q - b * p]
  | _, _ => []
theorem three_of {a : List Int} (h : a.length = 3) : ∃ x y z, a = [x, y, z] := by
  match a, h with
  | [x, y, z], _ => exact ⟨x, y, z, rfl⟩
theorem cut_1 {xs : List D} : cutD xs (some 1) none = xs.drop 1 := cutD_drop 1
/-! ### swing and twist -/
def hd (f : List Int) : Int := f.headD 0
/-! scaled -/
end Z
set_option Elab.async false
set_option linter.all false
set_option maxRecDepth 100000
set_option exponentiation.threshold 20000
/-! R9: settings, axes, turns about ways. -/
namespace Z
open PySem PySem.Spec PyProof.Rows L2 RZ
/-- the plain setting -/
def pset (k l : Int) : List Int := (pln [l, k]).reverse
theorem pset_eq (k l : Int) : pset k l = [fs [l, k] * (k / (gl [l, k] : Int)), fs [l, k] * (l / (gl [l, k] : Int))] := rfl
theorem gl_two (k l : Int) : gl [l, k] = gl [k, l] := by simp only [gl, Nat.gcd_zero_right]; exact Nat.gcd_comm _ _
def spPset : SpZ := fun rs S W => match rs with
  | [.d (.int k), .d (.int l)] => (∃ n ∈ [k, l], n ≠ 0) ∧ Bd 9000 k ∧ Bd 9000 l ∧ W (.d (.tup ((pset k l).map D.int))) S
  | _ => False
theorem nz_swap {k l : Int} (h : ∃ n ∈ [k, l], n ≠ 0) : ∃ n ∈ [l, k], n ≠ 0 := by
  obtain ⟨n, hn, h0⟩ := h
  exact ⟨n, by simp only [List.mem_cons, List.not_mem_nil, or_false] at hn ⊢; exact hn.symm, h0⟩
/-- the turn about a way by a setting -/
def abt (a : List Int) (k l : Int) : List Int := l :: a.map (k * ·)
theorem abt_len {a : List Int} (ha : a.length = 3) (k l : Int) : (abt a k l).length = 4 := by simp [abt, ha]
theorem abt_nz {a : List Int} (za : ∃ n ∈ a, n ≠ 0) {k l : Int} (h : ∃ n ∈ [k, l], n ≠ 0) : ∃ n ∈ abt a k l, n ≠ 0 := by
  obtain ⟨n, hn, h0⟩ := h
  simp only [List.mem_cons, List.not_mem_nil, or_false] at hn
  rcases hn with rfl | rfl
  · obtain ⟨m, hm, h1⟩ := nz_map h0 za
    exact ⟨m, List.mem_cons_of_mem _ hm, h1⟩
  · exact ⟨n, by simp [abt], h0⟩
theorem abt_bd {m n : Nat} {a : List Int} {k l : Int} (ba : ∀ x ∈ a, Bd m x) (bk : Bd n k) (bl : Bd n l) : ∀ x ∈ abt a k l, Bd (n + m) x := by
  intro x hx
  rcases List.mem_cons.mp hx with rfl | hx
  · exact bl.mono (by omega)
  · obtain ⟨y, hy, rfl⟩ := List.mem_map.mp hx
    exact bk.mul (ba y hy)
def spAbout : SpZ := fun rs S W => match rs with
  | [.d (.tup xs), .d (.tup ys)] => ∃ (a : List Int) (k l : Int), xs = a.map D.int ∧ ys = [.int k, .int l] ∧ a.length = 3 ∧ (∃ x ∈ a, x ≠ 0) ∧ (∃ n ∈ [k, l], n ≠ 0) ∧ (∀ x ∈ a, Bd 4000 x) ∧ Bd 4000 k ∧ Bd 4000 l ∧ W (.d (.tup ((pln (abt a k l)).map D.int))) S
  | _ => False
/-! the first part that isn't 0 -/
def fnz : List Int → Nat
  | [] => 0
  | x :: xs => if x = 0 then fnz xs + 1 else 0
/-! a locked turn behind a taken back twist -/
end Z
set_option Elab.async false
set_option linter.all false
set_option maxRecDepth 100000
set_option exponentiation.threshold 20000
/-! R10: fractions in general; mirrors. -/
namespace Z
open PySem PySem.Spec PyProof.Rows L2 RZ
theorem mul_ne {a b : Rat} (ha : a ≠ 0) (hb : b ≠ 0) : a * b ≠ 0 := fun h => (Rat.mul_eq_zero.mp h).elim ha hb
theorem mul_made {p q : Rat} : ((p.num * q.num : Int) : Rat) / (((p.den : Int) * (q.den : Int) : Int) : Rat) = p * q := by
  obtain ⟨d1, z1, e1, f1⟩ := fr_parts p
  obtain ⟨d2, z2, e2, f2⟩ := fr_parts q
  simp only [Rat.intCast_mul, e1, e2, f1, f2]
  have := Rat.mul_inv_cancel _ (mul_ne z1 z2)
  rw [Rat.div_def]
  generalize (d1 * d2)⁻¹ = j at this ⊢
  grind
theorem BQ.add {m n : Nat} {p q : Rat} (hp : BQ m p) (hq : BQ n q) : BQ (m + n + 1) (p + q) := by
  rw [← add_made]
  exact BQ.made made_ne (((hp.1.mul hq.2).add (hq.1.mul hp.2)).mono (by omega)) ((hp.2.mul hq.2).mono (by omega))
theorem BQ.mul {m n : Nat} {p q : Rat} (hp : BQ m p) (hq : BQ n q) : BQ (m + n) (p * q) := by
  rw [← mul_made]
  exact BQ.made made_ne (hp.1.mul hq.1) (hp.2.mul hq.2)
theorem BQ.neg {m : Nat} {p : Rat} (hp : BQ m p) : BQ m (-p) := ⟨by rw [Rat.neg_num]; exact hp.1.neg, by rw [Rat.neg_den]; exact hp.2⟩
theorem BQ.int {n : Nat} {x : Int} (h : Bd n x) : BQ (n + 1) (x : Rat) := ⟨by simpa using h.mono (by omega), by simpa using Bd.lit (n := n + 1) (i := 1) (by simpa using Nat.one_lt_two_pow (by omega))⟩
/-! mirrors as fours -/
end Z
set_option Elab.async false
set_option linter.all false
set_option maxRecDepth 100000
set_option exponentiation.threshold 20000
/-! R11: two mirrors turn. -/
set_option Elab.async false
set_option linter.all false
set_option maxRecDepth 100000
set_option exponentiation.threshold 20000
/-! R12: screws. -/
namespace Z
open PySem PySem.Spec PyProof.Rows L2 RZ
/-! ### the screw of a motion -/
def axI (f : List Int) : List Int := prow ((pln f).drop 1)
def ksI (f : List Int) : Int := ((pln f).drop 1)[fnz (axI f)]!
def lsI (f : List Int) : Int := (axI f)[fnz (axI f)]! * hd (pln f)
def kI (f : List Int) : Int := (pset (ksI f) (lsI f))[0]!
def lI (f : List Int) : Int := (pset (ksI f) (lsI f))[1]!
/-- what is known of the screw -/
structure Scr (f : List Int) : Prop where
  al : (axI f).length = 3
  az : ∃ n ∈ axI f, n ≠ 0
  k0 : kI f ≠ 0
  ab : pln (abt (axI f) (kI f) (lI f)) = pln f
  par : crs (axI f) ((pln f).drop 1) = [0, 0, 0]
theorem Scr.nz {f : List Int} (h : Scr f) : ∃ n ∈ abt (axI f) (kI f) (lI f), n ≠ 0 := abt_nz h.az ⟨kI f, by simp, h.k0⟩
theorem Scr.rot {f : List Int} (h : Scr f) (hf : f.length = 4) (zf : ∃ n ∈ f, n ≠ 0) (p : Pt) : Z.rot (abt (axI f) (kI f) (lI f)) p = Z.rot f p := by
  rw [← rot_pln (abt_len h.al _ _) h.nz, h.ab, rot_pln hf zf]
end Z
set_option Elab.async false
set_option linter.all false
set_option maxRecDepth 100000
set_option exponentiation.threshold 20000
/-! R13: sizes over one bottom; the promises of screws. -/
namespace Z
open PySem PySem.Spec PyProof.Rows L2 RZ
structure Tp (n : Nat) (B : Int) (q : Rat) : Prop where
  ex : ∃ t : Int, q = (t : Rat) / (B : Rat) ∧ Bd n t
theorem Tp.mono {m n : Nat} {B : Int} {q : Rat} (h : Tp m B q) (k : m ≤ n) : Tp n B q := let ⟨t, e, b⟩ := h.ex; ⟨t, e, b.mono k⟩
theorem Tp.add {m n : Nat} {B : Int} {p q : Rat} (hp : Tp m B p) (hq : Tp n B q) : Tp (max m n + 1) B (p + q) := by
  obtain ⟨t, e1, b1⟩ := hp.ex
  obtain ⟨u, e2, b2⟩ := hq.ex
  refine ⟨t + u, ?_, b1.add b2⟩
  rw [e1, e2, Rat.intCast_add]; simp only [Rat.div_def]; grind
theorem Tp.bq {n : Nat} {B : Int} {q : Rat} (h : Tp n B q) (h0 : B ≠ 0) (hB : Bd n B) : BQ n q := by
  obtain ⟨t, e, b⟩ := h.ex
  rw [e]; exact BQ.made h0 b hB
end Z
set_option Elab.async false
set_option linter.all false
set_option maxRecDepth 100000
set_option exponentiation.threshold 20000
/-! R14: what screws do. -/
set_option Elab.async false
set_option linter.all false
set_option maxRecDepth 100000
set_option exponentiation.threshold 20000
/-! R15: purses of three numbers; ways spun. -/
namespace Z
open PySem PySem.Spec PyProof.Rows L2 RZ
/-- do two ways point alike? -/
def alike (a b : List Int) : Bool := decide (crs a b = [0, 0, 0]) && decide (0 < dt a b)
end Z
set_option Elab.async false
set_option linter.all false
set_option maxRecDepth 100000
set_option exponentiation.threshold 20000
/-! R16: roots; ways led to ways. -/
set_option Elab.async false
set_option linter.all false
set_option maxRecDepth 100000
set_option exponentiation.threshold 20000
/-! R17: the laws that draw by cells. -/
set_option Elab.async false
set_option linter.all false
set_option maxRecDepth 100000
set_option exponentiation.threshold 20000
/-! R23: turns about one way. -/
set_option Elab.async false
set_option linter.all false
set_option maxRecDepth 100000
set_option exponentiation.threshold 20000
/-! R25: rows of turns. -/
set_option Elab.async false
set_option linter.all false
set_option maxRecDepth 100000
set_option maxHeartbeats 1000000
/-! Z9: zip of a text and a tuple. -/
namespace Z
open PySem PySem.Spec PyProof.Rows L2 RZ
section
variable {X : Cx} {e e2 : Expr} {ws : PA1} {pos : Pos}
abbrev wZipS (ws : PA1) : PI1 := fun r S W => ws r S fun xs S1 => match xs with
  | [.r (.d (.str s)), .r (.d (.tup ys))] => s.cps.all (· < 128) = true ∧ W { items := prs (chrs s) (ys.map R.d) } S1
  | _ => False
end
end Z
set_option Elab.async false
set_option linter.all false
set_option maxRecDepth 100000
set_option exponentiation.threshold 20000
/-! R26: hangers: their letters, what hangs by them. -/
namespace Z
open PySem PySem.Spec PyProof.Rows L2 RZ
/-- the way of a letter -/
def uw (i : Nat) : List Int := [if i = 0 then 1 else 0, if i = 1 then 1 else 0, if i = 2 then 1 else 0]
/-- a setting: k, l -/
structure SetOk (n : Nat) (k l : Int) : Prop where
  nz : ∃ x ∈ [k, l], x ≠ 0
  bk : Bd n k
  bl : Bd n l
theorem SetOk.mono {m n : Nat} {k l : Int} (h : SetOk m k l) (q : m ≤ n) : SetOk n k l := ⟨h.nz, h.bk.mono q, h.bl.mono q⟩
/-- the turn of a letter by a setting -/
def lt (i : Nat) (k l : Int) : List Int := abt (uw i) k l
end Z
set_option Elab.async false
set_option linter.all false
set_option maxRecDepth 100000
/-! Z10: numbers as texts, texts joined, tuples repeated. -/
namespace Z
open PySem PySem.Spec PyProof.Rows L2 RZ
/-- a whole number as a text -/
def numT (i : Int) : Str := PySem.Str.ofString (toString i)
section
variable {X : Cx} {e : Expr} {we wo : PE1} {pos : Pos}
abbrev fStr : PF := fun xs S W => match xs with
  | [.r (.d (.int i))] => i.natAbs.log2 < 1920 ∧ W (.r (.d (.str (numT i)))) S
  | _ => False
/-- a tuple some times -/
abbrev pRepT : P2 := fun x y S W => match x, y with
  | .r (.d (.tup xs)), .r (.d (.int k)) => (1 ≤ xs.length ∧ 2 ≤ k ∧ k ≤ 1000 ∧ xs.length ≤ 1000) ∧ W (.r (.d (.tup (List.replicate k.toNat xs).flatten))) S
  | _, _ => False
/-- a row of texts -/
abbrev strsOf : List D → Option (List Str)
  | [] => some []
  | .str x :: r => (strsOf r).map (x :: ·)
  | _ :: _ => none
/-- s.join(list or tuple) -/
abbrev wJoin (wo we : PE1) : PE1 := fun r S W => wo r S fun x S1 => match x with
  | .r (.d (.str a)) => we r S1 fun y S2 => match seqOf S2 y with
    | some xs => match strsOf xs with
      | some ss => (ss.map (·.length)).sum + ss.length * a.length ≤ 16777216 ∧ W (.r (.d (.str (Txt.join a ss)))) S2
      | none => False
    | none => False
  | _ => False
end
end Z
set_option Elab.async false
set_option linter.all false
set_option maxRecDepth 100000
set_option exponentiation.threshold 20000
/-! R27: things as texts. -/
namespace Z
open PySem PySem.Spec PyProof.Rows L2 RZ
/-- a fraction's text -/
def frT (p : Int × Int) : Str := if p.2 = 1 then numT p.1 else (numT p.1 ++ PySem.Str.ofString "/") ++ numT p.2
def OkPw (p : Int × Int) : Prop := Bd 110 p.1 ∧ Bd 110 p.2
abbrev prD (p : Int × Int) : D := .tup [.int p.1, .int p.2]
abbrev ptT (ps : List (Int × Int)) : Str := Txt.join (PySem.Str.ofString " ") (ps.map frT)
abbrev tbT (qs : List (List (Int × Int))) : Str := Txt.join (PySem.Str.ofString "; ") (qs.map ptT)
abbrev rwT (sep : String) (ns : List Int) : Str := Txt.join (PySem.Str.ofString sep) (ns.map numT)
abbrev ptsD (ps : List (Int × Int)) : D := .tup (ps.map prD)
def OkPt (ps : List (Int × Int)) : Prop := ps.length = 3 ∧ ∀ p ∈ ps, OkPw p
def OkTb (qs : List (List (Int × Int))) : Prop := qs.length = 3 ∧ ∀ q ∈ qs, OkPt q
def OkRw (ns : List Int) : Prop := ns.length ≤ 4 ∧ ∀ n ∈ ns, Bd 110 n
/-- a thing of one of the six kinds, and its text -/
def Thing (kind : Int) (x : D) (W : Str → Prop) : Prop :=
  (kind = 0 ∧ ∃ p, x = prD p ∧ OkPw p ∧ W (frT p)) ∨ (kind = 1 ∧ ∃ ns : List Int, x = .tup (ns.map D.int) ∧ OkRw ns ∧ W (rwT " " ns)) ∨ (kind = 2 ∧ ∃ ns : List Int, x = .tup (ns.map D.int) ∧ OkRw ns ∧ W (rwT " " ns)) ∨
    (kind = 3 ∧ ∃ ps, x = ptsD ps ∧ OkPt ps ∧ W (ptT ps)) ∨ (kind = 4 ∧ ∃ qs, x = .tup (qs.map ptsD) ∧ OkTb qs ∧ W (tbT qs)) ∨ (kind = 5 ∧ ∃ k l, x = .tup [.int k, .int l] ∧ OkPw (k, l) ∧ W (rwT ":" [k, l]))
/-- what may be drawn -/
def Drawn (kind : Int) (W : D → Prop) : Prop :=
  (kind = 0 ∧ ∀ p, OkPw p → W (prD p)) ∨ ((kind = 1 ∨ kind = 2) ∧ ∀ ns : List Int, OkRw ns → W (.tup (ns.map D.int))) ∨ (kind = 3 ∧ ∀ ps, OkPt ps → W (ptsD ps)) ∨ (kind = 4 ∧ ∀ qs, OkTb qs → W (.tup (qs.map ptsD))) ∨
    (kind = 5 ∧ ∀ k l, OkPw (k, l) → W (.tup [.int k, .int l]))
theorem Drawn.of {kind : Int} {V : D → Prop} (k0 : 0 ≤ kind) (k1 : kind < 6) (h : ∀ d t, (∀ W : Str → Prop, W t → Thing kind d W) → V d) : Drawn kind V := by
  rcases (by omega : kind = 0 ∨ kind = 1 ∨ kind = 2 ∨ kind = 3 ∨ kind = 4 ∨ kind = 5) with rfl | rfl | rfl | rfl | rfl | rfl
  · exact .inl ⟨rfl, fun p o => h _ _ fun W w => .inl ⟨rfl, p, rfl, o, w⟩⟩
  · exact .inr (.inl ⟨.inl rfl, fun p o => h _ _ fun W w => .inr (.inl ⟨rfl, p, rfl, o, w⟩)⟩)
  · exact .inr (.inl ⟨.inr rfl, fun p o => h _ _ fun W w => .inr (.inr (.inl ⟨rfl, p, rfl, o, w⟩))⟩)
  · exact .inr (.inr (.inl ⟨rfl, fun p o => h _ _ fun W w => .inr (.inr (.inr (.inl ⟨rfl, p, rfl, o, w⟩)))⟩))
  · exact .inr (.inr (.inr (.inl ⟨rfl, fun p o => h _ _ fun W w => .inr (.inr (.inr (.inr (.inl ⟨rfl, p, rfl, o, w⟩))))⟩)))
  · exact .inr (.inr (.inr (.inr ⟨rfl, fun k l o => h _ _ fun W w => .inr (.inr (.inr (.inr (.inr ⟨rfl, k, l, rfl, o, w⟩))))⟩)))
abbrev told : List (Int × Int) := [(1, 2), (-3, 1), (0, 1)]
end Z
set_option Elab.async false
set_option linter.all false
set_option maxRecDepth 100000
/-! Z11: a written dict whose keys are tuples of whole numbers, asked once. -/
namespace Z
open PySem PySem.Spec PyProof.Rows L2 RZ
/-- what is written of a dict: keys and values -/
abbrev KVs := List (List Int × Int)
section
variable {X : Cx} {pos : Pos}
def Ext (H H' : Hp) : Prop := ∀ b o, H b = some o → H' b = some o
theorem RepS.ext {K : PySem.W.Frag} {m : List Addr} {H H' : Hp} {S : Sto} (r : RepS K m H S) (h : Ext H H') (g : Grow m H m H') : RepS K m H' S :=
  ⟨r.nd, r.len, fun n ob e => by
    obtain ⟨a, q1, q2⟩ := r.at_ n ob e
    obtain ⟨u, e2⟩ := q2.some
    exact ⟨a, q1, q2.grow g ((h a u e2).trans e2.symm)⟩⟩
theorem Grow.ext {m : List Addr} {H H' : Hp} (h : Ext H H') : Grow m H m H' := ⟨fun _ _ e => e, fun b xs e => h b _ e, fun b o u e => h b _ e, fun b o e => h b _ e, fun b o e _ => h b o e, fun _ q n => absurd q n⟩
/-- what a written dict holds at a key, or None -/
def kvLook (kvs : KVs) (k : List Int) (o : Option Int) : Option Int := kvs.foldl (fun o kv => if k = kv.1 then some kv.2 else o) o
def kvGet (kvs : KVs) (k : List Int) : D := match kvLook kvs k none with
  | some v => .int v
  | none => .non
/-- x = {..}; return x.get(e, None) -/
abbrev wDGet (i : Nat) (kvs : KVs) (we : PE1) : PS1 := fun N r S => i < r.length ∧ we (r.set i none) S fun y S1 => match y with
  | .r (.d (.tup xs)) => match intsOf xs with
    | some k => N.rt (.d (kvGet kvs k)) S1
    | none => False
  | _ => False
end
end Z
set_option Elab.async false
set_option linter.all false
set_option maxRecDepth 100000
/-! Z12: order of data, sorted, a list that a def has handed back put into a row. -/
namespace Z
open PySem PySem.Spec PyProof.Rows L2 RZ
section
variable {X : Cx}
/-- x < y of data -/
abbrev pLtD : P2 := fun x y S W => match pyOf S x, pyOf S y with
  | some d, some e => (PySem.W.alike d e = true ∧ d ≠ .none ∧ min d.depth e.depth ≤ 60) ∧ W (.r (.d (.bl (PySem.W.dataLt d e)))) S
  | _, _ => False
/-- sorted -/
def srtD (ds : List D) : List D := ds.mergeSort (PySem.W.dataLe false py)
abbrev fSorted : PF := fun xs S W => match xs with
  | [x] => match isLst x, seqOf S x with
    | true, some ds => (PySem.W.AllAlike (ds.map py) ∧ PySem.W.Sortable (ds.map py) ∧ ∀ d ∈ ds, (py d).depth ≤ 50) ∧ W (.f (srtD ds)) S
    | _, _ => False
  | _ => False
/-- a list that has just come into the store, and that nobody will write: from here on it is data -/
abbrev wFzL (w : PE1) : PE1 := fun r S W => w r S fun x S1 => match x with
  | .r (.loc n) => match S1[n]? with
    | some (.lst xs) => (S.length ≤ n ∧ n + 1 = S1.length) ∧ W (.r (.d (.lst xs))) (S1.take n)
    | _ => False
  | .f xs => W (.r (.d (.lst xs))) S1
  | .r y => W (.r y) S1
theorem take_get {α : Type} {l : List α} {n k : Nat} {x : α} (h : (l.take n)[k]? = some x) : k < n ∧ l[k]? = some x := by
  rw [List.getElem?_take] at h
  split at h
  · rename_i q; exact ⟨q, h⟩
  · cases h
theorem we_fzL {e : Expr} {we : PE1} (h : WE X e we) : WE X e (wFzL we) := by
  refine ⟨⟨fun pins s z H Q I ⟨m, r, S, W, hE, hS, hw, hf⟩ => ?_⟩⟩
  refine thn (h.pe.run pins s z H (fun v H1 => Q v H1 ∨ ∃ a vs, v = .ref a ∧ H1 a = some (.lst vs) ∧ ∀ od, Q v (upd H1 a (.frz od (.lst vs)))) I ⟨m, r, S, _, hE, hS, hw, fun x S1 v m1 H1 h1 g1 r1 q1 => ?_⟩) fun v s1 ⟨x, H1, I1, rl, q⟩ => ?_
  · cases x with
    | f xs =>
      obtain ⟨a, vs, rfl, e1, ha, h0, hd⟩ := q1
      exact .inr ⟨a, vs, rfl, e1, fun od => hf _ S1 _ m1 _ h1 (g1.frz_new h0 e1) (r1.frz ha e1) ⟨a, vs, rfl, .inl ⟨od, upd_same⟩, RepDs.keep (kt_fz e1) (kf_fz e1) xs vs hd⟩⟩
    | r y =>
      cases y with
      | d y => exact .inl (hf _ S1 v m1 H1 h1 g1 r1 q1)
      | ro y => exact .inl (hf _ S1 v m1 H1 h1 g1 r1 q1)
      | ex y => exact .inl (hf _ S1 v m1 H1 h1 g1 r1 q1)
      | ad y => exact .inl (hf _ S1 v m1 H1 h1 g1 r1 q1)
      | tr y => exact .inl (hf _ S1 v m1 H1 h1 g1 r1 q1)
      | loc n =>
        simp only at h1
        split at h1
        · rename_i xs en
          obtain ⟨⟨k1, k2⟩, w⟩ := h1
          obtain ⟨a, ha, rfl⟩ := q1
          obtain ⟨a', ha', vs, e1, hd⟩ := r1.at_ n _ en
          rw [ha] at ha'; cases ha'
          have ml : m.length = S.length := hS.len
          have m1l : m1.length = S1.length := r1.len
          have anew : a ∉ m := fun hm => by
            obtain ⟨j, hj⟩ := List.getElem?_of_mem hm
            have jl : j < m.length := (List.getElem?_eq_some_iff.mp hj).1
            have := g1.pre j a hj
            obtain ⟨l1, e2⟩ := List.getElem?_eq_some_iff.mp this
            obtain ⟨l2, e3⟩ := List.getElem?_eq_some_iff.mp ha
            have := (List.getElem_inj r1.nd).mp (e2.trans e3.symm)
            omega
          have h0 : H a = none := g1.new a (List.mem_of_getElem? ha) anew
          refine .inr ⟨a, vs, rfl, e1, fun od => ?_⟩
          have ne : ∀ b, b ∈ m1.take n → b ≠ a := fun b hb e => by
            subst e
            obtain ⟨j, hj⟩ := List.getElem?_of_mem hb
            obtain ⟨jn, hj⟩ := take_get hj
            obtain ⟨l1, e2⟩ := List.getElem?_eq_some_iff.mp hj
            obtain ⟨l2, e3⟩ := List.getElem?_eq_some_iff.mp ha
            have := (List.getElem_inj r1.nd).mp (e2.trans e3.symm)
            omega
          have G : Grow m H (m1.take n) (upd H1 a (.frz od (.lst vs))) := by
            refine ⟨fun j b hj => ?_, fun b xs' hb => kt_fz e1 b xs' (g1.tup b xs' hb), fun b o u hb => kf_fz e1 b o u (g1.frz b o u hb), fun b φ hb => by rw [upd_ne (ne_of (g1.xt b φ hb) e1 (fun q => nomatch q))]; exact g1.xt b φ hb, fun b o hb hn => ?_, fun b hb hn => g1.new b (List.mem_of_mem_take hb) hn⟩
            · have jl : j < m.length := (List.getElem?_eq_some_iff.mp hj).1
              rw [List.getElem?_take_of_lt (by omega)]
              exact g1.pre j b hj
            · rw [upd_ne (ne_of_none hb h0)]
              exact g1.frame b o hb hn
          have R' : RepS X.K (m1.take n) (upd H1 a (.frz od (.lst vs))) (S1.take n) := by
            refine ⟨(List.take_sublist n m1).nodup r1.nd, by simp [m1l], fun j ob hj => ?_⟩
            obtain ⟨jn, hj⟩ := take_get hj
            obtain ⟨b, hb, ho⟩ := r1.at_ j ob hj
            refine ⟨b, by rw [List.getElem?_take_of_lt jn]; exact hb, ?_⟩
            have bn : b ≠ a := ne b (List.mem_of_getElem? (by rw [List.getElem?_take_of_lt jn]; exact hb))
            exact ho.via (fun x v => RepR.conv (fun _ _ h => h) (fun x v => RepD.keep (kt_fz e1) (kf_fz e1) x v) (kt_fz e1) (kf_fz e1) (fun b C h => by rw [upd_ne (ne_of h e1 (fun q => nomatch q))]; exact h) x v) (upd_ne bn)
          exact hf _ _ _ _ _ w G R' ⟨a, vs, rfl, .inl ⟨od, upd_same⟩, RepDs.keep (kt_fz e1) (kf_fz e1) xs vs hd⟩
        · exact h1.elim
  · rcases q with q | ⟨a, vs, rfl, e1, q⟩
    · exact ⟨x, H1, I1, rl, q⟩
    · obtain ⟨od, I2⟩ := I1.lock e1 trivial
      exact ⟨_, _, I2, rl, q od⟩
end
end Z
set_option Elab.async false
set_option linter.all false
set_option maxRecDepth 100000
/-! Z13: the lesser and the greater of two alike data. -/
namespace PySem
namespace W
end W
end PySem
namespace Z
open PySem PySem.Spec PyProof.Rows L2 RZ
section
variable {X : Cx}
abbrev fMin2D : PF := fun xs S W => match xs with
  | [.r (.d d), .r (.d e)] => (PySem.W.AlikeAll [py d, py e] ∧ (py d).depth ≤ 50 ∧ (py e).depth ≤ 50) ∧ W (.r (.d (if PySem.W.dataLt (py e) (py d) then e else d))) S
  | _ => False
abbrev fMax2D : PF := fun xs S W => match xs with
  | [.r (.d d), .r (.d e)] => (PySem.W.AlikeAll [py d, py e] ∧ (py d).depth ≤ 50 ∧ (py e).depth ≤ 50) ∧ W (.r (.d (if PySem.W.dataLt (py d) (py e) then e else d))) S
  | _ => False
end
end Z
set_option Elab.async false
set_option linter.all false
set_option maxRecDepth 100000
/-! Z14: a written dict of texts, read at once: {"x": "y", ..}[e]. -/
namespace Z
open PySem PySem.Spec PyProof.Rows L2 RZ
/-- what is written: texts by texts -/
abbrev SVs := List (Str × Str)
def svLook (kvs : SVs) (k : Str) (o : Option Str) : Option Str := kvs.foldl (fun o kv => if k = kv.1 then some kv.2 else o) o
/-- {"x": "y", ..}[e] -/
abbrev wDIx (kvs : SVs) (we : PE1) : PE1 := fun r S W => we r S fun y S1 => match y with
  | .r (.d (.str k)) => match svLook kvs k none with
    | some v => W (.r (.d (.str v))) S1
    | none => False
  | _ => False
end Z
set_option Elab.async false
set_option linter.all false
set_option maxRecDepth 100000
/-! Z15: x[::-1] of texts and tuples, the least and the greatest of a list of data. -/
namespace PySem.W
end PySem.W
namespace Z
open PySem PySem.Spec PyProof.Rows L2 RZ
/-- a text the other way about -/
def revS (x : Str) : Str := ⟨x.cps.toList.reverse.toArray⟩
section
variable {X : Cx}
/-- x[::-1] of a text or a tuple -/
abbrev wRvX (w : PE1) : PE1 := fun r S W => w r S fun x S1 => match x with
  | .r (.d (.tup xs)) => W (.r (.d (.tup xs.reverse))) S1
  | .r (.d (.str z)) => z.length ≤ 16777216 ∧ W (.r (.d (.str (revS z)))) S1
  | _ => False
/-- min of a list of two data -/
abbrev fMin1D : PF := fun xs S W => match xs with
  | [x] => match isLst x, seqOf S x with
    | true, some [d, e] => (PySem.W.AlikeAll [py d, py e] ∧ (py d).depth ≤ 50 ∧ (py e).depth ≤ 50) ∧ W (.r (.d (if PySem.W.dataLt (py e) (py d) then e else d))) S
    | _, _ => False
  | _ => False
abbrev fMax1D : PF := fun xs S W => match xs with
  | [x] => match isLst x, seqOf S x with
    | true, some [d, e] => (PySem.W.AlikeAll [py d, py e] ∧ (py d).depth ≤ 50 ∧ (py e).depth ≤ 50) ∧ W (.r (.d (if PySem.W.dataLt (py d) (py e) then e else d))) S
    | _, _ => False
  | _ => False
end
end Z
set_option Elab.async false
set_option linter.all false
set_option maxRecDepth 100000
/-! Z16: exceptions of the program's own classes: raised, let out of a def, caught and kept. -/
namespace L2
open PySem PySem.Spec PyProof.Rows
end L2
set_option Elab.async false
set_option linter.all false
set_option maxRecDepth 100000
/-! Z18: len(set(row of whole numbers)); a row of items the other way about; two lists put together, also such that stay as they are. -/
namespace Z
open PySem PySem.Spec PyProof.Rows L2 RZ
section
variable {X : Cx} {e : Expr} {we : PE1}
/-- how many unlike ones -/
def metN (ns : List Int) : Nat := (firstMet (fun i => ns.getD i 0) ns.length).length
/-- len(set(x)) -/
abbrev wUnlike (w : PE1) : PE1 := fun r S W => w r S fun x S1 => match isLst x, seqOf S1 x with
  | true, some ds => match intsOf ds with
    | some ns => ns.length ≤ 4000 ∧ W (.r (.d (.int (metN ns : Nat)))) S1
    | none => False
  | _, _ => False
/-- x[::-1] of a list -/
abbrev wRvL (w : PE1) : PE1 := fun r S W => w r S fun x S1 => match isLst x, seqOf S1 x with
  | true, some ds => W (.f ds.reverse) S1
  | _, _ => False
abbrev pCatQ : P2 := fun x y S W => match isLst x && isLst y, seqOf S x, seqOf S y with
  | true, some xs, some ys => xs.length + ys.length ≤ 16777216 ∧ W (.f (xs ++ ys)) S
  | _, _, _ => False
end
end Z
set_option Elab.async false
set_option linter.all false
set_option maxRecDepth 100000
set_option exponentiation.threshold 20000
/-! R38: stands, the rests of their steps, calm ways looked at. -/
namespace Z
open PySem PySem.Spec PyProof.Rows L2 RZ
def InP (fs : List (List Int)) (i : Int) : Prop := 0 ≤ i ∧ i < fs.length
/-! ### places -/
instance {fs : List (List Int)} {i : Int} : Decidable (InP fs i) := by unfold InP; infer_instance
/-! ### the least of some rests -/
/-! ### no step out of some places -/
end Z
set_option Elab.async false
set_option linter.all false
set_option maxRecDepth 100000
set_option exponentiation.threshold 20000
/-! R39: more for calm ways. -/
set_option Elab.async false
set_option linter.all false
set_option maxRecDepth 100000
/-! Z19: dicts of the store whose keys are tuples. -/
namespace Z
open PySem PySem.Spec PyProof.Rows L2
/-- a key that a dict takes -/
def keyOk (x : D) : Bool := match keyN x with
  | some k => decide (k.depth ≤ 8)
  | none => false
def getT (kvs : List (D × D)) (k : D) : Option D := (kvs.find? fun p => decide (keyN p.1 = keyN k)).map (·.2)
def putT (kvs : List (D × D)) (k v : D) : List (D × D) := if (getT kvs k).isSome then kvs.map (fun p => if keyN p.1 = keyN k then (p.1, v) else p) else kvs ++ [(k, v)]
section
variable {X : Cx} {pins : List (Addr × Obj)} {σ : L2.St} {H H1 : Hp} {s : Shared} {a b : Addr}
abbrev PX (K : PySem.W.Frag) (H : Hp) : List (D × D) → List (NestedKey × Addr × Value) → Prop :=
  Paired fun p x => keyN p.1 = some x.1 ∧ x.1.depth ≤ 8 ∧ RepD K H p.1 (.ref x.2.1) ∧ ∃ v, RelV v x.2.2 ∧ RepD K H p.2 v
theorem PX.keys {K : PySem.W.Frag} {kvs : List (D × D)} {xs : List (NestedKey × Addr × Value)} (h : PX K H kvs xs) : (kvs.map fun p => keyN p.1) = (xs.map (·.1)).map some := by
  induction h with
  | nil => rfl
  | cons hd tl ih => rw [List.map_cons, List.map_cons, List.map_cons, hd.1, ih]
theorem PX.val {K : PySem.W.Frag} {kvs : List (D × D)} {xs : List (NestedKey × Addr × Value)} {k : D} {kk : NestedKey} (h : PX K H kvs xs) (ek : keyN k = some kk) :
    (getT kvs k = none ∧ atKey xs kk = none) ∨ ∃ d p v, getT kvs k = some d ∧ atKey xs kk = some p ∧ RelV v p.2 ∧ RepD K H d v := by
  induction h with
  | nil => exact .inl ⟨rfl, rfl⟩
  | @cons p x ps xs hd tl ih =>
    obtain ⟨h1, h2, h3, v, h4, h5⟩ := hd
    by_cases e : x.1 = kk
    · refine .inr ⟨p.2, x.2, v, ?_, ?_, h4, h5⟩
      · unfold getT; rw [List.find?_cons_of_pos (by simp [h1, ek, e])]; rfl
      · unfold atKey; rw [List.find?_cons_of_pos (by simp [e])]; rfl
    · have e1 : getT (p :: ps) k = getT ps k := by unfold getT; rw [List.find?_cons_of_neg (by simp [h1, ek, e])]
      have e2 : atKey (x :: xs) kk = atKey xs kk := by unfold atKey; rw [List.find?_cons_of_neg (by simp [e])]
      rw [e1, e2]; exact ih
theorem PX.repl {K : PySem.W.Frag} {kvs : List (D × D)} {xs : List (NestedKey × Addr × Value)} {k d : D} {kk : NestedKey} {v : V} {u : Value} (h : PX K H kvs xs) (ek : keyN k = some kk) (rv : RelV v u) (hd : RepD K H d v) :
    PX K H (kvs.map fun p => if keyN p.1 = keyN k then (p.1, d) else p) (xs.map (putAt kk u)) := by
  induction h with
  | nil => exact .nil
  | @cons p x ps xs hd' tl ih =>
    rw [List.map_cons, List.map_cons]
    refine .cons ?_ ih
    obtain ⟨h1, h2, h3, v', h4, h5⟩ := hd'
    unfold putAt
    by_cases e : x.1 = kk
    · rw [if_pos e, if_pos (by rw [h1, ek, e])]; exact ⟨h1, h2, h3, v, rv, hd⟩
    · rw [if_neg e, if_neg (by rw [h1, ek]; exact fun q => e (Option.some.inj q))]; exact ⟨h1, h2, h3, v', h4, h5⟩
theorem PX.put {K : PySem.W.Frag} {kvs : List (D × D)} {xs : List (NestedKey × Addr × Value)} {k d : D} {kk : NestedKey} {v : V} {u : Value} (h : PX K H kvs xs) (ek : keyN k = some kk) (dk : kk.depth ≤ 8) (hb : RepD K H k (.ref b)) (rv : RelV v u) (hd : RepD K H d v) :
    PX K H (putT kvs k d) (storedH xs kk b u) := by
  unfold putT storedH
  rcases h.val ek with ⟨e1, e2⟩ | ⟨d', p, v', e1, e2, _⟩
  · rw [e1, e2]
    exact Paired.snoc h ⟨ek, dk, hb, v, rv, hd⟩
  · rw [e1, e2]
    exact h.repl ek rv hd
theorem PX.via {K : PySem.W.Frag} (f : ∀ x v, RepD K H x v → RepD K H1 x v) {kvs : List (D × D)} {xs : List (NestedKey × Addr × Value)} (h : PX K H kvs xs) : PX K H1 kvs xs :=
  Paired.mapP h fun _ _ z => let ⟨h1, h2, h3, v, h4, h5⟩ := z; ⟨h1, h2, f _ _ h3, v, h4, f _ _ h5⟩
/-! ### rules -/
/-- {} -/
abbrev wDNew : PE1 := fun r S W => W (.r (.loc S.length)) (S ++ [.dct 0 []])
/-- k in d -/
abbrev pInD (neg : Bool) : P2 := fun x y S W => match x, y with
  | .r (.d (.tup ks)), .r (.loc n) => match S[n]? with
    | some (.dct _ kvs) => keyOk (.tup ks) = true ∧ W (.r (.d (.bl (if neg then !(getT kvs (.tup ks)).isSome else (getT kvs (.tup ks)).isSome)))) S
    | _ => False
  | _, _ => False
/-- d[k] -/
abbrev pIxD : P2 := fun x y S W => match x, y with
  | .r (.loc n), .r (.d (.tup ks)) => match S[n]? with
    | some (.dct _ kvs) => match getT kvs (.tup ks) with
      | some z => keyOk (.tup ks) = true ∧ W (.r (.d z)) S
      | none => False
    | _ => False
  | _, _ => False
/-- d[k] = v -/
abbrev wDPut (wo wi we : PE1) : PS1 := fun N r S => we r S fun x S1 => wo r S1 fun o S2 => wi r S2 fun k S3 => match o, k, x with
  | .r (.loc n), .r (.d (.tup ks)), .r (.d z) => match S3[n]? with
    | some (.dct _ kvs) => (keyOk (.tup ks) = true ∧ kvs.length < 16777216) ∧ ∀ ep, N.nx r (S3.set n (.dct ep (putT kvs (.tup ks) z)))
    | _ => False
  | _, _, _ => False
/-- len(d) -/
abbrev fLenD : PF := fun xs S W => match xs with
  | [.r (.loc n)] => match S[n]? with
    | some (.dct _ kvs) => W (.r (.d (.int kvs.length))) S
    | _ => False
  | _ => False
end
end Z
set_option Elab.async false
set_option linter.all false
set_option maxRecDepth 100000
/-! Z20: dicts of the store whose keys are ints and texts. -/
namespace Z
open PySem PySem.Spec PyProof.Rows L2
def keyK : D → Option Key
  | .int i => some (.inl i)
  | .str x => some (.inr x)
  | _ => none
def getK (kvs : List (Key × D)) (k : Key) : Option D := (kvs.find? fun p => decide (p.1 = k)).map (·.2)
def putD (kvs : List (Key × D)) (k : Key) (v : D) : List (Key × D) := if (kvs.any fun p => decide (p.1 = k)) = true then kvs.map (fun p => if p.1 = k then (p.1, v) else p) else kvs ++ [(k, v)]
abbrev PK (K : PySem.W.Frag) (H : Hp) : List (Key × D) → List (Key × V) → Prop := Paired (fun (p : Key × D) (q : Key × V) => q.1 = p.1 ∧ RepD K H p.2 q.2)
section
variable {K : PySem.W.Frag} {H H1 : Hp} {kvs : List (Key × D)} {ks : List (Key × V)} {k : Key} {d : D} {v : V}
theorem PK.val (h : PK K H kvs ks) (k : Key) : (getK kvs k = none ∧ valV ks k = none) ∨ ∃ d v, getK kvs k = some d ∧ valV ks k = some v ∧ RepD K H d v := by
  unfold PK at h
  induction h with
  | nil => exact .inl ⟨rfl, rfl⟩
  | @cons p q ps qs hd tl ih =>
    by_cases e : p.1 = k
    · refine .inr ⟨p.2, q.2, ?_, valV_pos (hd.1.trans e), hd.2⟩
      unfold getK; rw [List.find?_cons_of_pos (by simp [e])]; rfl
    · rw [valV_neg (by rw [hd.1]; exact e)]
      have e2 : getK (p :: ps) k = getK ps k := by unfold getK; rw [List.find?_cons_of_neg (by simp [e])]
      rw [e2]; exact ih
theorem PK.any (h : PK K H kvs ks) (k : Key) : (kvs.any fun p => decide (p.1 = k)) = ks.any fun p => decide (p.1 = k) := by
  unfold PK at h
  induction h with
  | nil => rfl
  | @cons p q ps qs hd tl ih => rw [List.any_cons, List.any_cons, ih, hd.1]
theorem PK.put (h : PK K H kvs ks) (k : Key) (hd : RepD K H d v) : PK K H (putD kvs k d) (putK ks k v) := by
  unfold putD putK
  rw [h.any k]
  split
  · rename_i e0
    clear e0
    unfold PK at h
    induction h with
    | nil => exact .nil
    | @cons p q ps qs hh tl ih =>
      rw [List.map_cons, List.map_cons]
      refine .cons ?_ ih
      by_cases e : p.1 = k
      · rw [if_pos e, if_pos (hh.1.trans e)]; exact ⟨hh.1, hd⟩
      · rw [if_neg e, if_neg (by rw [hh.1]; exact e)]; exact hh
  · exact Paired.snoc h ⟨rfl, hd⟩
theorem PK.via (f : ∀ x v, RepD K H x v → RepD K H1 x v) (h : PK K H kvs ks) : PK K H1 kvs ks := Paired.mapP h fun _ _ z => ⟨z.1, f _ _ z.2⟩
theorem PK.keys (h : PK K H kvs ks) : ks.map (fun p => kV p.1) = kvs.map (fun p => kV p.1) := by
  unfold PK at h
  induction h with
  | nil => rfl
  | @cons p q ps qs hd tl ih => rw [List.map_cons, List.map_cons, ih, hd.1]
theorem keyK_rep {x : D} (e : keyK x = some k) (h : RepD K H x v) : v = kV k := by
  cases x with
  | int i => simp only [keyK, Option.some.injEq] at e; subst e; exact h
  | str i => simp only [keyK, Option.some.injEq] at e; subst e; exact h
  | _ => cases e
end
section
variable {X : Cx}
/-- {} -/
abbrev wKNew : PE1 := fun r S W => W (.r (.loc S.length)) (S ++ [.dk []])
/-- {k: v} -/
abbrev wKNew1 (wk we : PE1) : PE1 := fun r S W => wk r S fun x S1 => we r S1 fun y S2 => match x, y with
  | .r (.d k), .r (.d z) => match keyK k with
    | some kk => W (.r (.loc S2.length)) (S2 ++ [.dk [(kk, z)]])
    | none => False
  | _, _ => False
/-- a dict of the store -/
theorem RepS.dk {K : PySem.W.Frag} {m : List Addr} {H : Hp} {S : Sto} {n : Nat} {kvs : List (Key × D)} {v : V} (r : RepS K m H S) (q : RepR K m H (.loc n) v) (e : S[n]? = some (.dk kvs)) : ∃ a ks, v = .ref a ∧ m[n]? = some a ∧ H a = some (.dK ks) ∧ PK K H kvs ks := by
  obtain ⟨a, h1, rfl⟩ := q
  obtain ⟨a', h2, ks, h3, h4⟩ := r.at_ n _ e
  rw [h1] at h2; cases h2
  exact ⟨a, ks, rfl, h1, h3, h4⟩
/-- k in d -/
abbrev pInK (neg : Bool) : P2 := fun x y S W => match x, y with
  | .r (.d k), .r (.loc n) => match S[n]?, keyK k with
    | some (.dk kvs), some kk => W (.r (.d (.bl (if neg then !(getK kvs kk).isSome else (getK kvs kk).isSome)))) S
    | _, _ => False
  | _, _ => False
/-- d[k] -/
abbrev pIxK : P2 := fun x y S W => match x, y with
  | .r (.loc n), .r (.d k) => match S[n]?, keyK k with
    | some (.dk kvs), some kk => match getK kvs kk with
      | some z => W (.r (.d z)) S
      | none => False
    | _, _ => False
  | _, _ => False
/-- d[k] = v -/
abbrev wKPut (wo wi we : PE1) : PS1 := fun N r S => we r S fun x S1 => wo r S1 fun o S2 => wi r S2 fun k S3 => match o, k, x with
  | .r (.loc n), .r (.d k), .r (.d z) => match S3[n]?, keyK k with
    | some (.dk kvs), some kk => kvs.length < 16777216 ∧ N.nx r (S3.set n (.dk (putD kvs kk z)))
    | _, _ => False
  | _, _, _ => False
/-- len(d) -/
abbrev fLenK : PF := fun xs S W => match xs with
  | [.r (.loc n)] => match S[n]? with
    | some (.dk kvs) => W (.r (.d (.int kvs.length))) S
    | _ => False
  | _ => False
/-- list(d) -/
def keyD : Key → D
  | .inl i => .int i
  | .inr x => .str x
abbrev fListK : PF := fun xs S W => match xs with
  | [.r (.loc n)] => match S[n]? with
    | some (.dk kvs) => W (.f (kvs.map fun p => keyD p.1)) S
    | _ => False
  | _ => False
end
end Z
set_option Elab.async false
set_option linter.all false
set_option maxRecDepth 100000
/-! Z21: tuples that hold lists of the store. -/
namespace Z
open PySem PySem.Spec PyProof.Rows L2
/-! ### a comprehension within a comprehension -/
section
variable {X : Cx} {e a b : Expr} {es : List Expr} {pos : Pos} {we wa wb : PE1} {was : PA1}
/-- a new list is given its number right here -/
abbrev wNum (w : PE1) : PE1 := fun r S W => w r S fun x S1 => match x with
  | .f xs => W (.r (.loc S1.length)) (S1 ++ [.lst xs])
  | .r y => W (.r y) S1
/-- a tuple of values -/
abbrev wTupR (ws : PA1) : PE1 := fun r S W => ws r S fun xs S1 => match rsOf xs with
  | some rs => rs.length ≤ 16777216 ∧ W (.r (.tr rs)) S1
  | none => False
theorem we_tupR {x1} (h : WA X es was) : WE X (.Tuple es x1 pos) (wTupR was) :=
  ⟨peImp (pe_tup h.pa) fun s H Q ⟨m, r, S, W, hE, hS, hw, hf⟩ => ⟨m, r, S, _, hE, hS, hw, fun xs S1 vs m1 H1 h1 g1 r1 q1 => by
    split at h1
    · rename_i rs e
      have q := rsOf_ok q1 e
      refine ⟨by rw [q.len, sizeLine_eq]; exact h1.1, fun p hp => ?_⟩
      exact (hf.later g1 r1) _ S1 _ m1 _ h1.2 (Grow.alloc hp) (r1.alloc hp) ⟨p, vs, rfl, .inl (.inl upd_same), RepRs.grow (m1 := m1) (Grow.alloc hp) rs vs q⟩
    · exact h1.elim⟩⟩
def getR (xs : List R) (k : Int) : Option R := if 0 ≤ k then xs[k.toNat]? else none
theorem getR_0 {a : R} {xs : List R} : getR (a :: xs) 0 = some a := rfl
theorem getR_1 {a b : R} {xs : List R} : getR (a :: b :: xs) 1 = some b := rfl
theorem getR_2 {a b c : R} {xs : List R} : getR (a :: b :: c :: xs) 2 = some c := rfl
/-- an item of a tuple of values -/
abbrev pIxT : P2 := fun x y S W => match x, y with
  | .r (.tr xs), .r (.d (.int k)) => match getR xs k with
    | some z => W (.r z) S
    | none => False
  | _, _ => False
theorem we_ixT (ha : WE X a wa) (hb : WE X b wb) (hs : PlainIx b) : WE X (.Subscript a b pos) (wBin pIxT wa wb) := by
  refine ⟨peImp (pe_ix ix_tup ha.pe hb.pe hs) fun s H Q ⟨m, ρ, S, W, hE, hS, hw, hf⟩ => up2 hE hS hw fun x y S2 v u m2 H2 z g2 r2 qx qy => ?_⟩
  unfold pIxT at z
  split at z
  · rename_i xs k
    split at z
    · rename_i d e2
      obtain ⟨p, vs, rfl, h1, h2⟩ := qx
      unfold getR at e2
      split at e2
      · rename_i h0
        obtain ⟨w, h3, h4⟩ := RepRs.get h2 e2
        refine ⟨p, vs, k, w, rfl, qy, h1, ?_, (hf.later g2 r2).here r2 (x := .r d) h4 z⟩
        unfold L2.atI ixN
        have : k.toNat < vs.length := (List.getElem?_eq_some_iff.mp h3).1
        rw [if_pos h0, if_pos (by omega)]
        exact h3
      · cases e2
    · exact z.elim
  · exact z.elim
abbrev fLenT : PF := fun xs S W => match xs with
  | [.r (.tr xs)] => W (.r (.d (.int xs.length))) S
  | _ => False
end
end Z
set_option Elab.async false
set_option linter.all false
set_option maxRecDepth 100000
/-! Z22: enumerate; a written dict of one tuple; sorted(d), list(d.values()) of dicts whose keys are tuples. -/
namespace Z
open PySem PySem.Spec PyProof.Rows L2 RZ
section
variable {X : Cx} {e a b : Expr} {es : List Expr} {pos : Pos} {we wa wb : PE1} {was ws : PA1}
/-! ### enumerate -/
def enR (k : Nat) : List R → List R
  | [] => []
  | .d x :: xs => .d (.tup [.int (k : Nat), x]) :: enR (k + 1) xs
  | x :: xs => x :: enR (k + 1) xs
abbrev wEnum (ws : PA1) : PI1 := fun r S W => ws r S fun xs S1 => match xs with
  | [x] => match itOf S1 x with
    | some it => (isLst x = true ∧ allD it.items = true) ∧ W ⟨enR 0 it.items, it.chk⟩ S1
    | none => False
  | _ => False
/-! ### {k: v}, k a tuple -/
abbrev wDNew1 (wk we : PE1) : PE1 := fun r S W => wk r S fun x S1 => we r S1 fun y S2 => match x, y with
  | .r (.d (.tup ks)), .r (.d z) => keyOk (.tup ks) = true ∧ ∀ ep, W (.r (.loc S2.length)) (S2 ++ [.dct ep [(.tup ks, z)]])
  | _, _ => False
/-! ### what a dict holds, as a new list -/
abbrev fSortX : PF := fun xs S W => match xs with
  | [.r (.loc n)] => match S[n]? with
    | some (.dct _ kvs) => (PySem.W.AllAlike ((kvs.map (·.1)).map py) ∧ PySem.W.Sortable ((kvs.map (·.1)).map py) ∧ ∀ d ∈ kvs.map (·.1), (py d).depth ≤ 50) ∧ W (.f (srtD (kvs.map (·.1)))) S
    | _ => False
  | _ => False
abbrev wVals (wo : PE1) : PE1 := fun r S W => wo r S fun x S1 => match x with
  | .r (.loc n) => match S1[n]? with
    | some (.dct _ kvs) => W (.f (kvs.map (·.2))) S1
    | _ => False
  | _ => False
end
end Z
set_option Elab.async false
set_option linter.all false
set_option maxRecDepth 100000
/-! Z23: list.clear, list.count. -/
namespace Z
open PySem PySem.Spec PyProof.Rows L2 RZ
section
variable {X : Cx} {e : Expr} {pos : Pos} {we : PE1}
/-- xs.clear() -/
abbrev wClr (wo : PE1) : PE1 := fun r S W => wo r S fun x S1 => match x with
  | .r (.loc n) => isLo S1 n = true ∧ W (.r (.d .non)) (S1.set n (.lst []))
  | _ => False
/-- xs.count(k), whole numbers -/
abbrev wCntL (wo we : PE1) : PE1 := fun r S W => wo r S fun x S1 => match isLst x, seqOf S1 x with
  | true, some _ => we r S1 fun y S2 => match y with
    | .r (.d (.int k)) => match seqOf S2 x with
      | some xs => match intsOf xs with
        | some ns => W (.r (.d (.int (ns.count k : Nat)))) S2
        | none => False
      | none => False
    | _ => False
  | _, _ => False
end
end Z
set_option Elab.async false
set_option linter.all false
set_option maxRecDepth 100000
/-! Z24: for k in d (keys are tuples), d.get(k, c), sorted(d.items()) (keys are whole numbers or texts). -/
namespace Z
open PySem PySem.Spec PyProof.Rows L2 RZ
/-! ### for k in d -/
section
variable {X : Cx} {tg e : Expr} {pos : Pos} {we : PE1}
abbrev wItX (w : PE1) : PI1 := fun r S W => w r S fun x S1 => match x with
  | .r (.loc n) => match S1[n]? with
    | some (.dct ep kvs) => W ⟨kvs.map (fun p => R.d p.1), fun S => S[n]? = some (.dct ep kvs)⟩ S1
    | _ => False
  | _ => False
/-! ### d.get(k, c) -/
abbrev wGetK (wo wk wc : PE1) : PE1 := fun r S W => wo r S fun x S1 => match x with
  | .r (.loc n) => match S1[n]? with
    | some (.dk _) => wk r S1 fun y S2 => wc r S2 fun z S3 => match y, z with
      | .r (.d k), .r (.d c) => match S3[n]?, keyK k with
        | some (.dk kvs), some kk => W (.r (.d ((getK kvs kk).getD c))) S3
        | _, _ => False
      | _, _ => False
    | _ => False
  | _ => False
/-! ### sorted(d.items()) -/
abbrev pairsD (kvs : List (Key × D)) : List D := kvs.map fun p => .tup [keyD p.1, p.2]
abbrev wItemsS (wo : PE1) : PE1 := fun r S W => wo r S fun x S1 => match x with
  | .r (.loc n) => match S1[n]? with
    | some (.dk kvs) => (PySem.W.AllAlike ((pairsD kvs).map py) ∧ PySem.W.Sortable ((pairsD kvs).map py) ∧ ∀ d ∈ pairsD kvs, (py d).depth ≤ 50) ∧ W (.f (srtD (pairsD kvs))) S1
    | _ => False
  | _ => False
end
end Z
set_option Elab.async false
set_option linter.all false
set_option maxRecDepth 100000
set_option maxHeartbeats 1000000
/-! Z25: zip of a tuple and a list. -/
namespace Z
open PySem PySem.Spec PyProof.Rows L2 RZ
section
variable {X : Cx} {e e2 : Expr} {ws : PA1} {pos : Pos}
/-! ### zip of two lists, of two tuples, of a tuple and a list -/
abbrev wZipX (ws : PA1) : PI1 := fun r S W => ws r S fun xs S1 => match xs with
  | [x, y] => match itOf S1 x, itOf S1 y with
    | some i, some j => ((isLst x = true → isLst y = true) ∧ allD i.items = true ∧ allD j.items = true) ∧ W ⟨prs i.items j.items, fun S => i.chk S ∧ j.chk S⟩ S1
    | _, _ => False
  | _ => False
end
end Z
set_option Elab.async false
set_option linter.all false
set_option maxRecDepth 100000
/-! Z26: all(xs), any(xs) of a list of truths. -/
set_option Elab.async false
set_option linter.all false
set_option maxRecDepth 100000
/-! Z27: defs over the whole store, that may raise: statements, expressions, calls, try .. except T as n: k = n; isinstance of what was kept. -/
namespace Z
open PySem PySem.Spec PyProof.Rows L2 RZ
/-- what stands behind a statement that may raise -/
structure EX where
  n : En
  ex : Str → Rho → Sto → Prop
abbrev PX1 := EX → Rho → Sto → Prop
abbrev veMro : List Value := [.type "ValueError", .type "Exception", .type "BaseException", .type "object"]
def ClsN (K : PySem.W.Frag) (x : Str) (C : Addr) : Prop := PySem.W.nsIn K mainGlobals x = some (some (.ref C))
theorem ClsN.uniq {K : PySem.W.Frag} {x : Str} {C D : Addr} (h : ClsN K x C) (k : ClsN K x D) : C = D := by
  unfold ClsN at h k
  rw [h] at k
  cases k; rfl
/-- an own class of exceptions -/
structure ClsX (K : PySem.W.Frag) (mg : Str → Option Value) (x : Str) : Prop where
  ex : ∃ C, ClsN K x C ∧ mg x = some (.ref C) ∧ PySem.W.keepIn K (.ref C) = true ∧ PySem.W.excIn K C veMro "ValueError.__new__" = true ∧ PySem.W.subIn K (.ref C) (.type "BaseException") = some true ∧ PySem.W.typeIn K (.ref C) = some (.type "type") ∧ ExcC K C
/-- the table of what is a what -/
def subX (x c : Str) : Bool := x == c || c == "TurnError" || c == "ValueError"
/-- the clause of the class c takes all known -/
structure XC (K : PySem.W.Frag) (mg : Str → Option Value) (known : List Str) (c : Str) : Prop where
  ex : ∃ D, mg c = some (.ref D) ∧ ∀ x ∈ known, ∃ C, ClsN K x C ∧ PySem.W.exmOne K (.ref C) (.ref D) = some true
theorem exm_own {K : PySem.W.Frag} {A C : Addr} {b : Bool} (h1 : PySem.W.subIn K (.ref C) (.type "BaseException") = some true) (p : PySem.W.isClsIn K C = true) (t : PySem.W.typeIn K (.ref C) = some (.type "type")) (s : PySem.W.subIn K (.ref A) (.ref C) = some b) :
    PySem.W.exmOne K (.ref A) (.ref C) = some b := by
  have e1 : (PySem.W.subIn K (.ref C) (.type "BaseException") == some true) = true := by rw [h1] <;> rfl
  have e2 : ((PySem.W.clsIn K C).isSome && PySem.W.typeIn K (.ref C) == some (.type "type")) = true := by
    have h2' : (PySem.W.clsIn K C).isSome = true := p
    rw [h2', t] <;> rfl
  show (if (PySem.W.subIn K (.ref C) (.type "BaseException") == some true) = true then (if ((PySem.W.clsIn K C).isSome && PySem.W.typeIn K (.ref C) == some (.type "type")) = true then PySem.W.subIn K (.ref A) (.ref C) else none) else none) = some b
  rw [if_pos e1, if_pos e2]
  exact s
section
variable {K : PySem.W.Frag}
def FinX (K : PySem.W.Frag) (m : List Addr) (H : Hp) (ex : Str → Rho → Sto → Prop) (Wx : WX) : Prop :=
  ∀ x C r' S' m' H' s', ex x r' S' → ClsN K x C → Grow m H m' H' → RepE K m' H' r' s' → RepS K m' H' S' → Wx (.ref C) none s' H'
theorem FinX.later {m m1 : List Addr} {H H1 : Hp} {ex : Str → Rho → Sto → Prop} {Wx : WX} (f : FinX K m H ex Wx) (g : Grow m H m1 H1) : FinX K m1 H1 ex Wx :=
  fun x C r' S' m' H' s' h c g' e q => f x C r' S' m' H' s' h c (g.trans g') e q
def upX (K : PySem.W.Frag) (Wx : WX) (w : PX1) : TS := fun D s H => ∃ m r S N, RepE K m H r s ∧ RepS K m H S ∧ w N r S ∧ Fins K m H N.n D ∧ FinX K m H N.ex Wx
structure WX1 (X : Cx) (Wx : WX) (st : Stmt) (w : PX1) : Prop where
  ps : PS X st (upX X.K Wx w)
structure WXs (X : Cx) (Wx : WX) (sts : List Stmt) (w : PX1) : Prop where
  pss : PSs X sts (upX X.K Wx w)
/-- an expression that may raise -/
abbrev PXK := Str → Sto → Prop
abbrev PEX := Rho → Sto → PK1 → PXK → Prop
def FinE (K : PySem.W.Frag) (m : List Addr) (H : Hp) (XW : PXK) (Wx : WX) (s : L2.St) : Prop :=
  ∀ x C S' m' H', XW x S' → ClsN K x C → Grow m H m' H' → RepS K m' H' S' → Wx (.ref C) none s H'
theorem FinE.later {m m1 : List Addr} {H H1 : Hp} {XW : PXK} {Wx : WX} {s : L2.St} (f : FinE K m H XW Wx s) (g : Grow m H m1 H1) : FinE K m1 H1 XW Wx s :=
  fun x C S' m' H' h c g' r => f x C S' m' H' h c (g.trans g') r
def upEX (K : PySem.W.Frag) (Wx : WX) (w : PEX) : TE := fun s H Q => ∃ m r S W XW, RepE K m H r s ∧ RepS K m H S ∧ w r S W XW ∧ Fin K m H W Q ∧ FinE K m H XW Wx s
structure WEX (X : Cx) (Wx : WX) (e : Expr) (w : PEX) : Prop where
  pe : PE X e (upEX X.K Wx w)
/-- a row of expressions that may raise -/
abbrev PAX := Rho → Sto → (List SV → Sto → Prop) → PXK → Prop
end
section
variable {X : Cx} {Wx : WX} {st : Stmt} {rest : List Stmt} {e : Expr} {es : List Expr} {pos : Pos}
/-! ### statements -/
abbrev xL (w : PS1) : PX1 := fun N r S => w N.n r S
theorem xs_l {w : PS1} (h : WS X st w) : WX1 X Wx st (xL w) := ⟨psImp h.ps fun D s H ⟨m, r, S, N, hE, hS, hw, hf, _⟩ => ⟨m, r, S, N.n, hE, hS, hw, hf⟩⟩
abbrev xNext : PX1 := fun N r S => N.n.nx r S
theorem xs_nil : WXs X Wx [] xNext := ⟨pssImp pss_nil fun D s H ⟨m, r, S, N, hE, hS, hw, hf, _⟩ => hf.nx r S s m H hw Grow.refl hE hS⟩
abbrev xSeq (t u : PX1) : PX1 := fun N r S => t { N with n := { N.n with nx := u N } } r S
theorem xs_cons {t u : PX1} (h1 : WX1 X Wx st t) (h2 : WXs X Wx rest u) : WXs X Wx (st :: rest) (xSeq t u) :=
  ⟨pssImp (pss_cons h1.ps h2.pss) fun D s H ⟨m, r, S, N, hE, hS, hw, hf, hx⟩ => ⟨m, r, S, _, hE, hS, hw, ⟨fun r' S' s' m' H' n g e q => ⟨m', r', S', N, e, q, n, hf.later g, hx.later g⟩, hf.rt, hf.bk, hf.ct⟩, hx⟩⟩
theorem xs_one {t : PX1} (h1 : WX1 X Wx st t) : WXs X Wx [st] t := ⟨pss_one h1.ps⟩
abbrev xIf (c : PT1) (t u : PX1) : PX1 := fun N r S => c r S fun b S1 => if b = true then t N r S1 else u N r S1
theorem xs_if {c : Expr} {tc : PT1} {t u : PX1} {p q : List Stmt} (hc : WT X c tc) (ha : WXs X Wx p t) (hb : WXs X Wx q u) : WX1 X Wx (.If c p q pos) (xIf tc t u) := ⟨psImp (ps_if hc.pt ha.pss hb.pss) fun D s H ⟨m, r, S, N, hE, hS, hw, hf, hx⟩ => ⟨m, r, S, _, hE, hS, hw, fun b S1 m1 H1 h1 g1 r1 => by
  cases b with
  | true => exact ⟨m1, r, S1, N, hE.grow g1, r1, h1, hf.later g1, hx.later g1⟩
  | false => exact ⟨m1, r, S1, N, hE.grow g1, r1, h1, hf.later g1, hx.later g1⟩⟩⟩
/-- raise X("..") -/
abbrev xRaise (x : Str) : PX1 := fun N r S => N.ex x r S
theorem xs_raise {x m : Str} {j : Nat} {p p2 p3 : Pos} (hc : X.calm = true) (tk : Takes X Wx) (c : ClsX X.K X.mg x) (hg : Gl X x) (hdb : (x == ("__debug__" : Str)) = false := by decide) :
    WX1 X Wx (.Raise (some (.Call (.Name x p) [.Constant (.str m) j p2] [] p3)) none pos) (xRaise x) := by
  obtain ⟨C, cN, gC, kC, xC, bC, tC, eC⟩ := c.ex
  exact ⟨psImp (ps_raise hc tk (pmk_own PySem.F.excBase_ValueError xC gC kC (raises_own bC tC) hg hdb)) fun D s H ⟨m, r, S, N, hE, hS, hw, hf, hx⟩ => hx x C r S m H s hw cN Grow.refl hE hS⟩
/-- f(..) as a statement -/
abbrev xDrop (w : PEX) : PX1 := fun N r S => w r S (fun _ S1 => N.n.nx r S1) (fun x S1 => N.ex x r S1)
theorem xs_drop {w : PEX} (h : WEX X Wx e w) (hs : swapsWith e none pos.line X.env = pure false := by rfl) : WX1 X Wx (.Expr e pos) (xDrop w) := ⟨psImp (ps_expr h.pe hs) fun D s H ⟨m, r, S, N, hE, hS, hw, hf, hx⟩ =>
  ⟨m, r, S, _, _, hE, hS, hw, fun x S1 v m1 H1 h1 g1 r1 q1 => hf.nx r S1 s m1 H1 h1 g1 (hE.grow g1) r1, fun x C S1 m1 H1 h1 c g1 r1 => hx x C r S1 m1 H1 s h1 c g1 (hE.grow g1) r1⟩⟩
/-- y = f(..) -/
abbrev xSet (i : Nat) (w : PEX) : PX1 := fun N r S => w r S (fun x S1 => bindV x S1 fun y S2 => N.n.nx (r.set i (some y)) S2) (fun x S1 => N.ex x r S1)
/-- return f(..) -/
abbrev xRet (w : PEX) : PX1 := fun N r S => w r S (fun x S1 => bindV x S1 N.n.rt) (fun x S1 => N.ex x r S1)
/-! ### expressions -/
/-- an expression that can't raise -/
abbrev xE (w : PE1) : PEX := fun r S W _ => w r S W
abbrev xaL (w : PA1) : PAX := fun r S W _ => w r S W
abbrev xaCons (wa : PEX) (ws : PAX) : PAX := fun r S W XW => wa r S (fun x S1 => ws r S1 (fun xs S2 => W (x :: xs) S2) XW) XW
/-- a tuple, of things some of which may raise -/
abbrev xTup (ws : PAX) : PEX := fun r S W XW => ws r S (fun xs S1 => match dataOf xs with
  | some ds => ds.length ≤ 16777216 ∧ W (.r (.d (.tup ds))) S1
  | none => False) XW
/-! ### defs over the whole store -/
abbrev SpW := List R → Sto → (R → Sto → Prop) → PXK → Prop
def liftW (K : PySem.W.Frag) (n : Nat) (sp : SpW) : Sp := fun vs H Q E => ∃ m rs S W XW, rs.length = n ∧ RepRs K m H rs vs ∧ RepS K m H S ∧ sp rs S W XW ∧ (∀ x S' v m' H', W x S' → Grow m H m' H' → RepS K m' H' S' → RepR K m' H' x v → Q v H') ∧
  ∀ x C S' m' H', XW x S' → ClsN K x C → Grow m H m' H' → RepS K m' H' S' → E (.ref C) none H'
structure FnW (P : Program) (w : World) (K : PySem.W.Frag) (mg : Str → Option Value) (base : Heap) (k : Nat) (x : Str) (n : Nat) (sp : SpW) : Prop where
  ok : ∃ f fd ps, ps.length = n ∧ mg x = some (.ref f) ∧ PySem.W.keepIn K (.ref f) = true ∧ Binds K fd ps [] ∧ FnOk P w K mg base (L2.CX P w) k f fd ps (liftW K n sp)
theorem FnW.mono {P : Program} {w : World} {K : PySem.W.Frag} {mg : Str → Option Value} {base : Heap} {j k : Nat} {x : Str} {n : Nat} {sp : SpW} (F : FnW P w K mg base j x n sp) (h : j ≤ k) : FnW P w K mg base k x n sp := by
  obtain ⟨f, fd, ps, h1, h2, h3, h4, h5⟩ := F.ok
  exact ⟨f, fd, ps, h1, h2, h3, h4, h5.mono h⟩
abbrev wxCall (sp : SpW) (n : Nat) (ws : PA1) : PEX := fun r S W XW => ws r S fun xs S1 => bindVs xs S1 fun rs S2 => rs.length = n ∧ sp rs S2 (fun x T => W (.r x) T) XW
theorem liftW_ok {K : PySem.W.Frag} {n : Nat} {sp : SpW} {m0 m : List Addr} {H0 H : Hp} {S : Sto} {rs : List R} {vs : List V} {W : PK1} {XW : PXK} {Q : VK} {Wx : WX} {s : L2.St} (g : Grow m0 H0 m H) (r : RepS K m H S) (q : RepRs K m H rs vs)
    (w : rs.length = n ∧ sp rs S (fun x T => W (.r x) T) XW) (f : Fin K m0 H0 W Q) (fx : FinE K m0 H0 XW Wx s) : liftW K n sp vs H Q (L2.WE Wx s) :=
  ⟨m, rs, S, _, XW, w.1, q, r, w.2, fun x S' v m' H' h g' r' q' => f _ S' v m' H' h (g.trans g') r' q', fun x C S' m' H' h c g' r' => fx x C S' m' H' h c (g.trans g') r'⟩
theorem wex_call {k n : Nat} {x : Str} {p : Pos} {sp : SpW} {was : PA1} (F : FnW X.prog X.w X.K X.mg X.base k x n sp) (hr : Room k X.A) (tk : Takes X Wx) (hg : Gl X x) (ha : WA X (e :: es) was) (hdb : (x == ("__debug__" : Str)) = false := by decide)
    (he : starEach (e :: es) X.env = (false, eval e X.env) :: starEach es X.env := by rfl) (hpl : (backTo pos (starEach es X.env)).any (·.1) = false := by rfl) : WEX X Wx (.Call (.Name x p) (e :: es) [] pos) (wxCall sp n was) := by
  obtain ⟨f, fd, ps, h1, h2, h3, h4, h5⟩ := F.ok
  have hp := pe_callS (E := L2.WE Wx) (p := p) h5 hr hg h2 h3 h4 (fun σ => passAt tk σ) ha.pa hdb he hpl
  refine ⟨⟨fun pins s z H Q I ⟨m, r, S, W, XW, hE, hS, hw, hf, hx⟩ => hp.run pins s z H Q I ⟨m, r, S, _, hE, hS, hw, fun xs S1 vs m1 H1 k1 g1 r1 q1 => ?_⟩⟩⟩
  obtain ⟨rs, S2, m2, w2, g2, r2, q2, _⟩ := bindVs_ok g1 r1 q1 k1
  exact liftW_ok g2 r2 q2 w2 hf hx
/-- .. called where it raises nothing -/
abbrev wwCall (sp : SpW) (n : Nat) (ws : PA1) : PE1 := fun r S W => ws r S fun xs S1 => bindVs xs S1 fun rs S2 => rs.length = n ∧ sp rs S2 (fun x T => W (.r x) T) (fun _ _ => False)
theorem we_wcall {k n : Nat} {x : Str} {p : Pos} {sp : SpW} {was : PA1} (F : FnW X.prog X.w X.K X.mg X.base k x n sp) (hr : Room k X.A) (hg : Gl X x) (ha : WA X (e :: es) was) (hdb : (x == ("__debug__" : Str)) = false := by decide)
    (he : starEach (e :: es) X.env = (false, eval e X.env) :: starEach es X.env := by rfl) (hpl : (backTo pos (starEach es X.env)).any (·.1) = false := by rfl) : WE X (.Call (.Name x p) (e :: es) [] pos) (wwCall sp n was) :=
  ⟨peImp (wex_call (Wx := fun _ _ _ _ => False) F hr takes0 hg ha hdb he hpl).pe fun s H Q ⟨m, r, S, W, hE, hS, hw, hf⟩ => ⟨m, r, S, W, fun _ _ => False, hE, hS, hw, hf, fun _ _ _ _ _ h => h.elim⟩⟩
end
section
variable {P : Program} {w : World} {K : PySem.W.Frag} {mg : Str → Option Value} {base : Heap}
theorem fnw_ok {x : Str} {st : Stmt} {f : Addr} {fd : FuncData} {N ps : List Str} {k : Nat} {wb : PX1} {sp : SpW} (F : Fun K x x st f fd) (sc : FnScope N ps (defScope st))
    (hbody : ∀ (cdv : Value) (A : Around) (outer : List Env) (s : Shared) (H : Hp) (E : XK), Room k (A.deeper (envOfC x (defScope st) s.heap.objs.size f cdv)) →
      Takes (cxOf (L2.CX P w) P w K mg base N x (defScope st) f cdv A outer s H E) (fun cls d _ H => E cls d H) →
      PassesOwn (model P w) (A.deeper (envOfC x (defScope st) s.heap.objs.size f cdv)) (envOfC x (defScope st) s.heap.objs.size f cdv) (cxOf (L2.CX P w) P w K mg base N x (defScope st) f cdv A outer s H E).xe →
      WXs (cxOf (L2.CX P w) P w K mg base N x (defScope st) f cdv A outer s H E) (fun cls d _ H => E cls d H) (defBody st) wb)
    (hread : ∀ rs S W XW, rs.length = ps.length → sp rs S W XW → wb { n := { nx := fun _ S1 => W (.d .non) S1, rt := W }, ex := fun x _ S1 => XW x S1 } (start1 N.length rs) S) : FnOk P w K mg base (L2.CX P w) (k + 1) f fd ps (liftW K ps.length sp) := by
  refine F.okX sc (fun vs H Q E ⟨m, rs, S, W, XW, hl, q, _⟩ => (RepRs.len q).trans hl) fun cdv A outer s H vs Q E hr ⟨m, rs, S, W, XW, hl, q, hS, hsp, hf, hxx⟩ => ⟨_, (hbody cdv A outer s H E hr (takes_of rfl rfl rfl rfl) PassesOwn.leaving).pss, ?_⟩
  refine ⟨m, start1 N.length rs, S, _, ?_, hS, hread rs S W XW hl hsp, ⟨fun r' S' s' m' H' n g e q' => hf _ S' .non m' H' n g q' rfl, fun y S' v m' H' n g q' w' => hf y S' v m' H' n g q' w', fun _ _ _ _ _ n => n.elim, fun _ _ _ _ _ n => n.elim⟩, fun x C r' S' m' H' s' h c g e q' => hxx x C S' m' H' h c g q'⟩
  refine ⟨?_, fun i y e => ?_⟩
  · unfold L2.start Z.start1
    simp [RepRs.len q]
  · unfold start1 at e
    by_cases hi : i < rs.length
    · rw [List.getElem?_append_left (by simpa using hi), List.getElem?_map, Option.map_eq_some_iff] at e
      obtain ⟨z, e1, e2⟩ := e
      cases e2
      obtain ⟨v, h1, h2⟩ := RepRs.get q e1
      refine ⟨v, ?_, h2⟩
      unfold L2.start
      rw [List.getElem?_append_left (by rw [List.length_map, RepRs.len q]; exact hi), List.getElem?_map, h1]
      rfl
    · rw [List.getElem?_append_right (by simpa using hi)] at e
      rw [List.getElem?_replicate] at e
      split at e <;> cases e
theorem DefAt.fnw {x : Str} {st : Stmt} {N ps : List Str} {k : Nat} {wb : PX1} {sp : SpW} (d : DefAt K mg x st ps) (sc : FnScope N ps (defScope st))
    (hbody : ∀ (f : Addr) (cdv : Value) (A : Around) (outer : List Env) (s : Shared) (H : Hp) (E : XK), Room k (A.deeper (envOfC x (defScope st) s.heap.objs.size f cdv)) →
      Takes (cxOf (L2.CX P w) P w K mg base N x (defScope st) f cdv A outer s H E) (fun cls d _ H => E cls d H) →
      PassesOwn (model P w) (A.deeper (envOfC x (defScope st) s.heap.objs.size f cdv)) (envOfC x (defScope st) s.heap.objs.size f cdv) (cxOf (L2.CX P w) P w K mg base N x (defScope st) f cdv A outer s H E).xe →
      WXs (cxOf (L2.CX P w) P w K mg base N x (defScope st) f cdv A outer s H E) (fun cls d _ H => E cls d H) (defBody st) wb)
    (hread : ∀ rs S W XW, rs.length = ps.length → sp rs S W XW → wb { n := { nx := fun _ S1 => W (.d .non) S1, rt := W }, ex := fun x _ S1 => XW x S1 } (start1 N.length rs) S) : FnW P w K mg base (k + 1) x ps.length sp := by
  obtain ⟨f, fd, F, hm, hb⟩ := d.ex
  exact ⟨f, fd, ps, rfl, hm, F.kp, hb, fnw_ok F sc (hbody f) hread⟩
end
theorem take_ok {K : PySem.W.Frag} {m m' : List Addr} {H H' : Hp} {S' : Sto} {k : Nat} (hk : m.length = k) (g : Grow m H m' H') (r : RepS K m' H' S') : ∃ m2, Grow m H m2 H' ∧ RepS K m2 H' (S'.take k) := by
  obtain ⟨y, T, m2, h1, h2, h3, _⟩ := retN_ok (K := K) (x := .d .non) (v := .non) (W := fun _ T => T = S'.take k) hk g r rfl rfl
  subst h1
  exact ⟨m2, h2, h3⟩
section
variable {P : Program} {w : World} {K : PySem.W.Frag} {mg : Str → Option Value} {base : Heap}
/-- .. that drops what is new in the store at its ends -/
theorem DefAt.fnwC {x : Str} {st : Stmt} {N ps : List Str} {k : Nat} {wb : PX1} {sp : SpW} (d : DefAt K mg x st ps) (sc : FnScope N ps (defScope st))
    (hbody : ∀ (f : Addr) (cdv : Value) (A : Around) (outer : List Env) (s : Shared) (H : Hp) (E : XK), Room k (A.deeper (envOfC x (defScope st) s.heap.objs.size f cdv)) →
      Takes (cxOf (L2.CX P w) P w K mg base N x (defScope st) f cdv A outer s H E) (fun cls d _ H => E cls d H) →
      PassesOwn (model P w) (A.deeper (envOfC x (defScope st) s.heap.objs.size f cdv)) (envOfC x (defScope st) s.heap.objs.size f cdv) (cxOf (L2.CX P w) P w K mg base N x (defScope st) f cdv A outer s H E).xe →
      WXs (cxOf (L2.CX P w) P w K mg base N x (defScope st) f cdv A outer s H E) (fun cls d _ H => E cls d H) (defBody st) wb)
    (hread : ∀ rs S W XW, rs.length = ps.length → sp rs S W XW → wb { n := { nx := fun _ S1 => retN S.length W (.d .non) S1, rt := retN S.length W }, ex := fun x _ S1 => XW x (S1.take S.length) } (start1 N.length rs) S) : FnW P w K mg base (k + 1) x ps.length sp := by
  obtain ⟨f, fd, F, hm, hb⟩ := d.ex
  refine ⟨f, fd, ps, rfl, hm, F.kp, hb, ?_⟩
  have G := fnw_ok (wb := wb) (sp := fun rs S W' XW' => ∃ W XW, sp rs S W XW ∧ W' = retN S.length W ∧ XW' = fun x S1 => XW x (S1.take S.length)) F sc (hbody f) fun rs S W' XW' hl ⟨W, XW, h, h1, h2⟩ => by
    subst h1 h2
    exact hread rs S W XW hl h
  refine G.imp fun vs H Q E ⟨m, rs, S, W, XW, hl, q, r, h, hf, hx⟩ => ⟨m, rs, S, _, _, hl, q, r, ⟨W, XW, h, rfl, rfl⟩, fun x S' v m' H' w' g' r' q' => ?_, fun x C S' m' H' w' c g' r' => ?_⟩
  · obtain ⟨y, T, m2, a, b, c, d⟩ := retN_ok r.len g' r' q' w'
    exact hf y T v m2 H' a b c d
  · obtain ⟨m2, a, b⟩ := take_ok r.len g' r'
    exact hx x C _ m2 H' w' c a b
end
theorem xseqI {t u : PX1} {N : EX} {r : Rho} {S : Sto} (h : ∀ P : Rho → Sto → Prop, (∀ r S, u N r S → P r S) → t { N with n := { N.n with nx := P } } r S) : xSeq t u N r S := h (u N) fun _ _ h => h
section
variable {X : Cx} {Wx : WX} {st : Stmt} {rest : List Stmt} {e : Expr} {es : List Expr} {pos : Pos}
/-! ### try: body, except T as n: k = n -/
/-- i the clause's name, k what it is kept in; what the body may raise -/
abbrev wTryK (known : List Str) (i k : Nat) (body : PX1) : PS1 := fun N r S => body { n := N, ex := fun x r' S' => (x ∈ known ∧ i < r'.length ∧ k < r'.length ∧ i ≠ k) ∧ N.nx ((r'.set k (some (.ex x))).set i none) S' } r S
theorem RepE.drop {K : PySem.W.Frag} {m : List Addr} {H : Hp} {r : Rho} {s : L2.St} {i : Nat} (h : RepE K m H r s) : RepE K m H (r.set i none) (s.set i none) := by
  refine ⟨by simp [h.len], fun j x e => ?_⟩
  by_cases hj : i = j
  · subst hj
    by_cases hl : i < r.length
    · rw [List.getElem?_set_self hl] at e; cases e
    · rw [List.getElem?_eq_none (by simpa using hl)] at e; cases e
  · rw [List.getElem?_set_ne hj] at e
    obtain ⟨v, h1, h2⟩ := h.at_ j x e
    exact ⟨v, by rw [List.getElem?_set_ne hj]; exact h1, h2⟩
/-! ### isinstance of what was kept -/
abbrev wIsX (known : List Str) (c : Str) (w : PE1) : PE1 := fun r S W => w r S fun y S1 => match y with
  | .r (.ex x) => x ∈ known ∧ W (.r (.d (.bl (subX x c)))) S1
  | _ => False
end
end Z
namespace L2
open PySem PySem.Spec PyProof.Rows
end L2
namespace Z
open PySem PySem.Spec PyProof.Rows L2 RZ
section
variable {X : Cx} {Wx : WX} {st : Stmt} {rest : List Stmt} {e : Expr} {es : List Expr} {pos : Pos}
abbrev wIsXT (known : List Str) (cs : List Str) (w : PE1) : PE1 := fun r S W => w r S fun y S1 => match y with
  | .r (.ex x) => x ∈ known ∧ W (.r (.d (.bl (cs.any fun c => subX x c)))) S1
  | _ => False
end
end Z
set_option Elab.async false
set_option linter.all false
set_option maxRecDepth 100000
/-! Z28: o[i] += e on a list of the store. -/
namespace L2
open PySem PySem.Spec PyProof.Rows
end L2
namespace Z
open PySem PySem.Spec PyProof.Rows L2 RZ
section
variable {X : Cx} {e : Expr} {we wi : PE1} {pos p2 : Pos}
/-- o[i] += e, ints of a list of the store -/
abbrev wAugI (wo wi we : PE1) : PS1 := fun N r S => wo r S fun y S1 => wi r S1 fun z S2 => match y, z with
  | .r (.loc n), .r (.d (.int k)) => (0 ≤ k ∧ k < 1000000) ∧ isLo S2 n = true ∧ match S2[n]? with
    | some (.lst xs) => match xs[k.toNat]? with
      | some (.int a) => we r S2 fun x S3 => match x with
        | .r (.d (.int b)) => match S3[n]? with
          | some (.lst ys) => ys.length = xs.length ∧ N.nx r (S3.set n (.lst (ys.set k.toNat (.int (a + b)))))
          | _ => False
        | _ => False
      | _ => False
    | _ => False
  | _, _ => False
end
end Z
set_option Elab.async false
set_option linter.all false
set_option maxRecDepth 100000
/-! Z29: lists of any values at known places. -/
namespace Z
open PySem PySem.Spec PyProof.Rows L2 RZ
section
variable {K : PySem.W.Frag} {m m1 : List Addr} {H H0 H1 : Hp} {S S1 : Sto} {a : Addr} {n : Nat} {xs : List R} {W : PK1} {Q : VK}
theorem RepR.any {x : R} {v : V} (h : RepR K [] H x v) : RepR K m H x v := RepR.pre (fun n a e => by simp at e) x v h
theorem RepRs.any : ∀ {xs : List R} {vs : List V}, RepRs K [] H xs vs → RepRs K m H xs vs
  | [], _, h => h
  | x :: xs, _, ⟨v, r, e, h, t⟩ => ⟨v, r, e, h.any, t.any⟩
theorem RepS.la (r : RepS K m H S) (e : S[n]? = some (O.la a xs)) : ∃ vs, m[n]? = some a ∧ H a = some (.lst vs) ∧ RepRs K [] H xs vs := by
  obtain ⟨b, h1, rfl, vs, h2, h3⟩ := r.at_ n _ e
  exact ⟨vs, h1, h2, h3⟩
theorem Grow.la {vs vs' : List V} (hn : m[n]? = some a) (k : H a = some (.lst vs)) : Grow m H m (upd H a (.lst vs')) := Grow.writeO hn k wr_lst
theorem RepRs.conv0 (g : Grow m H m1 H1) {xs : List R} {vs : List V} (h : RepRs K [] H xs vs) : RepRs K [] H1 xs vs := RepRs.via (fun x v h => RepR.grow0 g x v h) xs vs h
theorem RepS.laW (r : RepS K m H S) {vs vs' : List V} {xs' : List R} (hn : m[n]? = some a) (k : H a = some (.lst vs)) (h : RepRs K [] H xs' vs') : RepS K m (upd H a (.lst vs')) (S.set n (.la a xs')) :=
  r.writeO hn k wr_lst ⟨rfl, vs', upd_same, h.conv0 (Grow.la hn k)⟩
/-- a new list at a place -/
theorem Fin.la (f : Fin K m H W Q) (r : RepS K m H S) {vs : List V} (h : RepRs K [] H xs vs) (w : ∀ a, W (.r (.ad a)) (S ++ [.la a xs])) : ∀ p, H p = none → Q (.ref p) (upd H p (.lst vs)) := fun p hp =>
  f (.r (.ad p)) _ (.ref p) (m ++ [p]) _ (w p) (Grow.push hp (Grow.alloc hp)) ((r.alloc hp).pushO (r.notmem hp) ⟨rfl, vs, upd_same, h.conv0 (m := []) (m1 := []) (Grow.alloc hp)⟩) rfl
theorem RepRs.free0 {vs : List V} (n : noLocs xs = true) (h : RepRs K m H xs vs) : RepRs K [] H xs vs := RepRs.free xs vs n h
theorem RepDs.rs : ∀ {xs : List D} {vs : List V}, RepDs K H xs vs → RepRs K m H (xs.map R.d) vs
  | [], _, h => h
  | x :: xs, _, ⟨v, r, e, h, t⟩ => ⟨v, r, e, h, RepDs.rs t⟩
theorem RepRs.app : ∀ {xs ys : List R} {vs us : List V}, RepRs K m H xs vs → RepRs K m H ys us → RepRs K m H (xs ++ ys) (vs ++ us)
  | [], _, _, _, h, k => by cases h; exact k
  | x :: xs, _, _, _, ⟨v, r, e, h, t⟩, k => by subst e; exact ⟨v, r ++ _, rfl, h, RepRs.app t k⟩
theorem RepRs.take : ∀ {xs : List R} {vs : List V} (n : Nat), RepRs K m H xs vs → RepRs K m H (xs.take n) (vs.take n)
  | _, _, 0, h => by simp [RepRs]
  | [], _, n + 1, h => by cases h; simp [RepRs]
  | x :: xs, _, n + 1, ⟨v, r, e, h, t⟩ => by subst e; exact ⟨v, r.take n, rfl, h, RepRs.take n t⟩
theorem RepRs.drop : ∀ {xs : List R} {vs : List V} (n : Nat), RepRs K m H xs vs → RepRs K m H (xs.drop n) (vs.drop n)
  | _, _, 0, h => by simpa using h
  | [], _, n + 1, h => by cases h; simp [RepRs]
  | x :: xs, _, n + 1, ⟨v, r, e, h, t⟩ => by subst e; simpa using RepRs.drop n t
theorem RepRs.set : ∀ {xs : List R} {vs : List V} {y : R} {u : V} (n : Nat), RepRs K m H xs vs → RepR K m H y u → RepRs K m H (xs.set n y) (vs.set n u)
  | [], _, _, _, n, h, k => by cases h; simp [RepRs]
  | x :: xs, _, _, _, 0, ⟨v, r, e, h, t⟩, k => by subst e; exact ⟨_, r, rfl, k, t⟩
  | x :: xs, _, _, _, n + 1, ⟨v, r, e, h, t⟩, k => by subst e; exact ⟨v, _, rfl, h, RepRs.set n t k⟩
theorem RepRs.one {x : R} {v : V} (h : RepR K m H x v) : RepRs K m H [x] [v] := ⟨v, [], rfl, h, rfl⟩
theorem RepRs.dropLast {vs : List V} (h : RepRs K m H xs vs) : RepRs K m H xs.dropLast vs.dropLast := by
  rw [List.dropLast_eq_take, List.dropLast_eq_take, RepRs.len h]
  exact RepRs.take _ h
end
/-- an item of a row -/
def ixR (xs : List R) (k : Int) : Option R := if 0 ≤ k then xs[k.toNat]? else if -(xs.length : Int) ≤ k then xs[(k + xs.length).toNat]? else none
theorem RepRs.atI {K : PySem.W.Frag} {m : List Addr} {H : Hp} {xs : List R} {vs : List V} {k : Int} {z : R} (h : RepRs K m H xs vs) (e : ixR xs k = some z) : ∃ v, L2.atI vs k = some v ∧ RepR K m H z v := by
  unfold ixR at e
  unfold L2.atI ixN
  have hl := RepRs.len h
  rw [hl]
  by_cases h0 : 0 ≤ k
  · rw [if_pos h0] at e
    obtain ⟨v, h1, h2⟩ := RepRs.get h e
    have : k.toNat < vs.length := (List.getElem?_eq_some_iff.mp h1).1
    rw [if_pos h0, if_pos (by omega)]
    exact ⟨v, h1, h2⟩
  · rw [if_neg h0] at e
    split at e
    · rename_i h1
      obtain ⟨v, h2, h3⟩ := RepRs.get h e
      rw [if_neg h0, if_pos h1]
      exact ⟨v, h2, h3⟩
    · cases e
section
variable {X : Cx} {e a b : Expr} {es : List Expr} {pos p2 : Pos} {we wa wb wi : PE1} {was : PA1}
/-- [..], of any values, at a place -/
abbrev wLstA (ws : PA1) : PE1 := fun r S W => ws r S fun xs S1 => match rsOf xs with
  | some rs => (rs.length ≤ 16777216 ∧ noLocs rs = true) ∧ ∀ a, W (.r (.ad a)) (S1 ++ [.la a rs])
  | none => False
theorem we_lstA (h : WA X es was) : WE X (.List es pos) (wLstA was) :=
  ⟨peImp (pe_lst h.pa) fun s H Q ⟨m, r, S, W, hE, hS, hw, hf⟩ => ⟨m, r, S, _, hE, hS, hw, fun xs S1 vs m1 H1 h1 g1 r1 q1 => by
    split at h1
    · rename_i rs e
      obtain ⟨⟨h1, h2⟩, h3⟩ := h1
      have q := rsOf_ok q1 e
      exact ⟨by rw [RepRs.len q, sizeLine_eq]; exact h1, (hf.later g1 r1).la r1 (q.free0 h2) h3⟩
    · exact h1.elim⟩⟩
/-- a new list is given a place -/
abbrev wAtL (w : PE1) : PE1 := fun r S W => w r S fun x S1 => match x with
  | .f xs => ∀ a, W (.r (.ad a)) (S1 ++ [.la a (xs.map R.d)])
  | .r y => W (.r y) S1
theorem we_atL (h : WE X e we) : WE X e (wAtL we) := ⟨peImp h.pe fun s H Q ⟨m, r, S, W, hE, hS, hw, hf⟩ => ⟨m, r, S, _, hE, hS, hw, fun x S1 v m1 H1 h1 g1 r1 q1 => by
  cases x with
  | r y => exact hf _ S1 v m1 H1 h1 g1 r1 q1
  | f xs =>
    obtain ⟨a, vs, rfl, k1, k2, k3, k4⟩ := q1
    exact hf _ _ _ (m1 ++ [a]) H1 (h1 a) (Grow.push k3 g1) (r1.pushO k2 ⟨rfl, vs, k1, RepDs.rs k4⟩) rfl⟩⟩
/-- (a, b, ..) = a list at a place -/
abbrev wUnlA (n : Nat) (fs : List R → Rho → Option Rho) (w : PE1) : PS1 := fun N r S => w r S fun x S1 => match x with
  | .r (.ad a) => ∃ (k : Nat) (xs : List R), S1[k]? = some (O.la a xs) ∧ xs.length = n ∧ (match fs xs r with
    | some r' => N.nx r' S1
    | none => False)
  | _ => False
/-- an item -/
abbrev pIxA : P2 := fun x y S W => match x, y with
  | .r (.ad a), .r (.d (.int k)) => ∃ (n : Nat) (xs : List R) (z : R), S[n]? = some (O.la a xs) ∧ ixR xs k = some z ∧ W (.r z) S
  | _, _ => False
theorem we_ixA (ha : WE X a wa) (hb : WE X b wb) (hs : PlainIx b) : WE X (.Subscript a b pos) (wBin pIxA wa wb) := by
  refine ⟨peImp (pe_ix ix_list ha.pe hb.pe hs) fun s H Q ⟨m, ρ, S, W, hE, hS, hw, hf⟩ => up2 hE hS hw fun x y S2 v u m2 H2 z g2 r2 qx qy => ?_⟩
  unfold pIxA at z
  split at z
  · rename_i a k
    obtain ⟨n, xs, y, e1, e2, z⟩ := z
    obtain ⟨vs, k1, k2, k3⟩ := r2.la e1
    obtain ⟨w, h3, h4⟩ := k3.atI e2
    exact ⟨a, vs, k, w, qx, qy, .inl (.inl k2), h3, (hf.later g2 r2).here r2 (x := .r y) h4.any z⟩
  · exact z.elim
/-- how many -/
abbrev fLenA : PF := fun xs S W => match xs with
  | [.r (.ad a)] => ∃ (n : Nat) (ys : List R), S[n]? = some (O.la a ys) ∧ W (.r (.d (.int ys.length))) S
  | _ => False
theorem f_lenA : FnP X (.builtin "len") fLenA := by
  refine ⟨_, call_len_seq, fun xs S W vs m H H0 Q r q w f => ?_⟩
  unfold fLenA at w
  split at w
  · rename_i a
    obtain ⟨n, ys, e, w⟩ := w
    obtain ⟨v, rfl, q1⟩ := q.one
    cases (show v = V.ref a from q1)
    obtain ⟨us, k1, k2, k3⟩ := r.la e
    refine ⟨a, us, rfl, .inl (.inl (.inl k2)), ?_⟩
    rw [RepRs.len k3]
    exact f.here r (x := svi _) rfl w
  · exact w.elim
/-- for x in .. -/
abbrev wItA (w : PE1) : PI1 := fun r S W => w r S fun x S1 => match x with
  | .r (.ad a) => ∃ (n : Nat) (xs : List R), S1[n]? = some (O.la a xs) ∧ W ⟨xs, fun S => S[n]? = some (O.la a xs)⟩ S1
  | _ => False
theorem wi_seqA {tg : Expr} (he : WE X e we) : WI X tg e (wItA we) := ⟨piImp (pi_list he.pe) fun s H R ⟨m, r, S, W, hE, hS, hw, hf⟩ => ⟨m, r, S, _, hE, hS, hw, fun x S1 v m1 H1 h1 g1 r1 q1 => by
  split at h1
  · rename_i a
    obtain ⟨n, xs, e1, h1⟩ := h1
    cases (show v = V.ref a from q1)
    obtain ⟨us, k1, k2, k3⟩ := r1.la e1
    refine ⟨a, rfl, ⟨us, .inl (.inl k2)⟩, hf _ S1 m1 H1 _ h1 g1 r1 (itok_lst fun m H S' g r' hc => ?_)⟩
    obtain ⟨us', j1, j2, j3⟩ := r'.la hc
    exact ⟨us', j3.any, .inl (.inl j2)⟩
  · exact h1.elim⟩⟩
/-- x.append(e) -/
abbrev wAppA (wo we : PE1) : PE1 := fun r S W => wo r S fun x S1 => match x with
  | .r (.ad a) => (∃ (n : Nat) (xs : List R), S1[n]? = some (O.la a xs)) ∧ we r S1 fun y S2 => match y with
    | .r z => noLoc z = true ∧ ∃ (n : Nat) (xs : List R), S2[n]? = some (O.la a xs) ∧ xs.length < 16777216 ∧ W (.r (.d .non)) (S2.set n (.la a (xs ++ [z])))
    | _ => False
  | _ => False
theorem we_appA {o : Expr} {apos : Pos} {wo : PE1} (ho : WE X o wo) (he : WE X e we)
    (h : ∀ {to te : TE}, PE X o to → PE X e te → PE X (.Call (.Attribute o "append" apos) [e] [] pos) (tBM X.K "list" rAppend to (tCons te tNil)) := by
      intro _ _ ho he; exact pe_bm PySem.F.plainAttrs_list PySem.F.slot_list_append PySem.F.type_list_append mt_append ho (pa_cons he pa_nil)) : WE X (.Call (.Attribute o "append" apos) [e] [] pos) (wAppA wo we) :=
  ⟨peImp (h ho.pe he.pe) fun s H Q ⟨m, r, S, W, hE, hS, hw, hf⟩ => up1 hE hS hw fun x S1 v m1 H1 h1 g1 r1 q1 => by
    split at h1
    · rename_i a
      obtain ⟨⟨n, xs, e1⟩, h1⟩ := h1
      cases (show v = V.ref a from q1)
      obtain ⟨vs, k1, k2, k3⟩ := r1.la e1
      refine ⟨.inl ⟨rfl, vs, .inl (.inl k2)⟩, m1, r, S1, _, hE.grow g1, r1, h1, fun y S2 u m2 H2 h2 g2 r2 q2 => ?_⟩
      split at h2
      · rename_i z
        obtain ⟨hz, n', ys, e2, hl, h2⟩ := h2
        obtain ⟨us, j1, j2, j3⟩ := r2.la e2
        refine ⟨a, us, u, rfl, rfl, j2, by rw [RepRs.len j3, sizeLine_eq]; exact hl, ?_⟩
        exact hf _ _ _ m2 _ h2 ((g1.trans g2).trans (Grow.la j1 j2)) (r2.laW j1 j2 (j3.app (RepRs.one (RepR.free z u hz q2)))) (show RepR _ _ _ _ _ from rfl)
      · exact h2.elim
    · exact h1.elim⟩
/-- x.pop() -/
abbrev wPopA (wo : PE1) : PE1 := fun r S W => wo r S fun x S1 => match x with
  | .r (.ad a) => ∃ (n : Nat) (xs : List R) (z : R), S1[n]? = some (O.la a xs) ∧ xs[xs.length - 1]? = some z ∧ W (.r z) (S1.set n (.la a xs.dropLast))
  | _ => False
theorem we_popA {o : Expr} {apos : Pos} {wo : PE1} (ho : WE X o wo)
    (h : ∀ {to : TE}, PE X o to → PE X (.Call (.Attribute o "pop" apos) [] [] pos) (tBM0 X.K "list" rPop to) := by
      intro _ ho; exact pe_bm0 PySem.F.plainAttrs_list PySem.F.slot_list_pop PySem.F.type_list_pop mt_pop ho) : WE X (.Call (.Attribute o "pop" apos) [] [] pos) (wPopA wo) :=
  ⟨peImp (h ho.pe) fun s H Q ⟨m, r, S, W, hE, hS, hw, hf⟩ => up1 hE hS hw fun x S1 v m1 H1 h1 g1 r1 q1 => by
    split at h1
    · rename_i a
      obtain ⟨n, xs, z, e1, e2, h1⟩ := h1
      cases (show v = V.ref a from q1)
      obtain ⟨vs, k1, k2, k3⟩ := r1.la e1
      obtain ⟨w, j1, j2⟩ := RepRs.get k3 e2
      refine ⟨.inl ⟨rfl, vs, .inl (.inl k2)⟩, a, vs, w, rfl, rfl, k2, by rw [RepRs.len k3]; exact j1, ?_⟩
      exact hf _ _ _ m1 _ h1 (g1.trans (Grow.la k1 k2)) (r1.laW k1 k2 k3.dropLast) (show RepR _ _ _ _ _ from (RepR.grow0 (Grow.la k1 k2) z w j2).any)
    · exact h1.elim⟩
/-- x.clear() -/
abbrev wClrA (wo : PE1) : PE1 := fun r S W => wo r S fun x S1 => match x with
  | .r (.ad a) => ∃ (n : Nat) (xs : List R), S1[n]? = some (O.la a xs) ∧ W (.r (.d .non)) (S1.set n (.la a []))
  | _ => False
/-- o[i] = e -/
abbrev wStIA (wo wi we : PE1) : PS1 := fun N r S => we r S fun x S1 => wo r S1 fun o S2 => wi r S2 fun k S3 => match o, k, x with
  | .r (.ad a), .r (.d (.int k)), .r z => noLoc z = true ∧ ∃ (n : Nat) (xs : List R) (j : Nat), S3[n]? = some (O.la a xs) ∧ ixD xs.length k = some j ∧ N.nx r (S3.set n (.la a (xs.set j z)))
  | _, _, _ => False
end
end Z
set_option Elab.async false
set_option linter.all false
set_option maxRecDepth 100000
/-! Z30: texts: slices, text times number, one sign in a text. -/
namespace Z
open PySem PySem.Spec PyProof.Rows L2 RZ
/-- a text of these code points -/
abbrev Tx (l : List Nat) : Str := ⟨l.toArray⟩
theorem tx_len (l : List Nat) : (Tx l).length = l.length := by
  show (l.toArray).size = l.length
  simp
theorem tx_app (a b : List Nat) : Tx a ++ Tx b = Tx (a ++ b) := by
  show (⟨a.toArray ++ b.toArray⟩ : Str) = ⟨(a ++ b).toArray⟩
  simp
section
variable {X : Cx} {a b : Expr} {pos p2 : Pos} {wa wb : PE1}
/-- x[lo:hi] of a text -/
abbrev wSlT (wa : PE1) (wl wh : Rho → Sto → (Option Int → Sto → Prop) → Prop) : PE1 := fun r S W => wa r S fun x S1 => wl r S1 fun lo S2 => wh r S2 fun hi S3 => match x with
  | .r (.d (.str z)) => z.length ≤ 16777216 ∧ W (.r (.d (.str (Txt.slice z lo hi)))) S3
  | _ => False
end
/-- text times number -/
abbrev pSMul : P2 := fun x y S W => match x, y with
  | .r (.d (.str z)), .r (.d (.int n)) => (0 ≤ n ∧ n ≤ 1000 ∧ z.length ≤ 1000) ∧ W (.r (.d (.str (Txt.mul z n)))) S
  | _, _ => False
theorem txt_mulOk {z : Str} {n : Int} (h0 : 0 ≤ n) (h1 : n ≤ 1000) (h2 : z.length ≤ 1000) : PySem.MulOk z n := by
  refine ⟨?_, fun h3 _ h4 => ?_, fun _ _ => ?_⟩
  · rw [Bool.or_eq_false_iff, decide_eq_false_iff_not, decide_eq_false_iff_not]
    have : (2 : Int) ^ 63 = 9223372036854775808 := by decide
    omega
  · have e : (2 : Int) ^ 63 - 1 = 9223372036854775807 := by decide
    rw [e] at h4
    have : (9223372036854775807 : Int) / 1000 ≤ 9223372036854775807 / n := by
      refine Int.le_ediv_of_mul_le (by omega) ?_
      have : (9223372036854775807 : Int) / 1000 * n ≤ 9223372036854775807 / 1000 * 1000 := Int.mul_le_mul_of_nonneg_left h1 (by decide)
      omega
    omega
  · have : z.length * n.toNat ≤ 1000 * 1000 := Nat.mul_le_mul h2 (by omega)
    show decide (z.length * n.toNat > sizeLine) = false
    rw [decide_eq_false_iff_not]
    have e : sizeLine = 16777216 := sizeLine_eq
    omega
theorem foldl_cat : ∀ (xs : List (Array Nat)) (a : Array Nat), (xs.foldl (· ++ ·) a).toList = a.toList ++ (xs.map Array.toList).flatten
  | [], a => by simp
  | x :: xs, a => by
    rw [List.foldl_cons, foldl_cat xs, Array.toList_append, List.map_cons, List.flatten_cons, List.append_assoc]
theorem txt_mul (l : List Nat) (n : Int) : Txt.mul (Tx l) n = Tx (List.replicate n.toNat l).flatten := by
  unfold Txt.mul
  have ext : ∀ x y : Str, x.cps.toList = y.cps.toList → x = y := fun x y h => by
    cases x; cases y
    congr 1
    exact Array.toList_inj.mp h
  split
  · rename_i h
    rw [show n.toNat = 0 by omega]
    rfl
  · split
    · rename_i h1 h
      rw [Bool.or_eq_true, beq_iff_eq, beq_iff_eq] at h
      rcases h with rfl | h
      · apply ext
        simp
      · rw [tx_len] at h
        obtain rfl := List.eq_nil_of_length_eq_zero h
        apply ext
        simp
    · apply ext
      rw [foldl_cat]
      simp
theorem o_smul {X : Cx} : OpP X (binaryOp .Mult) pSMul := by
  refine ⟨fun x y H Q => ∃ z n, x = .str z ∧ y = .int n ∧ PySem.MulOk z n ∧ Q (.str (Txt.mul z n)) H, ?_, fun x y S W v u m H H0 Q r qx qy w f => ?_⟩
  · rintro pins s σ H x y v u Q I rx ry ⟨z, n, rfl, rfl, ok, q⟩
    obtain ⟨t, rfl⟩ := rx
    obtain ⟨t', rfl⟩ := ry
    exact SB.mul ok fun t' k => ⟨.str (Txt.mul z n), H, I.tok _, ⟨_, rfl⟩, q⟩
  · unfold pSMul at w
    split at w
    · rename_i z n
      obtain ⟨⟨h0, h1, h2⟩, w⟩ := w
      exact ⟨z, n, qx, qy, txt_mulOk h0 h1 h2, f.here r (x := .r (.d (.str _))) rfl w⟩
    · exact w.elim
theorem tx_chrs (l : List Nat) : chrs (Tx l) = l.map fun c => R.d (.str ⟨#[c]⟩) := by unfold chrs; simp
end Z
set_option Elab.async false
set_option linter.all false
set_option maxRecDepth 100000
/-! Z32: lists at places compared, asked for their type; a list of the store comes to a place; list(range(n)). -/
namespace Z
open PySem PySem.Spec PyProof.Rows L2 RZ
mutual
/-- a value reads as this, lists at places too -/
inductive PyR (S : Sto) : R → PyData → Prop
  | d (x : D) : PyR S (.d x) (py x)
  | ad {n : Nat} {a : Addr} {xs : List R} {ds : List PyData} : S[n]? = some (O.la a xs) → PyRs S xs ds → PyR S (.ad a) (.list ds)
inductive PyRs (S : Sto) : List R → List PyData → Prop
  | nil : PyRs S [] []
  | cons {x : R} {xs : List R} {d : PyData} {ds : List PyData} : PyR S x d → PyRs S xs ds → PyRs S (x :: xs) (d :: ds)
end
section
variable {X : Cx} {e a b : Expr} {es : List Expr} {pos : Pos} {we wa wb : PE1}
/-- x == y of lists at places -/
abbrev pEqA (neg : Bool) : P2 := fun x y S W => match x, y with
  | .r (.ad a), .r (.ad b) => ∃ d e, PyR S (.ad a) d ∧ PyR S (.ad b) e ∧ min d.depth e.depth ≤ 64 ∧ W (.r (.d (.bl (if neg then !PyData.eqv d e else PyData.eqv d e)))) S
  | _, _ => False
/-- isinstance(x, list) of a list at a place -/
abbrev wIsiA (wa : PE1) : PE1 := fun r S W => wa r S fun x S1 => match x with
  | .r (.ad a) => ∃ (n : Nat) (xs : List R), S1[n]? = some (O.la a xs) ∧ W (.r (.d (.bl true))) S1
  | _ => False
/-- a list of the store comes to a place -/
abbrev wToA (w : PE1) : PE1 := fun r S W => w r S fun x S1 => match x with
  | .r (.loc n) => ∃ xs, S1[n]? = some (O.lst xs) ∧ ∀ a, W (.r (.ad a)) (S1.set n (.la a (xs.map R.d)))
  | _ => False
/-- list(range(n)) -/
abbrev wLsR (w : PE1) : PE1 := fun r S W => w r S fun x S1 => match x with
  | .r (.d (.int n)) => (0 ≤ n ∧ n ≤ 16777216) ∧ W (.f ((List.range n.toNat).map fun i : Nat => D.int i)) S1
  | _ => False
end
end Z
set_option Elab.async false
set_option linter.all false
set_option maxRecDepth 100000
/-! Z33: instances of own classes at places: fields, methods, C(). -/
namespace L2
open PySem PySem.Spec PyProof.Rows
section
variable {X : Cx} {CX : CXT} {k : Nat} {f C : Addr} {fd : FuncData} {ps : List Str} {sp : Sp} {E : St → XK} {m : Str} {apos pos : Pos} {e o : Expr} {es : List Expr} {ta : TE} {t : TA}
/-- o.m(..) that may raise: what is wanted of an exception goes by the slots -/
def tMethX (C : Addr) (m : Str) (sp : Sp) (E : St → XK) (ta : TE) (t : TA) : TE := fun σ H Q => ta σ H fun x H1 => ∃ a dx fs, x = .ref a ∧ H1 a = some (.ins C dx fs) ∧ fs.lookup m = none ∧ t σ H1 fun vs H2 => sp (x :: vs) H2 Q (E σ)
theorem pe_methX {pl : Sem Bool} (he : PE X o ta) (c : Cls X.K C) (hm : Meth X.K C m f) (F : FnOk X.prog X.w X.K X.mg X.base CX k f fd ps sp) (hr : Room k X.A) (hb : Binds X.K fd ps []) (hx : ∀ σ, PassesAt CX X σ (E σ)) (ha : PA X (e :: es) t)
    (hst : starEach (e :: es) X.env = (false, eval e X.env) :: starEach es X.env := by rfl) (hpl : (backTo pos (starEach es X.env)).any (·.1) = false := by rfl)
    (ht : eval (.Call (.Attribute o m apos) (e :: es) [] pos) X.env = (do
      let ov ← eval o X.env
      standAt apos.atName
      let (f, first) ← holding [ov] (getMethod ov m pl)
      callWith pos f first (backTo pos (starEach (e :: es) X.env)) (backToKw pos (keywordEach [] X.env))) := by rfl) :
    PE X (.Call (.Attribute o m apos) (e :: es) [] pos) (tMethX C m sp E ta t) := by
  refine ⟨fun pins s σ H Q I h => ?_⟩
  refine PySem.W.methodCall_KW (pl := pl) (thn (he.run pins s σ H _ I h) fun u s1 ⟨x, H1, I1, rx, a, dx, fs, ex, ea, l, q⟩ => ?_) ht
  subst ex
  obtain rfl : u = Value.ref a := rx
  refine getmeth_ok I1 ea c hm l ?_
  refine PySem.W.callWith_K (first := [.ref a]) (h₀ := X.base) I.ok.mod.kin hm.kp (thn (ha.run pos pins s1 σ H1 _ I1 q) fun us s2 ⟨vs, H2, I2, r, q2⟩ => ⟨I2.kIn, ?_⟩) hst hpl
  exact run_fnS (us := .ref a :: us) (vs := .ref a :: vs) F hr hb (hx σ) I2 (.cons rfl r) q2
theorem pe_methX0 {pl : Sem Bool} (he : PE X o ta) (c : Cls X.K C) (hm : Meth X.K C m f) (F : FnOk X.prog X.w X.K X.mg X.base CX k f fd ps sp) (hr : Room k X.A) (hb : Binds X.K fd ps []) (hx : ∀ σ, PassesAt CX X σ (E σ))
    (ht : eval (.Call (.Attribute o m apos) [] [] pos) X.env = (do
      let ov ← eval o X.env
      standAt apos.atName
      let (f, first) ← holding [ov] (getMethod ov m pl)
      callWith pos f first (backTo pos (starEach [] X.env)) (backToKw pos (keywordEach [] X.env))) := by rfl) :
    PE X (.Call (.Attribute o m apos) [] [] pos) (tMethX C m sp E ta tNil) := by
  refine ⟨fun pins s σ H Q I h => ?_⟩
  refine PySem.W.methodCall_KW (pl := pl) (thn (he.run pins s σ H _ I h) fun u s1 ⟨x, H1, I1, rx, a, dx, fs, ex, ea, l, q⟩ => ?_) ht
  subst ex
  obtain rfl : u = Value.ref a := rx
  refine getmeth_ok I1 ea c hm l ?_
  exact PySem.W.callWith_K0 (first := [.ref a]) I1.kIn hm.kp (run_fnS (us := [.ref a]) (vs := [.ref a]) F hr hb (hx σ) I1 (.cons rfl .nil) q)
end
end L2
namespace Z
open PySem PySem.Spec PyProof.Rows L2 RZ
/-- a field is written -/
def putR (f : Str) (z : R) : List (Str × R) → List (Str × R)
  | [] => [(f, z)]
  | (g, x) :: r => if g = f then (g, z) :: r else (g, x) :: putR f z r
abbrev PF0 (K : PySem.W.Frag) (H : Hp) : List (Str × R) → List (Str × V) → Prop := Paired (fun (p : Str × R) (q : Str × V) => q.1 = p.1 ∧ RepR K [] H p.2 q.2)
section
variable {K : PySem.W.Frag} {m m1 : List Addr} {H H1 : Hp} {S S1 : Sto} {a p : Addr} {n : Nat} {fs : List (Str × R)} {vs : List (Str × V)} {f C : Str} {z : R} {v : V}
theorem PF0.look (h : PF0 K H fs vs) (e : fs.lookup f = some z) : ∃ v, vs.lookup f = some v ∧ RepR K [] H z v := by
  unfold PF0 at h
  induction h with
  | nil => cases e
  | @cons p q ps qs hd tl ih =>
    obtain ⟨g, x⟩ := p
    obtain ⟨g', y⟩ := q
    obtain ⟨e1, e2⟩ := hd
    simp only at e1 e2
    subst e1
    rw [List.lookup] at e ⊢
    split at e
    · cases e; exact ⟨y, rfl, e2⟩
    · exact ih e
theorem PF0.none (h : PF0 K H fs vs) (e : fs.lookup f = none) : vs.lookup f = none := by
  unfold PF0 at h
  induction h with
  | nil => rfl
  | @cons p q ps qs hd tl ih =>
    obtain ⟨g, x⟩ := p
    obtain ⟨g', y⟩ := q
    obtain ⟨e1, e2⟩ := hd
    simp only at e1 e2
    subst e1
    rw [List.lookup] at e ⊢
    split at e
    · cases e
    · exact ih e
theorem PF0.put (h : PF0 K H fs vs) (r : RepR K [] H z v) : PF0 K H (putR f z fs) (putF f v vs) := by
  unfold PF0 at h ⊢
  induction h with
  | nil => exact .cons ⟨rfl, r⟩ .nil
  | @cons p q ps qs hd tl ih =>
    obtain ⟨g, x⟩ := p
    obtain ⟨g', y⟩ := q
    obtain ⟨e1, e2⟩ := hd
    simp only at e1 e2
    subst e1
    show Paired _ (if g' = f then (g', z) :: ps else (g', x) :: putR f z ps) (if g' = f then (g', v) :: qs else (g', y) :: putF f v qs)
    split
    · exact .cons ⟨rfl, r⟩ tl
    · exact .cons ⟨rfl, e2⟩ ih
theorem PF0.conv (g : Grow m H m1 H1) (h : PF0 K H fs vs) : PF0 K H1 fs vs := Paired.mono (fun p q hd => ⟨hd.1, RepR.grow0 g _ _ hd.2⟩) h
theorem RepS.ob (r : RepS K m H S) (e : S[n]? = some (O.ob a C fs)) : ∃ Ca dx vs, m[n]? = some a ∧ ClsN K C Ca ∧ H a = some (.ins Ca dx vs) ∧ PF0 K H fs vs := by
  obtain ⟨b, h1, rfl, Ca, dx, vs, h2, h3, h4⟩ := r.at_ n _ e
  exact ⟨Ca, dx, vs, h1, h2, h3, h4⟩
theorem wr_ins {D dx : Addr} {vs : List (Str × V)} : Wr p (.ins D dx vs) := ⟨fun _ => (nomatch ·), fun _ _ => (nomatch ·), fun _ => (nomatch ·)⟩
end
/-- an own class: none of these names is an attribute of it -/
structure ClsO (K : PySem.W.Frag) (C : Str) (fl : List Str) : Prop where
  ex : ∃ Ca, ClsN K C Ca ∧ Cls K Ca ∧ ∀ f ∈ fl, NoAttr K Ca f
section
variable {X : Cx} {Wx : WX} {e o : Expr} {es : List Expr} {pos apos : Pos} {we wo : PE1} {was : PA1} {C f : Str} {fl : List Str}
/-- o.f -/
abbrev wFld (C f : Str) (w : PE1) : PE1 := fun r S W => w r S fun x S1 => match x with
  | .r (.ad a) => ∃ (n : Nat) (fs : List (Str × R)) (z : R), S1[n]? = some (O.ob a C fs) ∧ fs.lookup f = some z ∧ W (.r z) S1
  | _ => False
theorem we_fld (c : ClsO X.K C fl) (h : WE X e we) (hf : f ∈ fl := by decide) (hb : attributeBase e f X.env (eval e X.env) = eval e X.env := by rfl) : WE X (.Attribute e f pos) (wFld C f we) := by
  obtain ⟨Ca, c1, c2, c3⟩ := c.ex
  exact ⟨peImp (pe_fld h.pe hb) fun s H Q ⟨m, r, S, W, hE, hS, hw, hf'⟩ => up1 hE hS hw fun x S1 v m1 H1 h1 g1 r1 q1 => by
    split at h1
    · rename_i a
      obtain ⟨n, fs, z, e1, e2, h1⟩ := h1
      cases (show v = V.ref a from q1)
      obtain ⟨Cb, dx, vs, k1, k2, k3, k4⟩ := r1.ob e1
      obtain rfl := c1.uniq k2
      obtain ⟨u, l1, l2⟩ := k4.look e2
      exact ⟨a, _, dx, vs, u, rfl, k3, c2, c3 _ hf, l1, (hf'.later g1 r1).here r1 (x := .r z) l2.any h1⟩
    · exact h1.elim⟩
/-- o.f = e -/
abbrev wStF (C f : Str) (wo we : PE1) : PS1 := fun N r S => we r S fun x S1 => wo r S1 fun o S2 => match o, x with
  | .r (.ad a), .r z => noLoc z = true ∧ ∃ (n : Nat) (fs : List (Str × R)), S2[n]? = some (O.ob a C fs) ∧ fs.length < 1000 ∧ N.nx r (S2.set n (.ob a C (putR f z fs)))
  | _, _ => False
theorem ws_stF {pos' : Pos} (c : ClsO X.K C fl) (ho : WE X o wo) (he : WE X e we) (hf : f ∈ fl := by decide) (hs : swapsWith e (some (.Attribute o f pos')) pos.line X.env = pure false := by rfl) : WS X (.Assign [.Attribute o f pos'] e pos) (wStF C f wo we) := by
  obtain ⟨Ca, c1, c2, c3⟩ := c.ex
  exact ⟨psImp (ps_fld ho.pe he.pe hs) fun D s H ⟨m, r, S, N, hE, hS, hw, hff⟩ => up1 hE hS hw fun x S1 v m1 H1 h1 g1 r1 q1 => up1 (hE.grow g1) r1 h1 fun y S2 u m2 H2 h2 g2 r2 q2 => by
    split at h2
    · rename_i a z
      obtain ⟨hz, n, fs, e1, hl, h2⟩ := h2
      cases (show u = V.ref a from q2)
      obtain ⟨Cb, dx, vs, k1, k2, k3, k4⟩ := r2.ob e1
      obtain rfl := c1.uniq k2
      have qz : RepR X.K [] H2 z v := RepR.free z v hz (RepR.grow g2 z v q1)
      have hl2 : vs.length < 1000 := by rw [← Paired.length k4]; exact hl
      have gw := Grow.writeO (u' := .ins Ca dx (putF f v vs)) k1 k3 wr_ins
      refine ⟨a, _, dx, vs, rfl, k3, c2, c3 _ hf, hl2, ?_⟩
      exact hff.nx r _ s m2 _ h2 ((g1.trans g2).trans gw) (((hE.grow g1).grow g2).grow gw) (r2.writeO k1 k3 wr_ins ⟨rfl, Ca, dx, _, k2, upd_same, (k4.put qz).conv gw⟩)
    · exact h2.elim⟩
/-! ### methods -/
structure FnM (P : Program) (w : World) (K : PySem.W.Frag) (mg : Str → Option Value) (base : Heap) (k : Nat) (C m : Str) (n : Nat) (sp : SpW) : Prop where
  ok : ∃ Ca f fd ps, ps.length = n ∧ ClsN K C Ca ∧ Cls K Ca ∧ Meth K Ca m f ∧ Binds K fd ps [] ∧ FnOk P w K mg base (L2.CX P w) k f fd ps (liftW K n sp)
theorem FnM.mono {P : Program} {w : World} {K : PySem.W.Frag} {mg : Str → Option Value} {base : Heap} {j k : Nat} {C m : Str} {n : Nat} {sp : SpW} (F : FnM P w K mg base j C m n sp) (h : j ≤ k) : FnM P w K mg base k C m n sp := by
  obtain ⟨Ca, f, fd, ps, h1, h2, h3, h4, h5, h6⟩ := F.ok
  exact ⟨Ca, f, fd, ps, h1, h2, h3, h4, h5, h6.mono h⟩
abbrev wxMeth (C m : Str) (sp : SpW) (n : Nat) (wo : PE1) (ws : PA1) : PEX := fun r S W XW => wo r S fun x S1 => match x with
  | .r (.ad a) => (∃ (k : Nat) (fs : List (Str × R)), S1[k]? = some (O.ob a C fs) ∧ fs.lookup m = none) ∧ ws r S1 fun xs S2 => bindVs xs S2 fun rs S3 => rs.length + 1 = n ∧ sp (.ad a :: rs) S3 (fun x T => W (.r x) T) XW
  | _ => False
theorem wex_meth {k n : Nat} {m : Str} {sp : SpW} {pl : Sem Bool} (F : FnM X.prog X.w X.K X.mg X.base k C m n sp) (hr : Room k X.A) (tk : Takes X Wx) (ho : WE X o wo) (ha : WA X (e :: es) was)
    (hst : starEach (e :: es) X.env = (false, eval e X.env) :: starEach es X.env := by rfl) (hpl : (backTo pos (starEach es X.env)).any (·.1) = false := by rfl)
    (ht : eval (.Call (.Attribute o m apos) (e :: es) [] pos) X.env = (do
      let ov ← eval o X.env
      standAt apos.atName
      let (f, first) ← holding [ov] (getMethod ov m pl)
      callWith pos f first (backTo pos (starEach (e :: es) X.env)) (backToKw pos (keywordEach [] X.env))) := by rfl) : WEX X Wx (.Call (.Attribute o m apos) (e :: es) [] pos) (wxMeth C m sp n wo was) := by
  obtain ⟨Ca, f, fd, ps, h1, h2, h3, h4, h5, h6⟩ := F.ok
  have hp := pe_methX (E := L2.WE Wx) (pl := pl) ho.pe h3 h4 h6 hr h5 (fun σ => passAt tk σ) ha.pa hst hpl ht
  refine ⟨⟨fun pins s z H Q I ⟨m, r, S, W, XW, hE, hS, hw, hf, hx⟩ => hp.run pins s z H Q I (up1 hE hS hw fun x S1 v m1 H1 k1 g1 r1 q1 => ?_)⟩⟩
  split at k1
  · rename_i a
    obtain ⟨⟨j, fs, e1, l1⟩, k1⟩ := k1
    cases (show v = V.ref a from q1)
    obtain ⟨Cb, dx, vs, b1, b2, b3, b4⟩ := r1.ob e1
    obtain rfl := h2.uniq b2
    refine ⟨a, dx, vs, rfl, b3, b4.none l1, m1, r, S1, _, hE.grow g1, r1, k1, fun xs S2 vs' m2 H2 k2 g2 r2 q2 => ?_⟩
    obtain ⟨rs, S3, m3, w3, g3, r3, q3, _⟩ := bindVs_ok g2 r2 q2 k2
    exact liftW_ok (g1.trans g3) r3 (rs := .ad a :: rs) ⟨_, _, rfl, rfl, q3⟩ w3 hf hx
  · exact k1.elim
theorem wex_meth0 {k n : Nat} {m : Str} {sp : SpW} {pl : Sem Bool} (F : FnM X.prog X.w X.K X.mg X.base k C m n sp) (hr : Room k X.A) (tk : Takes X Wx) (ho : WE X o wo)
    (ht : eval (.Call (.Attribute o m apos) [] [] pos) X.env = (do
      let ov ← eval o X.env
      standAt apos.atName
      let (f, first) ← holding [ov] (getMethod ov m pl)
      callWith pos f first (backTo pos (starEach [] X.env)) (backToKw pos (keywordEach [] X.env))) := by rfl) : WEX X Wx (.Call (.Attribute o m apos) [] [] pos) (wxMeth C m sp n wo wNil) := by
  obtain ⟨Ca, f, fd, ps, h1, h2, h3, h4, h5, h6⟩ := F.ok
  have hp := pe_methX0 (E := L2.WE Wx) (pl := pl) ho.pe h3 h4 h6 hr h5 (fun σ => passAt tk σ) ht
  refine ⟨⟨fun pins s z H Q I ⟨m, r, S, W, XW, hE, hS, hw, hf, hx⟩ => hp.run pins s z H Q I (up1 hE hS hw fun x S1 v m1 H1 k1 g1 r1 q1 => ?_)⟩⟩
  split at k1
  · rename_i a
    obtain ⟨⟨j, fs, e1, l1⟩, k1⟩ := k1
    cases (show v = V.ref a from q1)
    obtain ⟨Cb, dx, vs, b1, b2, b3, b4⟩ := r1.ob e1
    obtain rfl := h2.uniq b2
    exact ⟨a, dx, vs, rfl, b3, b4.none l1, liftW_ok g1 r1 (rs := [.ad a]) ⟨_, _, rfl, rfl, rfl⟩ k1 hf hx⟩
  · exact k1.elim
/-- .. called where it raises nothing -/
abbrev wwMeth (C m : Str) (sp : SpW) (n : Nat) (wo : PE1) (ws : PA1) : PE1 := fun r S W => wxMeth C m sp n wo ws r S W fun _ _ => False
theorem we_wmeth {k n : Nat} {m : Str} {sp : SpW} {pl : Sem Bool} (F : FnM X.prog X.w X.K X.mg X.base k C m n sp) (hr : Room k X.A) (ho : WE X o wo) (ha : WA X (e :: es) was)
    (hst : starEach (e :: es) X.env = (false, eval e X.env) :: starEach es X.env := by rfl) (hpl : (backTo pos (starEach es X.env)).any (·.1) = false := by rfl)
    (ht : eval (.Call (.Attribute o m apos) (e :: es) [] pos) X.env = (do
      let ov ← eval o X.env
      standAt apos.atName
      let (f, first) ← holding [ov] (getMethod ov m pl)
      callWith pos f first (backTo pos (starEach (e :: es) X.env)) (backToKw pos (keywordEach [] X.env))) := by rfl) : WE X (.Call (.Attribute o m apos) (e :: es) [] pos) (wwMeth C m sp n wo was) :=
  ⟨peImp (wex_meth (Wx := fun _ _ _ _ => False) F hr takes0 ho ha hst hpl ht).pe fun s H Q ⟨m, r, S, W, hE, hS, hw, hf⟩ => ⟨m, r, S, W, fun _ _ => False, hE, hS, hw, hf, fun _ _ _ _ _ h => h.elim⟩⟩
theorem we_wmeth0 {k n : Nat} {m : Str} {sp : SpW} {pl : Sem Bool} (F : FnM X.prog X.w X.K X.mg X.base k C m n sp) (hr : Room k X.A) (ho : WE X o wo)
    (ht : eval (.Call (.Attribute o m apos) [] [] pos) X.env = (do
      let ov ← eval o X.env
      standAt apos.atName
      let (f, first) ← holding [ov] (getMethod ov m pl)
      callWith pos f first (backTo pos (starEach [] X.env)) (backToKw pos (keywordEach [] X.env))) := by rfl) : WE X (.Call (.Attribute o m apos) [] [] pos) (wwMeth C m sp n wo wNil) :=
  ⟨peImp (wex_meth0 (Wx := fun _ _ _ _ => False) F hr takes0 ho ht).pe fun s H Q ⟨m, r, S, W, hE, hS, hw, hf⟩ => ⟨m, r, S, W, fun _ _ => False, hE, hS, hw, hf, fun _ _ _ _ _ h => h.elim⟩⟩
/-! ### C() -/
structure FnK (P : Program) (w : World) (K : PySem.W.Frag) (mg : Str → Option Value) (base : Heap) (k : Nat) (C : Str) (sp : SpW) : Prop where
  ok : ∃ Ca f fd ps, ps.length = 1 ∧ ClsN K C Ca ∧ mg C = some (.ref Ca) ∧ Mk K Ca f ∧ Binds K fd ps [] ∧ FnOk P w K mg base (L2.CX P w) k f fd ps (liftW K 1 sp)
theorem FnK.mono {P : Program} {w : World} {K : PySem.W.Frag} {mg : Str → Option Value} {base : Heap} {j k : Nat} {C : Str} {sp : SpW} (F : FnK P w K mg base j C sp) (h : j ≤ k) : FnK P w K mg base k C sp := by
  obtain ⟨Ca, f, fd, ps, h1, h2, h3, h4, h5, h6⟩ := F.ok
  exact ⟨Ca, f, fd, ps, h1, h2, h3, h4, h5, h6.mono h⟩
abbrev wMk0 (C : Str) (sp : SpW) : PE1 := fun r S W => ∀ a, sp [.ad a] (S ++ [.ob a C []]) (fun x T => x = .d .non ∧ W (.r (.ad a)) T) fun _ _ => False
theorem we_mk0 {k : Nat} {p : Pos} {sp : SpW} (F : FnK X.prog X.w X.K X.mg X.base k C sp) (hr : Room (k + 1) X.A) (hg : Gl X C) (hdb : (C == ("__debug__" : Str)) = false := by decide) : WE X (.Call (.Name C p) [] [] pos) (wMk0 C sp) := by
  obtain ⟨Ca, f, fd, ps, h1, h2, h3, h4, h5, h6⟩ := F.ok
  have hx : Passes (L2.CX X.prog X.w) X (fun _ _ _ => False) := fun pins σ H s e s' I c => passAt (W := fun _ _ _ _ => False) takes0 σ pins H s e s' I c
  refine ⟨peImp (pe_make0 h4 h6 hr hg h3 h5 .nil hx hdb) fun s H Q ⟨m, r, S, W, hE, hS, hw, hf⟩ x dx hx hdx hne => ?_⟩
  have hx1 : (upd H dx (.own x)) x = none := by rw [upd_ne (Ne.symm hne)]; exact hx
  have g1 : Grow m H m (upd H dx (.own x)) := Grow.alloc hdx
  have g2 : Grow m H (m ++ [x]) (upd (upd H dx (.own x)) x (.ins Ca dx [])) := g1.trans (Grow.push hx1 (Grow.alloc hx1))
  have r1 := hS.alloc (o := .own x) hdx
  have r2 := (r1.alloc (o := .ins Ca dx []) hx1).pushO (r1.notmem hx1) (o := .ob x C []) ⟨rfl, Ca, dx, [], h2, upd_same, .nil⟩
  exact ⟨m ++ [x], [.ad x], _, _, _, rfl, ⟨_, _, rfl, rfl, rfl⟩, r2, hw x, fun y S' v m' H' ⟨hy, hw'⟩ g' r' q' => ⟨by subst hy; exact q', hf _ S' _ m' H' hw' (g2.trans g') r' rfl⟩, fun _ _ _ _ _ h => h.elim⟩
end
/-! ### the defs of a class -/
section
variable {P : Program} {w : World} {K : PySem.W.Frag} {mg : Str → Option Value} {base : Heap}
theorem fnq_ok {x q : Str} {st : Stmt} {f : Addr} {fd : FuncData} {N ps : List Str} {k : Nat} {wb : PX1} {sp : SpW} (F : Fun K x q st f fd) (sc : FnScope N ps (defScope st))
    (hbody : ∀ (cdv : Value) (A : Around) (outer : List Env) (s : Shared) (H : Hp) (E : XK), Room k (A.deeper (envOfC q (defScope st) s.heap.objs.size f cdv)) →
      Takes (cxOf (L2.CX P w) P w K mg base N q (defScope st) f cdv A outer s H E) (fun cls d _ H => E cls d H) →
      PassesOwn (model P w) (A.deeper (envOfC q (defScope st) s.heap.objs.size f cdv)) (envOfC q (defScope st) s.heap.objs.size f cdv) (cxOf (L2.CX P w) P w K mg base N q (defScope st) f cdv A outer s H E).xe →
      WXs (cxOf (L2.CX P w) P w K mg base N q (defScope st) f cdv A outer s H E) (fun cls d _ H => E cls d H) (defBody st) wb)
    (hread : ∀ rs S W XW, rs.length = ps.length → sp rs S W XW → wb { n := { nx := fun _ S1 => W (.d .non) S1, rt := W }, ex := fun x _ S1 => XW x S1 } (start1 N.length rs) S) : FnOk P w K mg base (L2.CX P w) (k + 1) f fd ps (liftW K ps.length sp) := by
  refine F.okX sc (fun vs H Q E ⟨m, rs, S, W, XW, hl, q, _⟩ => (RepRs.len q).trans hl) fun cdv A outer s H vs Q E hr ⟨m, rs, S, W, XW, hl, q, hS, hsp, hf, hxx⟩ => ⟨_, (hbody cdv A outer s H E hr (takes_of rfl rfl rfl rfl) PassesOwn.leaving).pss, ?_⟩
  refine ⟨m, start1 N.length rs, S, _, ?_, hS, hread rs S W XW hl hsp, ⟨fun r' S' s' m' H' n g e q' => hf _ S' .non m' H' n g q' rfl, fun y S' v m' H' n g q' w' => hf y S' v m' H' n g q' w', fun _ _ _ _ _ n => n.elim, fun _ _ _ _ _ n => n.elim⟩, fun x C r' S' m' H' s' h c g e q' => hxx x C S' m' H' h c g q'⟩
  refine ⟨?_, fun i y e => ?_⟩
  · unfold L2.start Z.start1
    simp [RepRs.len q]
  · unfold start1 at e
    by_cases hi : i < rs.length
    · rw [List.getElem?_append_left (by simpa using hi), List.getElem?_map, Option.map_eq_some_iff] at e
      obtain ⟨z, e1, e2⟩ := e
      cases e2
      obtain ⟨v, h1, h2⟩ := RepRs.get q e1
      refine ⟨v, ?_, h2⟩
      unfold L2.start
      rw [List.getElem?_append_left (by rw [List.length_map, RepRs.len q]; exact hi), List.getElem?_map, h1]
      rfl
    · rw [List.getElem?_append_right (by simpa using hi)] at e
      rw [List.getElem?_replicate] at e
      split at e <;> cases e
/-- a method as it stands behind the top -/
structure MethAt (K : PySem.W.Frag) (C m q : Str) (st : Stmt) (ps : List Str) : Prop where
  ex : ∃ Ca f fd, ClsN K C Ca ∧ Cls K Ca ∧ Meth K Ca m f ∧ Fun K m q st f fd ∧ Binds K fd ps []
/-- .. __init__ of a class that may be made -/
structure InitAt (K : PySem.W.Frag) (mg : Str → Option Value) (C q : Str) (st : Stmt) (ps : List Str) : Prop where
  ex : ∃ Ca f fd, ClsN K C Ca ∧ mg C = some (.ref Ca) ∧ Mk K Ca f ∧ Fun K "__init__" q st f fd ∧ Binds K fd ps []
theorem cls_mk {Ca : Addr} (pg : PySem.W.plainGet K Ca Str.empty = true) (hd : PySem.W.hasDictIn K Ca = true) (po : PySem.W.plainOver K Ca = true) (sa : PySem.W.findIn K (.ref Ca) "__setattr__" = some (some (.builtin "object.__setattr__"))) : Cls K Ca := ⟨pg, hd, po, sa⟩
theorem MethAt.mk' {C m q : Str} {st : Stmt} {ps : List Str} {Ca f : Addr} {oc : Value} {od an : Option Addr} {osl : Array (Option Value)} {kV doc pm cdv ct : Value}
    (aC : PySem.W.nsIn K mainGlobals C = some (some (.ref Ca))) (cl : Cls K Ca) (a : PySem.W.findIn K (.ref Ca) m = some (some (.ref f))) (i : PySem.W.isFn K (.ref f) = true)
    (l : K.lookup f = some ⟨oc, od, .func (PySem.W.fnOf m q (defArgs st) (defBody st) (defScope st) .none kV doc pm an cdv ct), osl⟩) (c : PySem.W.codeIn K cdv q = true) (k : PySem.W.keepIn K (.ref f) = true)
    (b : ∀ (kV doc pm : Value) (an : Option Addr) (cdv ct : Value) (us : List Value), us.length = ps.length → bindArgs (PySem.W.fnOf m q (defArgs st) (defBody st) (defScope st) .none kV doc pm an cdv ct) ⟨us, []⟩ = pure (ps.zip us)) : MethAt K C m q st ps :=
  have F := fun_mk (st := st) l c k
  ⟨Ca, f, _, aC, cl, ⟨a, i, k⟩, F, F.binds b⟩
theorem InitAt.mk' {h : Heap} {C q : Str} {st : Stmt} {ps : List Str} {Ca f : Addr} {oc : Value} {od an : Option Addr} {osl : Array (Option Value)} {kV doc pm cdv ct : Value} (X : K.In h) (G : h.Ns mainGlobals mg)
    (aC : PySem.W.nsIn K mainGlobals C = some (some (.ref Ca))) (mk : PySem.W.makesIn K Ca = true) (kc : PySem.W.keepIn K (.ref Ca) = true) (a : PySem.W.findIn K (.ref Ca) "__init__" = some (some (.ref f))) (i : PySem.W.isFn K (.ref f) = true)
    (l : K.lookup f = some ⟨oc, od, .func (PySem.W.fnOf "__init__" q (defArgs st) (defBody st) (defScope st) .none kV doc pm an cdv ct), osl⟩) (c : PySem.W.codeIn K cdv q = true) (k : PySem.W.keepIn K (.ref f) = true)
    (b : ∀ (kV doc pm : Value) (an : Option Addr) (cdv ct : Value) (us : List Value), us.length = ps.length → bindArgs (PySem.W.fnOf "__init__" q (defArgs st) (defBody st) (defScope st) .none kV doc pm an cdv ct) ⟨us, []⟩ = pure (ps.zip us)) : InitAt K mg C q st ps :=
  have F := fun_mk (st := st) l c k
  ⟨Ca, f, _, aC, PySem.W.mg_of X G aC, ⟨mk, a, i, kc⟩, F, F.binds b⟩
theorem MethAt.fnm {C m q : Str} {st : Stmt} {N ps : List Str} {k : Nat} {wb : PX1} {sp : SpW} (d : MethAt K C m q st ps) (sc : FnScope N ps (defScope st))
    (hbody : ∀ (f : Addr) (cdv : Value) (A : Around) (outer : List Env) (s : Shared) (H : Hp) (E : XK), Room k (A.deeper (envOfC q (defScope st) s.heap.objs.size f cdv)) →
      Takes (cxOf (L2.CX P w) P w K mg base N q (defScope st) f cdv A outer s H E) (fun cls d _ H => E cls d H) →
      PassesOwn (model P w) (A.deeper (envOfC q (defScope st) s.heap.objs.size f cdv)) (envOfC q (defScope st) s.heap.objs.size f cdv) (cxOf (L2.CX P w) P w K mg base N q (defScope st) f cdv A outer s H E).xe →
      WXs (cxOf (L2.CX P w) P w K mg base N q (defScope st) f cdv A outer s H E) (fun cls d _ H => E cls d H) (defBody st) wb)
    (hread : ∀ rs S W XW, rs.length = ps.length → sp rs S W XW → wb { n := { nx := fun _ S1 => W (.d .non) S1, rt := W }, ex := fun x _ S1 => XW x S1 } (start1 N.length rs) S) : FnM P w K mg base (k + 1) C m ps.length sp := by
  obtain ⟨Ca, f, fd, h1, h2, h3, F, hb⟩ := d.ex
  exact ⟨Ca, f, fd, ps, rfl, h1, h2, h3, hb, fnq_ok F sc (hbody f) hread⟩
theorem InitAt.fnk {C q x0 : Str} {st : Stmt} {N : List Str} {k : Nat} {wb : PX1} {sp : SpW} (d : InitAt K mg C q st [x0]) (sc : FnScope N [x0] (defScope st))
    (hbody : ∀ (f : Addr) (cdv : Value) (A : Around) (outer : List Env) (s : Shared) (H : Hp) (E : XK), Room k (A.deeper (envOfC q (defScope st) s.heap.objs.size f cdv)) →
      Takes (cxOf (L2.CX P w) P w K mg base N q (defScope st) f cdv A outer s H E) (fun cls d _ H => E cls d H) →
      PassesOwn (model P w) (A.deeper (envOfC q (defScope st) s.heap.objs.size f cdv)) (envOfC q (defScope st) s.heap.objs.size f cdv) (cxOf (L2.CX P w) P w K mg base N q (defScope st) f cdv A outer s H E).xe →
      WXs (cxOf (L2.CX P w) P w K mg base N q (defScope st) f cdv A outer s H E) (fun cls d _ H => E cls d H) (defBody st) wb)
    (hread : ∀ rs S W XW, rs.length = 1 → sp rs S W XW → wb { n := { nx := fun _ S1 => W (.d .non) S1, rt := W }, ex := fun x _ S1 => XW x S1 } (start1 N.length rs) S) : FnK P w K mg base (k + 1) C sp := by
  obtain ⟨Ca, f, fd, h1, h2, h3, F, hb⟩ := d.ex
  exact ⟨Ca, f, fd, [x0], rfl, h1, h2, h3, hb, fnq_ok (ps := [x0]) F sc (hbody f) hread⟩
end
/-! ### a constant of the module: a tuple of tuples of whole numbers -/
abbrev TupI (K : PySem.W.Frag) (b : Addr) (ns : List Int) : Prop := ∃ (od : Option Addr) (its : Array Value) (n : Nat) (osl : Array (Option Value)), K.lookup b = some ⟨.type "tuple", od, .seq its n, osl⟩ ∧ its.size ≤ sizeLine ∧ Vals (ns.map V.int) its.toList
theorem TupI.mk {K : PySem.W.Frag} {b : Addr} {ns : List Int} {od : Option Addr} {its : Array Value} {n : Nat} {osl : Array (Option Value)} (l : K.lookup b = some ⟨.type "tuple", od, .seq its n, osl⟩) (z : its.size ≤ sizeLine) (v : Vals (ns.map V.int) its.toList) : TupI K b ns := ⟨od, its, n, osl, l, z, v⟩
inductive RowsOf (K : PySem.W.Frag) : List Value → List (List Int) → Prop
  | nil : RowsOf K [] []
  | cons {b : Addr} {us : List Value} {ns : List Int} {nss : List (List Int)} : TupI K b ns → RowsOf K us nss → RowsOf K (.ref b :: us) (ns :: nss)
theorem RowsOf.vals {K : PySem.W.Frag} : ∀ {us : List Value} {nss : List (List Int)}, RowsOf K us nss → ∃ vs, Vals vs us ∧ ∀ H, RepDs K H (nss.map fun ns => D.tup (ns.map D.int)) vs
  | _, _, .nil => ⟨[], .nil, fun _ => rfl⟩
  | _, _, .cons (b := b) (ns := ns) h t => by
    obtain ⟨vs, h1, h2⟩ := t.vals
    obtain ⟨od', its', n', osl', l', hz', hv'⟩ := h
    exact ⟨.ref b :: vs, .cons rfl h1, fun H => ⟨_, _, rfl, ⟨b, _, rfl, .inr ⟨_, its', n', l', rfl, rfl, hz', hv'⟩, RepDs.ints ns⟩, h2 H⟩⟩
theorem ConAt.rows {K : PySem.W.Frag} {mg : Str → Option Value} {h : Heap} {x : Str} {a : Addr} {od : Option Addr} {its : Array Value} {n : Nat} {osl : Array (Option Value)} {nss : List (List Int)} (KX : K.In h) (G : h.Ns mainGlobals mg)
    (e : PySem.W.nsIn K mainGlobals x = some (some (.ref a))) (l : K.lookup a = some ⟨.type "tuple", od, .seq its n, osl⟩) (hz : its.size ≤ sizeLine) (hv : RowsOf K its.toList nss) : ConAt K mg x (.tup (nss.map fun ns => D.tup (ns.map D.int))) := by
  obtain ⟨vs, h1, h2⟩ := hv.vals
  exact ⟨.ref a, .ref a, PySem.W.mg_of KX G e, rfl, fun H => ⟨a, vs, rfl, .inr ⟨_, its, n, l, rfl, rfl, hz, h1⟩, h2 H⟩⟩
end Z
set_option Elab.async false
set_option linter.all false
set_option maxRecDepth 100000
/-! Z34: lists of data at places: slices, sums, copies. -/
namespace Z
open PySem PySem.Spec PyProof.Rows L2 RZ
theorem RepRs.ds {K : PySem.W.Frag} {m : List Addr} {H : Hp} : ∀ {xs : List D} {vs : List V}, RepRs K m H (xs.map R.d) vs → RepDs K H xs vs
  | [], _, h => h
  | _ :: _, _, ⟨v, r, e, h, t⟩ => ⟨v, r, e, h, RepRs.ds t⟩
theorem RepS.laD {K : PySem.W.Frag} {m : List Addr} {H : Hp} {S : Sto} {n : Nat} {a : Addr} {xs : List D} (r : RepS K m H S) (e : S[n]? = some (O.la a (xs.map R.d))) : ∃ vs, H a = some (.lst vs) ∧ RepDs K H xs vs := by
  obtain ⟨vs, _, h2, h3⟩ := r.la e
  exact ⟨vs, h2, h3.ds⟩
section
variable {X : Cx} {e a b : Expr} {es : List Expr} {pos p2 : Pos} {we wa wb : PE1} {was : PA1}
/-- x[lo:hi] of a list of data at a place -/
abbrev wSlA (wa : PE1) (wl wh : Rho → Sto → (Option Int → Sto → Prop) → Prop) : PE1 := fun r S W => wa r S fun x S1 => wl r S1 fun lo S2 => wh r S2 fun hi S3 => match x with
  | .r (.ad a) => ∃ (n : Nat) (xs : List D), S3[n]? = some (O.la a (xs.map R.d)) ∧ W (.f (cutD xs lo hi)) S3
  | _ => False
theorem we_slA {lo hi : Option Expr} {wl wh : Rho → Sto → (Option Int → Sto → Prop) → Prop} (ha : WE X a wa) (hl : WO X lo wl) (hh : WO X hi wh) : WE X (.Subscript a (.Slice lo hi none p2) pos) (wSlA wa wl wh) := by
  refine ⟨peImp (pe_slice (sl_list.or sl_tupA) ha.pe hl.po hh.po) fun s H Q ⟨m, ρ, S, W, hE, hS, hw, hf⟩ => up1 hE hS hw fun x S1 v m1 H1 h1 g1 r1 q1 => ?_⟩
  refine ⟨m1, ρ, S1, _, hE.grow g1, r1, h1, fun lo S2 m2 H2 h2 g2 r2 => ⟨m2, ρ, S2, _, (hE.grow g1).grow g2, r2, h2, fun hi S3 m3 H3 h3 g3 r3 => ?_⟩⟩
  split at h3
  · rename_i a
    obtain ⟨n, xs, e1, h3⟩ := h3
    cases (show v = V.ref a from q1)
    obtain ⟨vs, k2, k3⟩ := r3.laD e1
    exact .inl ⟨a, vs, rfl, .inl (.inl k2), (hf.later ((g1.trans g2).trans g3) r3).lst r3 (k3.cut lo hi) h3⟩
  · exact h3.elim
/-- list(x) of a list of data at a place -/
abbrev fListA : PF := fun xs S W => match xs with
  | [.r (.ad a)] => ∃ (n : Nat) (ys : List D), S[n]? = some (O.la a (ys.map R.d)) ∧ W (.f ys) S
  | _ => False
theorem f_listA : FnP X (.type "list") fListA := by
  refine ⟨_, call_list_of, fun xs S W vs m H H0 Q r q w f => ?_⟩
  unfold fListA at w
  split at w
  · rename_i a
    obtain ⟨n, ys, e, w⟩ := w
    obtain ⟨v, rfl, q1⟩ := q.one
    cases (show v = V.ref a from q1)
    obtain ⟨us, h1, h2⟩ := r.laD e
    exact ⟨a, us, rfl, .inl (.inl (.inl h1)), f.lst r h2 w⟩
  · exact w.elim
/-- x + [..], x a list of data at a place -/
abbrev pCatA : P2 := fun x y S W => match x, wrL y, seqOf S y with
  | .r (.ad a), true, some ys => ∃ (n : Nat) (xs : List D), S[n]? = some (O.la a (xs.map R.d)) ∧ xs.length + ys.length ≤ 16777216 ∧ W (.f (xs ++ ys)) S
  | _, _, _ => False
theorem o_catA : OpP X (binaryOp .Add) pCatA := by
  refine ⟨_, op_cat, fun x y S W v u m H H0 Q r qx qy w f => ?_⟩
  unfold pCatA at w
  split at w
  · rename_i a ys e0 e2
    obtain ⟨n, xs, e1, hl, w⟩ := w
    cases (show v = V.ref a from qx)
    obtain ⟨vs, h2, h1⟩ := r.laD e1
    obtain ⟨b, us, rfl, h3, h4⟩ := qy.lst r e2 (wrL_of e0).1 (wrL_of e0).2
    exact ⟨a, b, vs, us, rfl, rfl, h2, h4, by rw [h1.len, h3.len, sizeLine_eq]; exact hl, f.lst r (h1.app h3) w⟩
  · exact w.elim
end
end Z
set_option Elab.async false
set_option linter.all false
set_option maxRecDepth 100000
set_option exponentiation.threshold 20000
/-! R57: chains of joints (k84 and its like). -/
namespace Z
open PySem PySem.Spec PyProof.Rows L2 RZ
/-- the fields of a chain -/
def chF (a b h : Addr) : List (Str × R) := [(("rows" : Str), R.ad a), (("behind" : Str), R.ad b), (("ahead" : Str), R.ad h)]
section
variable {a b h x : Addr}
theorem chF_len : (chF a b h).length = 3 := rfl
theorem chF_rows : (chF a b h).lookup ("rows" : Str) = some (.ad a) := by
  unfold chF; rw [List.lookup, show (("rows" : Str) == ("rows" : Str)) = true by decide +kernel]
theorem chF_behind : (chF a b h).lookup ("behind" : Str) = some (.ad b) := by
  unfold chF; rw [List.lookup, show (("behind" : Str) == ("rows" : Str)) = false by decide +kernel]; simp only
  rw [List.lookup, show (("behind" : Str) == ("behind" : Str)) = true by decide +kernel]
theorem chF_ahead : (chF a b h).lookup ("ahead" : Str) = some (.ad h) := by
  unfold chF; rw [List.lookup, show (("ahead" : Str) == ("rows" : Str)) = false by decide +kernel]; simp only
  rw [List.lookup, show (("ahead" : Str) == ("behind" : Str)) = false by decide +kernel]; simp only
  rw [List.lookup, show (("ahead" : Str) == ("ahead" : Str)) = true by decide +kernel]
theorem chF_no {m : Str} (h1 : (m == ("rows" : Str)) = false) (h2 : (m == ("behind" : Str)) = false) (h3 : (m == ("ahead" : Str)) = false) : (chF a b h).lookup m = none := by
  unfold chF; rw [List.lookup, h1]; simp only
  rw [List.lookup, h2]; simp only
  rw [List.lookup, h3]; rfl
theorem putR_1 : putR "rows" (.ad a) [] = [(("rows" : Str), R.ad a)] := rfl
theorem putR_2 : putR "behind" (.ad b) [(("rows" : Str), R.ad a)] = [(("rows" : Str), R.ad a), (("behind" : Str), R.ad b)] := by
  rw [putR, if_neg (by decide +kernel), putR]
theorem putR_3 : putR "ahead" (.ad h) [(("rows" : Str), R.ad a), (("behind" : Str), R.ad b)] = chF a b h := by
  rw [putR, if_neg (by decide +kernel), putR, if_neg (by decide +kernel), putR]; rfl
theorem putR_rows : putR "rows" (.ad x) (chF a b h) = chF x b h := by
  unfold chF; rw [putR, if_pos rfl]
theorem putR_ahead : putR "ahead" (.ad x) (chF a b h) = chF a b x := by
  unfold chF; rw [putR, if_neg (by decide +kernel), putR, if_neg (by decide +kernel), putR, if_pos rfl]
theorem putR_behind : putR "behind" (.ad x) (chF a b h) = chF a x h := by
  unfold chF; rw [putR, if_neg (by decide +kernel), putR, if_pos rfl]
end
/-- a joint: its way, its arm, its setting -/
abbrev Jt := List Int × Pt × List Int
abbrev jtD (j : Jt) : D := .tup [.tup (j.1.map D.int), ptD j.2.1, .tup (j.2.2.map D.int)]
abbrev jsD (js : List Jt) : List D := js.map jtD
/-- the chain at c, with these joints; m: how often it may have been changed; nothing of it that is written stands below k0 -/
structure ChAt (k0 : Nat) (S : Sto) (c : Addr) (js : List Jt) (m : Nat) : Prop where
  ex : ∃ (n nr nb : Nat) (a b h : Addr) (xs : List R), k0 ≤ n ∧ k0 ≤ nb ∧ nr ≠ nb ∧ S[n]? = some (.ob c "Chain" (chF a b h)) ∧ S[nr]? = some (.la a ((jsD js).map R.d)) ∧ S[nb]? = some (.la b xs) ∧ xs.length ≤ m
section
variable {k0 m : Nat} {S S1 : Sto} {c : Addr} {js : List Jt}
theorem get_app' {S Y : Sto} {n : Nat} {o : O} (h : S[n]? = some o) : (S ++ Y)[n]? = some o := by
  rw [List.getElem?_append_left (List.getElem?_eq_some_iff.mp h).1]; exact h
theorem ChAt.app (h : ChAt k0 S c js m) (Y : Sto) : ChAt k0 (S ++ Y) c js m := by
  obtain ⟨n, nr, nb, a, b, h', xs, h1, h2, h3, h4, h5, h6, h7⟩ := h.ex
  exact ⟨n, nr, nb, a, b, h', xs, h1, h2, h3, get_app' h4, get_app' h5, get_app' h6, h7⟩
end
/-- a joint as it is drawn: its way, its arm, its setting's two numbers -/
abbrev Jr := List Int × Pt × Int × Int
structure OkJr (j : Jr) : Prop where
  len : j.1.length = 3
  nz : ∃ x ∈ j.1, x ≠ 0
  bd : ∀ x ∈ j.1, Bd 31 x
  arm : ∀ q ∈ qsOf j.2.1, Bd 40 q.num ∧ Bd 7 (q.den : Int)
  snz : ∃ n ∈ [j.2.2.1, j.2.2.2], n ≠ 0
  sb1 : Bd 31 j.2.2.1
  sb2 : Bd 31 j.2.2.2
  spl : pset j.2.2.1 j.2.2.2 = [j.2.2.1, j.2.2.2]
theorem pset_two (k l : Int) : ∃ u v, pset k l = [u, v] := ⟨_, _, pset_eq k l⟩
theorem pset_nzJ {k l u v : Int} (h : ∃ n ∈ [k, l], n ≠ 0) (e : pset k l = [u, v]) : ∃ n ∈ [u, v], n ≠ 0 := by
  have := pln_nz (nz_swap h)
  obtain ⟨x, hx, h0⟩ := this
  refine ⟨x, ?_, h0⟩
  rw [← e]; unfold pset
  simpa using hx
theorem pset_bdJ {n : Nat} {k l u v : Int} (h : ∃ n ∈ [k, l], n ≠ 0) (bk : Bd n k) (bl : Bd n l) (e : pset k l = [u, v]) : Bd n u ∧ Bd n v := by
  have b := pln_bds (ns := [l, k]) (n := n) (nz_swap h) (fun x hx => by
    simp only [List.mem_cons, List.not_mem_nil, or_false] at hx
    rcases hx with rfl | rfl
    · exact bl
    · exact bk)
  have m : ∀ x ∈ [u, v], Bd n x := fun x hx => b x (by rw [← e] at hx; unfold pset at hx; simpa using hx)
  exact ⟨m u (by simp), m v (by simp)⟩
end Z
set_option Elab.async false
set_option linter.all false
set_option maxRecDepth 100000
/-! Z35: dicts at places. -/
namespace Z
open PySem PySem.Spec PyProof.Rows L2 RZ
section
variable {X : Cx}
/-- {}, at a place -/
abbrev wDaN : PE1 := fun r S W => ∀ a, W (.r (.ad a)) (S ++ [.da a []])
theorem we_daN {pos : Pos} : WE X (.Dict [] [] pos) wDaN := ⟨peImp pe_dnewK fun s H Q ⟨m, r, S, W, hE, hS, hw, hf⟩ p hp => by
  have g : Grow m H (m ++ [p]) (upd H p (.dK [])) := Grow.push hp (Grow.alloc hp)
  exact hf _ _ _ _ _ (hw p) g ((hS.alloc hp).pushO (hS.notmem hp) ⟨rfl, [], upd_same, .nil⟩) rfl⟩
end
end Z
set_option Elab.async false
set_option linter.all false
set_option maxRecDepth 100000
set_option maxHeartbeats 1000000
/-! Z36: zip of a list and a tuple (Z25 turned round). -/
namespace Z
open PySem PySem.Spec PyProof.Rows L2 RZ
section
variable {X : Cx} {e e2 : Expr} {ws : PA1} {pos : Pos}
/-- zip(list, tuple) -/
abbrev wZipN (ws : PA1) : PI1 := fun r S W => ws r S fun xs S1 => match xs with
  | [x, .r (.d (.tup ys))] => match itOf S1 x with
    | some j => (isLst x = true ∧ allD j.items = true) ∧ W ⟨prs j.items (ys.map R.d), j.chk⟩ S1
    | none => False
  | _ => False
end
end Z
set_option Elab.async false
set_option linter.all false
set_option maxRecDepth 100000
set_option maxHeartbeats 1000000
/-! Z37: zip of two rows of any kinds. -/
namespace Z
open PySem PySem.Spec PyProof.Rows L2 RZ
section
variable {X : Cx} {e e2 : Expr} {ws : PA1} {pos : Pos}
abbrev wZipY (ws : PA1) : PI1 := fun r S W => ws r S fun xs S1 => match xs with
  | [x, y] => match itOf S1 x, itOf S1 y with
    | some i, some j => (allD i.items = true ∧ allD j.items = true) ∧ W ⟨prs i.items j.items, fun S => i.chk S ∧ j.chk S⟩ S1
    | _, _ => False
  | _ => False
end
end Z
set_option Elab.async false
set_option linter.all false
set_option maxRecDepth 100000
/-! Z38: tuple * int, the number 1 too (the very tuple). -/
namespace L2
open PySem PySem.Spec PyProof.Rows
theorem tuple_mul1 (l : Addr) (items : Array Value) (n : Nat) (dd : Option Addr) (sl : Array (Option Value)) (u : Tok) (hi : items.isEmpty = false) :
    Meets (Builtin.«tuple.__mul__» ⟨[.ref l, .int 1 u], []⟩) (fun _ R s => s.heap.get? l = some { cls := .type "tuple", dict := dd, data := .seq items n, slots := sl } ∧ R (.ok (.ret (Value.ref l))) s) :=
  .of_wp fun prog w A R s h => by
    obtain ⟨hp, g, d, tk, os⟩ := s
    obtain ⟨hl, h⟩ := h
    have f1 := AutoSeq1.idx_int
    have c0 : (decide ((1 : Int) < -(2 ^ 63)) || decide ((1 : Int) ≥ 2 ^ 63)) = false := by decide
    have c1 : (items.isEmpty || (1 : Int) == 1) = true := by rw [hi]; rfl
    wp_walk using wpAny_loadPart' hl
    repeat (first
      | (refine wpAny_ite_false (decide_eq_false (by rw [c0]; exact Bool.false_ne_true)) ?_; wp_walk using wpAny_loadPart' hl)
      | (refine wpAny_ite_true (decide_eq_true (by rw [c1])) ?_; wp_walk using wpAny_loadPart' hl))
    exact ⟨_, rfl, h⟩
def rRepT1 (K : PySem.W.Frag) : R2 := fun x y H Q => ∃ l xs, x = .ref l ∧ y = .int 1 ∧ SqT K H l xs ∧ xs ≠ [] ∧ Q (.ref l) H
theorem op_repT1 {X : Cx} : OpR X (binaryOp .Mult) (rRepT1 X.K) := by
  intro pins s σ H x y v u Q I rx ry h
  obtain ⟨l, xs, rfl, rfl, hT, hne, q⟩ := h
  cases rx
  obtain ⟨t, rfl⟩ := ry
  obtain ⟨its, r, ⟨⟨cls, dd, data, sl⟩, ho, hc, n, hd⟩, hs⟩ := I.tuple hT
  simp only at hc hd
  subst hc hd
  have hle : its.length = xs.length := r.length.symm
  have hn : its ≠ [] := fun e => hne (by
    rw [e] at hle
    exact List.eq_nil_of_length_eq_zero hle.symm)
  have hi : its.toArray.isEmpty = false := by
    cases its with
    | nil => exact absurd rfl hn
    | cons a b => rfl
  refine wpAny_binaryOp_repeat_ref (T := "tuple") (U := "int") (by decide) ⟨_, ho, rfl⟩ (fun s' => typeIs_int s' 1 t) noFill_tuple_mul F.fills_int_mul F.slot_int_rmul repeat_tuple F.slot_int_index.lookup
    (call_meets F.slot_int_rmul (typeIs_int s 1 t) F.entry_int_rmul (F.args_int_rmul_2 _ _) (int_rmul_tuple 1 t l its.toArray n dd sl)
      ⟨ho, rfl, ⟨_, ho, rfl⟩, call_meets F.slot_tuple_mul ⟨_, ho, rfl⟩ F.entry_tuple_mul (F.args_tuple_mul_2 _ _) (tuple_mul1 l its.toArray n dd sl t hi) ⟨ho, ?_⟩⟩)
  exact ⟨.ref l, H, I, rfl, q⟩
end L2
namespace Z
open PySem PySem.Spec PyProof.Rows L2 RZ
section
variable {X : Cx}
abbrev pRepY : P2 := fun x y S W => match x, y with
  | .r (.d (.tup xs)), .r (.d (.int k)) => 1 ≤ xs.length ∧ (k = 1 ∨ 2 ≤ k ∧ k ≤ 1000 ∧ xs.length ≤ 1000) ∧ W (.r (.d (.tup (List.replicate k.toNat xs).flatten))) S
  | _, _ => False
theorem o_repY : OpP X (binaryOp .Mult) pRepY := by
  refine ⟨_, OpR.or op_repT op_repT1, fun x y S W v u m H H0 Q r qx qy w f => ?_⟩
  unfold pRepY at w
  split at w
  · rename_i xs k
    obtain ⟨a, vs, rfl, h1, h2⟩ := qx
    have hl := h2.len
    obtain ⟨w1, w2, w⟩ := w
    have ne : vs ≠ [] := fun e => by rw [e] at hl; simp at hl; omega
    rcases w2 with rfl | ⟨w2, w3, w4⟩
    · have e : (List.replicate (1 : Int).toNat xs).flatten = xs := by simp
      rw [e] at w
      exact .inr ⟨a, vs, rfl, qy, h1, ne, f.here r (x := svt xs) ⟨a, vs, rfl, h1, h2⟩ w⟩
    · exact .inl ⟨a, k, vs, rfl, qy, h1, ne, w2, w3, by omega, f.tup r (RepDs.rep h2 k.toNat) w⟩
  · exact w.elim
end
end Z
set_option Elab.async false
set_option linter.all false
set_option maxRecDepth 100000
set_option exponentiation.threshold 20000
/-! R58: bodies (k86 and its like). -/
namespace Z
open PySem PySem.Spec PyProof.Rows L2 RZ
def bdF (x : D) (k b h : Addr) : List (Str × R) := [(("here" : Str), R.d x), (("kept" : Str), R.ad k), (("behind" : Str), R.ad b), (("ahead" : Str), R.ad h)]
section
variable {x z : D} {k b h y : Addr}
theorem bdF_len : (bdF x k b h).length = 4 := rfl
theorem s_hh : ((("here" : Str)) == ("here" : Str)) = true := by decide +kernel
theorem s_kh : ((("kept" : Str)) == ("here" : Str)) = false := by decide +kernel
theorem s_kk : ((("kept" : Str)) == ("kept" : Str)) = true := by decide +kernel
theorem s_bh : ((("behind" : Str)) == ("here" : Str)) = false := by decide +kernel
theorem s_bk : ((("behind" : Str)) == ("kept" : Str)) = false := by decide +kernel
theorem s_bb : ((("behind" : Str)) == ("behind" : Str)) = true := by decide +kernel
theorem bdF_here : (bdF x k b h).lookup ("here" : Str) = some (.d x) := by unfold bdF; rw [List.lookup, s_hh]
theorem bdF_kept : (bdF x k b h).lookup ("kept" : Str) = some (.ad k) := by
  unfold bdF; rw [List.lookup, s_kh]; simp only
  rw [List.lookup, s_kk]
theorem bdF_behind : (bdF x k b h).lookup ("behind" : Str) = some (.ad b) := by
  unfold bdF; rw [List.lookup, s_bh]; simp only
  rw [List.lookup, s_bk]; simp only
  rw [List.lookup, s_bb]
theorem bdF_no {m : Str} (h1 : (m == ("here" : Str)) = false) (h2 : (m == ("kept" : Str)) = false) (h3 : (m == ("behind" : Str)) = false) (h4 : (m == ("ahead" : Str)) = false) : (bdF x k b h).lookup m = none := by
  unfold bdF; rw [List.lookup, h1]; simp only
  rw [List.lookup, h2]; simp only
  rw [List.lookup, h3]; simp only
  rw [List.lookup, h4]; rfl
theorem putB_1 : putR "here" (.d x) [] = [(("here" : Str), R.d x)] := rfl
theorem putB_2 : putR "kept" (.ad k) [(("here" : Str), R.d x)] = [(("here" : Str), R.d x), (("kept" : Str), R.ad k)] := by
  rw [putR, if_neg (by decide +kernel), putR]
theorem putB_3 : putR "behind" (.ad b) [(("here" : Str), R.d x), (("kept" : Str), R.ad k)] = [(("here" : Str), R.d x), (("kept" : Str), R.ad k), (("behind" : Str), R.ad b)] := by
  rw [putR, if_neg (by decide +kernel), putR, if_neg (by decide +kernel), putR]
theorem putB_4 : putR "ahead" (.ad h) [(("here" : Str), R.d x), (("kept" : Str), R.ad k), (("behind" : Str), R.ad b)] = bdF x k b h := by
  rw [putR, if_neg (by decide +kernel), putR, if_neg (by decide +kernel), putR, if_neg (by decide +kernel), putR]; rfl
theorem putB_here : putR "here" (.d z) (bdF x k b h) = bdF z k b h := by unfold bdF; rw [putR, if_pos rfl]
theorem putB_kept : putR "kept" (.ad y) (bdF x k b h) = bdF x y b h := by unfold bdF; rw [putR, if_neg (by decide +kernel), putR, if_pos rfl]
theorem putB_ahead : putR "ahead" (.ad y) (bdF x k b h) = bdF x k b y := by
  unfold bdF; rw [putR, if_neg (by decide +kernel), putR, if_neg (by decide +kernel), putR, if_neg (by decide +kernel), putR, if_pos rfl]
end
abbrev foD (f : List Int) : D := .tup (f.map D.int)
/-- the body at c: where it stands, where it stood -/
structure BdAt (n nb : Nat) (S : Sto) (c : Addr) (f : List Int) (bs : List (List Int)) : Prop where
  ex : ∃ (k b h : Addr) (ps : List (List Int × Addr)), ps.map (·.1) = bs ∧ S[n]? = some (.ob c "Body" (bdF (foD f) k b h)) ∧ S[nb]? = some (.la b (ps.map fun p => R.tr [.d (foD p.1), .ad p.2]))
/-- all stays, but what stands at n and nb -/
def FrO (S S' : Sto) (n nb : Nat) : Prop := ∀ q o, S[q]? = some o → q ≠ n → q ≠ nb → S'[q]? = some o
section
variable {n nb n' nb' : Nat} {S S1 : Sto} {c c' : Addr} {f : List Int} {bs : List (List Int)}
theorem gapp {S Y : Sto} {n : Nat} {o : O} (h : S[n]? = some o) : (S ++ Y)[n]? = some o := by
  rw [List.getElem?_append_left (List.getElem?_eq_some_iff.mp h).1]; exact h
theorem gset {S : Sto} {n k : Nat} {o x : O} (h : S[n]? = some o) (e : k ≠ n) : (S.set k x)[n]? = some o := by
  rw [List.getElem?_set_ne e]; exact h
theorem gput {S : Sto} {n : Nat} {o x : O} (h : S[n]? = some o) : (S.set n x)[n]? = some x := by
  rw [List.getElem?_set_self (List.getElem?_eq_some_iff.mp h).1]
theorem gpre {S S1 : Sto} (h : S1.take S.length = S) {n : Nat} {o : O} (e : S[n]? = some o) : S1[n]? = some o := by
  have l := (List.getElem?_eq_some_iff.mp e).1
  rw [← h, List.getElem?_take_of_lt l] at e; exact e
theorem BdAt.pre (h : BdAt n nb S c f bs) (e : S1.take S.length = S) : BdAt n nb S1 c f bs := by
  obtain ⟨k, b, d, ps, h1, h2, h3⟩ := h.ex
  exact ⟨k, b, d, ps, h1, gpre e h2, gpre e h3⟩
theorem BdAt.fr (h : BdAt n nb S c f bs) (e : FrO S S1 n' nb') (h1 : n ≠ n') (h2 : n ≠ nb') (h3 : nb ≠ n') (h4 : nb ≠ nb') : BdAt n nb S1 c f bs := by
  obtain ⟨k, b, d, ps, e1, e2, e3⟩ := h.ex
  exact ⟨k, b, d, ps, e1, e _ _ e2 h1 h2, e _ _ e3 h3 h4⟩
theorem BdAt.app (h : BdAt n nb S c f bs) (Y : Sto) : BdAt n nb (S ++ Y) c f bs := by
  obtain ⟨k, b, d, ps, e1, e2, e3⟩ := h.ex
  exact ⟨k, b, d, ps, e1, gapp e2, gapp e3⟩
end
theorem frac_self {q : Rat} : (q.num : Rat) / ((q.den : Int) : Rat) = q := by
  obtain ⟨d1, z1, e1, f1⟩ := fr_parts q
  rw [e1, f1, Rat.div_def, Rat.mul_assoc, Rat.mul_inv_cancel _ z1, Rat.mul_one]
end Z
set_option Elab.async false
set_option linter.all false
set_option maxRecDepth 100000
set_option exponentiation.threshold 20000
/-! R59: turns in the room and in the body's own way (k86). -/
namespace Z
open PySem PySem.Spec PyProof.Rows L2 RZ
abbrev P4 (f : List Int) : Prop := f.length = 4 ∧ ∃ x ∈ f, x ≠ 0
theorem P4.one : P4 [1, 0, 0, 0] := ⟨rfl, 1, by simp, by decide⟩
theorem P4.mul {a b : List Int} (h : P4 a) (k : P4 b) : P4 (qmul a b) := ⟨qmul_len h.1 k.1, qmul_nz h.1 k.1 h.2 k.2⟩
theorem P4.pln {a : List Int} (h : P4 a) : P4 (pln a) := ⟨by rw [pln_len]; exact h.1, pln_nz h.2⟩
/-- a deed: in the room (0) or in the body's own way (1) -/
abbrev Dd := Int × List Int
structure OkD (ds : List Dd) : Prop where
  way : ∀ d ∈ ds, d.1 = 0 ∨ d.1 = 1
  p4 : ∀ d ∈ ds, P4 d.2
  bd : ∀ d ∈ ds, ∀ x ∈ d.2, Bd 80 x
theorem OkD.take {ds : List Dd} (h : OkD ds) (i : Nat) : OkD (ds.take i) := ⟨fun d hd => h.way d (List.mem_of_mem_take hd), fun d hd => h.p4 d (List.mem_of_mem_take hd), fun d hd => h.bd d (List.mem_of_mem_take hd)⟩
theorem OkD.app {ds es : List Dd} (h : OkD ds) (k : OkD es) : OkD (ds ++ es) := ⟨fun d hd => (List.mem_append.mp hd).elim (h.way d) (k.way d), fun d hd => (List.mem_append.mp hd).elim (h.p4 d) (k.p4 d), fun d hd => (List.mem_append.mp hd).elim (h.bd d) (k.bd d)⟩
theorem BdAt.put {n nb k : Nat} {S : Sto} {c : Addr} {f : List Int} {bs : List (List Int)} {x : O} (h : BdAt n nb S c f bs) (h1 : k ≠ n) (h2 : k ≠ nb) : BdAt n nb (S.set k x) c f bs := by
  obtain ⟨a, b, d, ps, q1, q2, q3⟩ := h.ex
  exact ⟨a, b, d, ps, q1, gset q2 h1, gset q3 h2⟩
end Z
set_option Elab.async false
set_option linter.all false
set_option maxRecDepth 100000
set_option exponentiation.threshold 20000
/-! R60: where the joints of a chain stand, and which way (k84). -/
namespace Z
open PySem PySem.Spec PyProof.Rows L2 RZ
def abJ (j : Jt) : List Int := match j.2.2 with
  | [k, l] => pln (abt j.1 k l)
  | _ => [1, 0, 0, 0]
def stJ (T : List Int) (j : Jt) : List Int := pln (qmul T (abJ j))
def padd (p q : Pt) : Pt := (p.1 + q.1, p.2.1 + q.2.1, p.2.2 + q.2.2)
def TN (js : List Jt) : Nat → List Int
  | 0 => [1, 0, 0, 0]
  | i + 1 => match js[i]? with
    | some j => stJ (TN js i) j
    | none => TN js i
def PN (js : List Jt) : Nat → Pt
  | 0 => (0, 0, 0)
  | i + 1 => match js[i]? with
    | some j => padd (PN js i) (rot (TN js (i + 1)) j.2.1)
    | none => PN js i
theorem TN_succ {js : List Jt} {i : Nat} {j : Jt} (h : js[i]? = some j) : TN js (i + 1) = stJ (TN js i) j := by
  show (match js[i]? with | some j => stJ (TN js i) j | none => TN js i) = _
  rw [h]
theorem PN_succ {js : List Jt} {i : Nat} {j : Jt} (h : js[i]? = some j) : PN js (i + 1) = padd (PN js i) (rot (TN js (i + 1)) j.2.1) := by
  show (match js[i]? with | some j => padd (PN js i) (rot (TN js (i + 1)) j.2.1) | none => PN js i) = _
  rw [h]
/-- all sizes are fine on the way along the chain -/
structure FrOk (js : List Jt) : Prop where
  st : ∀ (i : Nat) (j : Jt), js[i]? = some j → ∃ k l, j.2.2 = [k, l] ∧ j.1.length = 3 ∧ (∃ x ∈ j.1, x ≠ 0) ∧ (∃ n ∈ [k, l], n ≠ 0) ∧ (∀ x ∈ j.1, Bd 4000 x) ∧ Bd 4000 k ∧ Bd 4000 l ∧ (abJ j).length = 4 ∧ (∃ x ∈ abJ j, x ≠ 0) ∧ (∀ x ∈ abJ j, Bd 4400 x)
  tn : ∀ i, i ≤ js.length → (TN js i).length = 4 ∧ (∃ x ∈ TN js i, x ≠ 0) ∧ ∀ x ∈ TN js i, Bd 4400 x
  tb : ∀ (i : Nat) (j : Jt), js[i]? = some j → TB (TN js (i + 1)) j.2.1
  pn : ∀ (i : Nat) (j : Jt), js[i]? = some j → (∀ q ∈ qsOf (PN js i), BQ 4500 q) ∧ ∀ q ∈ qsOf (rot (TN js (i + 1)) j.2.1), BQ 4500 q
def stL (js : List Jt) (n : Nat) : List D := (List.range n).map fun t => foD (TN js t)
def plL (js : List Jt) (n : Nat) : List D := (List.range n).map fun t => ptD (PN js t)
theorem stL_succ (js : List Jt) (n : Nat) : stL js (n + 1) = stL js n ++ [foD (TN js n)] := by simp [stL, List.range_succ]
theorem plL_succ (js : List Jt) (n : Nat) : plL js (n + 1) = plL js n ++ [ptD (PN js n)] := by simp [plL, List.range_succ]
theorem getI_lastX {xs : List D} {x : D} : getI (xs ++ [x]) (-1) = some x := by
  unfold getI
  rw [if_neg (by decide), if_pos (by simp; omega)]
  have : ((-1 : Int) + ((xs ++ [x]).length : Int)).toNat = xs.length := by simp; omega
  rw [this]; simp
end Z
set_option Elab.async false
set_option linter.all false
set_option maxRecDepth 100000
set_option exponentiation.threshold 20000
/-! R61: the plain law of a chain's bones (k84). -/
namespace Z
open PySem PySem.Spec PyProof.Rows L2 RZ
/-- all turns of a chain are turns -/
abbrev GJ (js : List Jt) : Prop := ∀ (i : Nat) j, js[i]? = some j → P4 (abJ j)
theorem TN_p4 {js : List Jt} (h : GJ js) : ∀ i, P4 (TN js i)
  | 0 => P4.one
  | i + 1 => by
    cases e : js[i]? with
    | none =>
      have : TN js (i + 1) = TN js i := by
        show (match js[i]? with | some j => stJ (TN js i) j | none => TN js i) = _
        rw [e]
      rw [this]; exact TN_p4 h i
    | some j => rw [TN_succ e]; exact ((TN_p4 h i).mul (h i j e)).pln
theorem rot_TN {js : List Jt} {i : Nat} {j : Jt} (h : GJ js) (e : js[i]? = some j) (q : Pt) : rot (TN js (i + 1)) q = rot (TN js i) (rot (abJ j) q) := by
  have p := TN_p4 h i
  have k := h i j e
  rw [TN_succ e]
  unfold stJ
  rw [rot_pln (p.mul k).1 (p.mul k).2, rot_comp k.1 p.1]
theorem GJ.drop {js : List Jt} (h : GJ js) (n : Nat) : GJ (js.drop n) := fun i j e => by
  rw [List.getElem?_drop] at e
  exact h (n + i) j e
end Z
set_option Elab.async false
set_option linter.all false
set_option maxRecDepth 100000
set_option exponentiation.threshold 20000
/-! R62: sizes on the way along a chain (k84). -/
namespace Z
open PySem PySem.Spec PyProof.Rows L2 RZ
theorem Tp.scale {m n : Nat} {B C : Int} {q : Rat} (h : Tp m B q) (b0 : B ≠ 0) (c0 : C ≠ 0) (hc : Bd n C) : Tp (m + n) (B * C) q := by
  obtain ⟨t, e, b⟩ := h.ex
  refine ⟨t * C, ?_, b.mul hc⟩
  have b1 : (B : Rat) ≠ 0 := by exact_mod_cast b0
  have c1 : (C : Rat) ≠ 0 := by exact_mod_cast c0
  have h1 := Rat.mul_inv_cancel _ b1
  have h2 := Rat.mul_inv_cancel _ c1
  rw [e]
  simp only [Rat.div_def, Rat.intCast_mul, Rat.inv_mul_rev]
  generalize (B : Rat)⁻¹ = i at *
  generalize (C : Rat)⁻¹ = k at *
  grind
theorem Tp.zero {m : Nat} {B : Int} : Tp m B 0 := ⟨0, by simp [Rat.div_def], Bd.zero⟩
theorem BQ.parts {m n : Nat} {t b : Int} (hb : b ≠ 0) (h1 : Bd m t) (h2 : Bd n b) (hm : m ≤ 40 := by decide) : Bd 40 ((t : Rat) / (b : Rat)).num ∧ Bd n ((((t : Rat) / (b : Rat)).den : Nat) : Int) := by
  rw [← Rat.divInt_eq_div]
  simp only [bd_iff] at *
  rw [Rat.num_divInt, Rat.den_divInt, if_neg hb]
  refine ⟨?_, ?_⟩
  · refine Nat.lt_of_le_of_lt (Int.natAbs_ediv_le_natAbs _ _) ?_
    rw [Int.natAbs_mul]
    have : b.sign.natAbs = 1 := Int.natAbs_sign_of_ne_zero hb
    rw [this, Nat.one_mul]; exact Nat.lt_of_lt_of_le h1 (Nat.pow_le_pow_right (by decide) hm)
  · simp only [Int.natAbs_natCast]
    exact Nat.lt_of_le_of_lt (Nat.div_le_self _ _) h2
/-- three numbers over one bottom -/
abbrev Tp3 (m : Nat) (B : Int) (p : Pt) : Prop := ∀ q ∈ qsOf p, Tp m B q
theorem qs_mem3 {P : Rat → Prop} {p : Pt} (h1 : P p.1) (h2 : P p.2.1) (h3 : P p.2.2) : ∀ q ∈ qsOf p, P q := fun q hq => by
  simp only [qsOf, List.mem_cons, List.not_mem_nil, or_false] at hq
  rcases hq with rfl | rfl | rfl
  · exact h1
  · exact h2
  · exact h3
theorem Tp3.mono {m n : Nat} {B : Int} {p : Pt} (h : Tp3 m B p) (k : m ≤ n) : Tp3 n B p := fun q hq => (h q hq).mono k
theorem Tp3.padd {m n : Nat} {B : Int} {p q : Pt} (h : Tp3 m B p) (k : Tp3 n B q) : Tp3 (max m n + 1) B (padd p q) :=
  qs_mem3 ((h _ (by simp [qsOf])).add (k _ (by simp [qsOf]))) ((h _ (by simp [qsOf])).add (k _ (by simp [qsOf]))) ((h _ (by simp [qsOf])).add (k _ (by simp [qsOf])))
theorem Tp3.scale {m n : Nat} {B C : Int} {p : Pt} (h : Tp3 m B p) (b0 : B ≠ 0) (c0 : C ≠ 0) (hc : Bd n C) : Tp3 (m + n) (B * C) p := fun q hq => (h q hq).scale b0 c0 hc
/-- a turned point's sizes: the bottom takes the four's size -/
theorem Tp3.rot {m n : Nat} {B : Int} {p : Pt} {a : List Int} (la : a.length = 4) (za : ∃ x ∈ a, x ≠ 0) (ba : ∀ x ∈ a, Bd n x) (h : Tp3 m B p) : Tp3 (m + 2 * n + 4) (B * nrmI a) (rot a p) := by
  have rb := rowsI_bd ba
  obtain ⟨w, x, y, z, rfl⟩ := four_of la
  simp only [rowsI, List.mem_cons, List.not_mem_nil, or_false, forall_eq_or_imp, forall_eq] at rb
  obtain ⟨⟨r1, r2, r3⟩, ⟨r4, r5, r6⟩, ⟨r7, r8, r9⟩⟩ := rb
  obtain ⟨t1, e1, c1⟩ := (h p.1 (by simp [qsOf])).ex
  obtain ⟨t2, e2, c2⟩ := (h p.2.1 (by simp [qsOf])).ex
  obtain ⟨t3, e3, c3⟩ := (h p.2.2 (by simp [qsOf])).ex
  have sum : ∀ {a b c : Int}, Bd (n + n + 2) a → Bd (n + n + 2) b → Bd (n + n + 2) c → Bd (m + 2 * n + 4) (t1 * a + t2 * b + t3 * c) := fun {a b c} k1 k2 k3 => by
    have d1 := (c1.mul k1).lt; have d2 := (c2.mul k2).lt; have d3 := (c3.mul k3).lt
    have e : 2 ^ (m + 2 * n + 4) = 2 ^ (m + (n + n + 2)) * 4 := by rw [show m + 2 * n + 4 = m + (n + n + 2) + 2 by omega, Nat.pow_add]
    refine bd_iff.mpr ?_
    rw [e]; omega
  have en : ((nrmI [w, x, y, z] : Int) : Rat) = nrm w x y z := by simp only [nrmI, nrm, Rat.intCast_add, Rat.intCast_mul]
  refine qs_mem3 ⟨_, ?_, sum r1 r2 r3⟩ ⟨_, ?_, sum r4 r5 r6⟩ ⟨_, ?_, sum r7 r8 r9⟩
  all_goals
    simp only [Z.rot, rotQ, e1, e2, e3, Rat.div_def, Rat.intCast_mul, Rat.inv_mul_rev, en, Rat.intCast_add, Rat.intCast_sub, Rat.intCast_ofNat]
    generalize (nrm (w : Rat) x y z)⁻¹ = i
    generalize (B : Rat)⁻¹ = k
    grind
/-- a joint of the law's chain -/
structure OkJt (j : Jt) : Prop where
  ex : ∃ k l, j.2.2 = [k, l] ∧ (∃ n ∈ [k, l], n ≠ 0) ∧ Bd 31 k ∧ Bd 31 l
  wl : j.1.length = 3
  wz : ∃ x ∈ j.1, x ≠ 0
  wb : ∀ x ∈ j.1, Bd 31 x
  arm : ∀ q ∈ qsOf j.2.1, Bd 40 q.num ∧ Bd 7 (q.den : Int)
structure OkC (cs : List Jt) : Prop where
  len : cs.length ≤ 6
  jt : ∀ j ∈ cs, OkJt j
theorem OkJt.ab {j : Jt} (h : OkJt j) : P4 (abJ j) ∧ ∀ x ∈ abJ j, Bd 62 x := by
  obtain ⟨k, l, e, nz, bk, bl⟩ := h.ex
  have z := abt_nz h.wz nz
  have p : P4 (abt j.1 k l) := ⟨abt_len h.wl k l, z⟩
  unfold abJ
  rw [e]
  exact ⟨p.pln, pln_bds z (abt_bd h.wb bk bl)⟩
theorem OkC.gj {cs : List Jt} (h : OkC cs) : GJ cs := fun i j e => (h.jt j (List.mem_of_getElem? e)).ab.1
theorem OkC.tn {cs : List Jt} (h : OkC cs) : ∀ i, i ≤ cs.length → ∀ x ∈ TN cs i, Bd (65 * i + 1) x
  | 0, _ => by
    intro x hx
    simp only [show TN cs 0 = [1, 0, 0, 0] from rfl, List.mem_cons, List.not_mem_nil, or_false] at hx
    rcases hx with rfl | rfl | rfl | rfl
    · exact Bd.lit (by decide)
    all_goals exact Bd.zero
  | i + 1, hi => by
    have e := List.getElem?_eq_getElem (show i < cs.length by omega)
    have t := TN_p4 h.gj i
    have ok := (h.jt _ (List.mem_of_getElem? e)).ab
    have b := qmul_bd (h.tn i (by omega)) ok.2
    have z := (t.mul ok.1)
    rw [TN_succ e]
    intro x hx
    exact (pln_bds z.2 b x hx).mono (by omega)
/-- the bottoms of all arms -/
def AD : List Jt → Int
  | [] => 1
  | j :: js => ((j.2.1.1.den : Int) * (j.2.1.2.1.den : Int) * (j.2.1.2.2.den : Int)) * AD js
theorem AD_pos : ∀ cs : List Jt, 0 < AD cs
  | [] => by decide
  | j :: js => Int.mul_pos (Int.mul_pos (Int.mul_pos (by have := j.2.1.1.den_pos; omega) (by have := j.2.1.2.1.den_pos; omega)) (by have := j.2.1.2.2.den_pos; omega)) (AD_pos js)
theorem AD_bd : ∀ {cs : List Jt}, (∀ j ∈ cs, OkJt j) → Bd (21 * cs.length + 1) (AD cs)
  | [], _ => Bd.lit (by decide)
  | j :: js, h => by
    have a := (h j (by simp)).arm
    have ih := AD_bd (cs := js) (fun x hx => h x (by simp [hx]))
    have b := (((a j.2.1.1 (by simp [qsOf])).2.mul (a j.2.1.2.1 (by simp [qsOf])).2).mul (a j.2.1.2.2 (by simp [qsOf])).2).mul ih
    exact b.mono (by simp; omega)
theorem AD_dvd : ∀ {cs : List Jt} {j : Jt}, j ∈ cs → ∀ q ∈ qsOf j.2.1, (q.den : Int) ∣ AD cs
  | c :: cs, j, h, q, hq => by
    rcases List.mem_cons.mp h with rfl | h
    · unfold AD
      simp only [qsOf, List.mem_cons, List.not_mem_nil, or_false] at hq
      rcases hq with rfl | rfl | rfl
      · exact Int.dvd_trans (Int.dvd_trans (Int.dvd_mul_right _ _) (Int.dvd_mul_right _ _)) (Int.dvd_mul_right _ _)
      · exact Int.dvd_trans (Int.dvd_trans (Int.dvd_mul_left _ _) (Int.dvd_mul_right _ _)) (Int.dvd_mul_right _ _)
      · exact Int.dvd_trans (Int.dvd_mul_left _ _) (Int.dvd_mul_right _ _)
    · unfold AD
      exact Int.dvd_trans (AD_dvd h q hq) (Int.dvd_mul_left _ _)
theorem frac_up {q : Rat} {c : Int} (h : c ≠ 0) : q = ((q.num * c : Int) : Rat) / (((q.den : Int) * c : Int) : Rat) := by
  have d := q.den_pos
  have e := frac_self (q := q)
  have c1 : (c : Rat) ≠ 0 := by exact_mod_cast h
  have h2 := Rat.mul_inv_cancel _ c1
  conv => lhs; rw [← e]
  simp only [Rat.div_def, Rat.intCast_mul, Rat.inv_mul_rev]
  generalize (c : Rat)⁻¹ = k at *
  generalize (((q.den : Int)) : Rat)⁻¹ = i at *
  grind
theorem OkC.arm {cs : List Jt} (h : OkC cs) {j : Jt} (hj : j ∈ cs) : Tp3 167 (AD cs) j.2.1 := fun q hq => by
  obtain ⟨c, e⟩ := AD_dvd hj q hq
  have b := AD_bd h.jt
  have p := AD_pos cs
  have ok := (h.jt j hj).arm q hq
  have l := h.len
  have c0 : c ≠ 0 := fun k => by subst k; simp at e; omega
  have bc : Bd (21 * cs.length + 1) c := by
    have := b.lt
    rw [e, Int.natAbs_mul] at this
    refine Bd.lit (Nat.lt_of_le_of_lt ?_ this)
    exact Nat.le_mul_of_pos_left _ (by have := q.den_pos; omega)
  rw [e]
  exact ⟨q.num * c, frac_up c0, (ok.1.mul bc).mono (by omega)⟩
/-- the sizes of all turns ahead -/
def ND (cs : List Jt) : Nat → Int
  | 0 => 1
  | i + 1 => ND cs i * (match cs[i]? with
    | some j => nrmI (abJ j)
    | none => 1)
theorem ND_succ {cs : List Jt} {i : Nat} {j : Jt} (e : cs[i]? = some j) : ND cs (i + 1) = ND cs i * nrmI (abJ j) := by
  show ND cs i * (match cs[i]? with | some j => nrmI (abJ j) | none => 1) = _
  rw [e]
theorem ND_ne {cs : List Jt} (h : OkC cs) : ∀ i, i ≤ cs.length → ND cs i ≠ 0
  | 0, _ => (by decide : (1 : Int) ≠ 0)
  | i + 1, hi => by
    have e := List.getElem?_eq_getElem (show i < cs.length by omega)
    have ok := (h.jt _ (List.mem_of_getElem? e)).ab
    rw [ND_succ e]
    exact Int.mul_ne_zero (ND_ne h i (by omega)) (nrmI_ne ok.1.1 ok.1.2)
/-- the rest of the sizes -/
theorem ND_split {cs : List Jt} (h : OkC cs) (i : Nat) : ∀ n, i + n ≤ cs.length → ∃ c : Int, ND cs (i + n) = ND cs i * c ∧ c ≠ 0 ∧ Bd (126 * n + 1) c
  | 0, _ => ⟨1, by simp, by decide, Bd.lit (by decide)⟩
  | n + 1, hi => by
    obtain ⟨c, e1, c0, bc⟩ := ND_split h i n (by omega)
    have e := List.getElem?_eq_getElem (show i + n < cs.length by omega)
    have ok := (h.jt _ (List.mem_of_getElem? e)).ab
    refine ⟨c * nrmI (abJ cs[i + n]), ?_, Int.mul_ne_zero c0 (nrmI_ne ok.1.1 ok.1.2), (bc.mul (nrmI_bd ok.2)).mono (by omega)⟩
    rw [show i + (n + 1) = i + n + 1 from rfl, ND_succ e, e1, Int.mul_assoc]
theorem ND_bd {cs : List Jt} (h : OkC cs) {n : Nat} (hn : n ≤ cs.length) : Bd (126 * n + 1) (ND cs n) := by
  obtain ⟨c, e, _, b⟩ := ND_split h 0 n (by omega)
  rw [Nat.zero_add] at e
  rw [e, show ND cs 0 = 1 from rfl, Int.one_mul]
  exact b
theorem Tp3.tn {cs : List Jt} (h : OkC cs) {B : Int} : ∀ (i m : Nat) (p : Pt) (B : Int), i ≤ cs.length → Tp3 m B p → Tp3 (m + 128 * i) (B * ND cs i) (Z.rot (TN cs i) p)
  | 0, m, p, B, _, hp => by
    rw [show TN cs 0 = [1, 0, 0, 0] from rfl, rot_one, show ND cs 0 = 1 from rfl, Int.mul_one]
    exact hp
  | i + 1, m, p, B, hi, hp => by
    have e := List.getElem?_eq_getElem (show i < cs.length by omega)
    have ok := (h.jt _ (List.mem_of_getElem? e)).ab
    have r := Tp3.rot ok.1.1 ok.1.2 ok.2 hp
    have k := Tp3.tn (B := B) h i _ _ _ (by omega) r
    rw [rot_TN h.gj e, ND_succ e]
    have eB : B * nrmI (abJ cs[i]) * ND cs i = B * (ND cs i * nrmI (abJ cs[i])) := by rw [Int.mul_assoc, Int.mul_comm (nrmI _)]
    rw [eB] at k
    exact k.mono (by omega)
abbrev DD (cs : List Jt) : Int := AD cs * ND cs cs.length
theorem OkC.dd0 {cs : List Jt} (h : OkC cs) : DD cs ≠ 0 := Int.mul_ne_zero (by have := AD_pos cs; omega) (ND_ne h _ (Nat.le_refl _))
theorem OkC.ddb {cs : List Jt} (h : OkC cs) : Bd 945 (DD cs) := by
  have l := h.len
  exact ((AD_bd h.jt).mul (ND_bd h (Nat.le_refl _))).mono (by omega)
theorem OkC.legs {cs : List Jt} (h : OkC cs) {i : Nat} {j : Jt} (e : cs[i]? = some j) : Tp3 936 (DD cs) (Z.rot (TN cs (i + 1)) j.2.1) := by
  have hi := (List.getElem?_eq_some_iff.mp e).1
  have l := h.len
  have a := h.arm (List.mem_of_getElem? e)
  have t := Tp3.tn (B := 1) h (i + 1) _ _ _ (by omega) a
  obtain ⟨c, e1, c0, bc⟩ := ND_split h (i + 1) (cs.length - (i + 1)) (by omega)
  have s := t.scale (Int.mul_ne_zero (by have := AD_pos cs; omega) (ND_ne h (i + 1) (by omega))) c0 bc
  rw [Int.mul_assoc, ← e1, show i + 1 + (cs.length - (i + 1)) = cs.length by omega] at s
  exact s.mono (by omega)
theorem OkC.pn {cs : List Jt} (h : OkC cs) : ∀ i, i ≤ cs.length → Tp3 (936 + i) (DD cs) (PN cs i)
  | 0, _ => qs_mem3 Tp.zero Tp.zero Tp.zero
  | i + 1, hi => by
    have e := List.getElem?_eq_getElem (show i < cs.length by omega)
    rw [PN_succ e]
    exact ((h.pn i (by omega)).padd (h.legs e)).mono (by omega)
theorem OkC.pbq {cs : List Jt} (h : OkC cs) {i : Nat} (hi : i ≤ cs.length) : ∀ z ∈ qsOf (PN cs i), BQ 945 z := fun z hz => by
  have l := h.len
  exact ((h.pn i hi z hz).mono (by omega)).bq h.dd0 h.ddb
theorem OkJt.armq {j : Jt} (h : OkJt j) : ∀ q ∈ qsOf j.2.1, BQ 40 q := fun q hq => ⟨(h.arm q hq).1, (h.arm q hq).2.mono (by decide)⟩
theorem OkC.frok {cs : List Jt} (h : OkC cs) : FrOk cs := by
  have l := h.len
  refine ⟨fun i j e => ?_, fun i hi => ⟨(TN_p4 h.gj i).1, (TN_p4 h.gj i).2, fun x hx => (h.tn i hi x hx).mono (by omega)⟩, fun i j e => ?_, fun i j e => ?_⟩
  · have ok := h.jt j (List.mem_of_getElem? e)
    obtain ⟨k, l, e1, nz, bk, bl⟩ := ok.ex
    exact ⟨k, l, e1, ok.wl, ok.wz, nz, fun x hx => (ok.wb x hx).mono (by decide), bk.mono (by decide), bl.mono (by decide), ok.ab.1.1, ok.ab.1.2, fun x hx => (ok.ab.2 x hx).mono (by decide)⟩
  · have ok := h.jt j (List.mem_of_getElem? e)
    have hi := (List.getElem?_eq_some_iff.mp e).1
    have a := ok.armq
    refine ⟨400, 160, by decide, fun x hx => (h.tn (i + 1) (by omega) x hx).mono (by omega), PtB.of (a _ (by simp [qsOf])) (a _ (by simp [qsOf])) (a _ (by simp [qsOf]))⟩
  · have hi := (List.getElem?_eq_some_iff.mp e).1
    exact ⟨fun q hq => (h.pbq (by omega) q hq).mono (by decide), fun q hq => (((h.legs e q hq).mono (show 936 ≤ 945 by decide)).bq h.dd0 h.ddb).mono (by decide)⟩
/-- joints as they are drawn -/
abbrev jOf (r : Jr) : Jt := (r.1, r.2.1, [r.2.2.1, r.2.2.2])
theorem OkJr.jt {r : Jr} (h : OkJr r) : OkJt (jOf r) := ⟨⟨_, _, rfl, h.snz, h.sb1, h.sb2⟩, h.len, h.nz, h.bd, h.arm⟩
theorem OkC.set {cs : List Jt} (h : OkC cs) {x : Jt} (hx : OkJt x) (j : Nat) : OkC (cs.set j x) := ⟨by rw [List.length_set]; exact h.len, fun y hy => by
  rcases List.mem_or_eq_of_mem_set hy with k | k
  · exact h.jt y k
  · rw [k]; exact hx⟩
theorem ChAt.put {k0 : Nat} {S : Sto} {c : Addr} {js : List Jt} {m p : Nat} {xs : List D} (h : ChAt k0 S c js m) (e : S[p]? = some (.lst xs)) (ys : List D) : ChAt k0 (S.set p (.lst ys)) c js m := by
  obtain ⟨n, nr, nb, a, b, d, zs, h1, h2, h3, h4, h5, h6, h7⟩ := h.ex
  have n1 : p ≠ n := fun q => by subst q; rw [e] at h4; cases h4
  have n2 : p ≠ nr := fun q => by subst q; rw [e] at h5; cases h5
  have n3 : p ≠ nb := fun q => by subst q; rw [e] at h6; cases h6
  exact ⟨n, nr, nb, a, b, d, zs, h1, h2, h3, gset h4 n1, gset h5 n2, gset h6 n3, h7⟩
theorem ChAt.meth {k0 : Nat} {S : Sto} {c : Addr} {js : List Jt} {m : Nat} (h : ChAt k0 S c js m) {x : Str} (q1 : (x == ("rows" : Str)) = false) (q2 : (x == ("behind" : Str)) = false) (q3 : (x == ("ahead" : Str)) = false) : ∃ (k : Nat) (fs : List (Str × R)), S[k]? = some (O.ob c "Chain" fs) ∧ fs.lookup x = none := by
  obtain ⟨n, nr, nb, a, b, d, xs, h1, h2, h3, h4, h5, h6, h7⟩ := h.ex
  exact ⟨n, _, h4, chF_no q1 q2 q3⟩
end Z
set_option Elab.async false
set_option linter.all false
set_option maxRecDepth 100000
/-! Z39: texts taken apart; int(text); a < b <= c. -/
namespace Z
open PySem PySem.Spec PyProof.Rows L2 RZ
section
variable {X : Cx} {e a b c : Expr} {we wo wa wb wc : PE1} {pos : Pos}
/-- s.split(sep) -/
abbrev wSplit (wo we : PE1) : PE1 := fun r S W => wo r S fun x S1 => match x with
  | .r (.d (.str a)) => we r S1 fun y S2 => match y with
    | .r (.d (.str b)) => ((b.length == 0) = false ∧ a.length + 2 ≤ 16777216) ∧ W (.f ((Txt.split a b).map D.str)) S2
    | _ => False
  | _ => False
/-- s.partition(sep) -/
abbrev wPart (wo we : PE1) : PE1 := fun r S W => wo r S fun x S1 => match x with
  | .r (.d (.str a)) => we r S1 fun y S2 => match y with
    | .r (.d (.str b)) => ((b.length == 0) = false ∧ a.length ≤ 16777216) ∧ W (.r (.d (.tup [.str (Txt.partition a b).1, .str (Txt.partition a b).2.1, .str (Txt.partition a b).2.2]))) S2
    | _ => False
  | _ => False
/-- int(text) -/
abbrev fIntT : PF := fun xs S W => match xs with
  | [.r (.d (.str a))] => ∃ n : Int, intText? a = some n ∧ a.length ≤ 640 ∧ W (.r (.d (.int n))) S
  | _ => False
/-- a < b <= c -/
abbrev wChn (rp rp' : P2) (wa wb wc : PE1) : PE1 := fun r S W => wa r S fun x S1 => wb r S1 fun y S2 => rp x y S2 fun z S3 => match z with
  | .r (.d (.bl k)) => if k = true then wc r S3 fun u S4 => rp' y u S4 W else W (.r (.d (.bl false))) S3
  | _ => False
end
end Z
set_option Elab.async false
set_option linter.all false
set_option maxRecDepth 100000
set_option exponentiation.threshold 20000
/-! R63: things as texts, of any number of figures; texts read back. -/
namespace Z
open PySem PySem.Spec PyProof.Rows L2 RZ
/-- of so many figures -/
structure Fg (k : Nat) (i : Int) : Prop where
  lt : i.natAbs < 10 ^ k
theorem Fg.mono {k m : Nat} {i : Int} (h : Fg k i) (e : k ≤ m) : Fg m i := ⟨Nat.lt_of_lt_of_le h.lt (Nat.pow_le_pow_right (by decide) e)⟩
/-! reading -/
end Z
set_option Elab.async false
set_option linter.all false
set_option maxRecDepth 100000
/-! Z40: dicts at places: in, [..], d[k] = v, copy, sorted; (o.f, o.g) = e. -/
namespace Z
open PySem PySem.Spec PyProof.Rows L2 RZ
def getA (kvs : List (Key × R)) (k : Key) : Option R := (kvs.find? fun p => decide (p.1 = k)).map (·.2)
def putA (kvs : List (Key × R)) (k : Key) (v : R) : List (Key × R) := if (kvs.any fun p => decide (p.1 = k)) = true then kvs.map (fun p => if p.1 = k then (p.1, v) else p) else kvs ++ [(k, v)]
abbrev PA0 (K : PySem.W.Frag) (H : Hp) : List (Key × R) → List (Key × V) → Prop := Paired (fun (p : Key × R) (q : Key × V) => q.1 = p.1 ∧ RepR K [] H p.2 q.2)
section
variable {K : PySem.W.Frag} {m : List Addr} {H H1 : Hp} {S : Sto} {kvs : List (Key × R)} {ks : List (Key × V)} {k : Key} {d : R} {v : V} {n : Nat} {a : Addr}
theorem PA0.val (h : PA0 K H kvs ks) (k : Key) : (getA kvs k = none ∧ valV ks k = none) ∨ ∃ d v, getA kvs k = some d ∧ valV ks k = some v ∧ RepR K [] H d v := by
  unfold PA0 at h
  induction h with
  | nil => exact .inl ⟨rfl, rfl⟩
  | @cons p q ps qs hd tl ih =>
    by_cases e : p.1 = k
    · refine .inr ⟨p.2, q.2, ?_, valV_pos (hd.1.trans e), hd.2⟩
      unfold getA; rw [List.find?_cons_of_pos (by simp [e])]; rfl
    · rw [valV_neg (by rw [hd.1]; exact e)]
      have e2 : getA (p :: ps) k = getA ps k := by unfold getA; rw [List.find?_cons_of_neg (by simp [e])]
      rw [e2]; exact ih
theorem PA0.any (h : PA0 K H kvs ks) (k : Key) : (kvs.any fun p => decide (p.1 = k)) = ks.any fun p => decide (p.1 = k) := by
  unfold PA0 at h
  induction h with
  | nil => rfl
  | @cons p q ps qs hd tl ih => rw [List.any_cons, List.any_cons, ih, hd.1]
theorem PA0.put (h : PA0 K H kvs ks) (k : Key) (hd : RepR K [] H d v) : PA0 K H (putA kvs k d) (putK ks k v) := by
  unfold putA putK
  rw [h.any k]
  split
  · rename_i e0
    clear e0
    unfold PA0 at h
    induction h with
    | nil => exact .nil
    | @cons p q ps qs hh tl ih =>
      rw [List.map_cons, List.map_cons]
      refine .cons ?_ ih
      by_cases e : p.1 = k
      · rw [if_pos e, if_pos (hh.1.trans e)]; exact ⟨hh.1, hd⟩
      · rw [if_neg e, if_neg (by rw [hh.1]; exact e)]; exact hh
  · exact Paired.snoc h ⟨rfl, hd⟩
theorem PA0.via (f : ∀ x v, RepR K [] H x v → RepR K [] H1 x v) (h : PA0 K H kvs ks) : PA0 K H1 kvs ks := Paired.mapP h fun _ _ z => ⟨z.1, f _ _ z.2⟩
theorem PA0.keys (h : PA0 K H kvs ks) : ks.map (·.1) = kvs.map (·.1) := by
  unfold PA0 at h
  induction h with
  | nil => rfl
  | @cons p q ps qs hd tl ih => rw [List.map_cons, List.map_cons, ih, hd.1]
theorem RepS.da (r : RepS K m H S) (e : S[n]? = some (O.da a kvs)) : ∃ ks, m[n]? = some a ∧ H a = some (.dK ks) ∧ PA0 K H kvs ks := by
  obtain ⟨b, h1, rfl, ks, h2, h3⟩ := r.at_ n _ e
  exact ⟨ks, h1, h2, h3⟩
end
section
variable {X : Cx} {e a b : Expr} {pos p2 : Pos} {we wa wb wo : PE1}
/-- k in d -/
abbrev pInDa (neg : Bool) : P2 := fun x y S W => match x, y with
  | .r (.d k), .r (.ad a) => ∃ (n : Nat) (kvs : List (Key × R)) (kk : Key), S[n]? = some (O.da a kvs) ∧ keyK k = some kk ∧ W (.r (.d (.bl (if neg then !(getA kvs kk).isSome else (getA kvs kk).isSome)))) S
  | _, _ => False
theorem o_ninDa (hu : X.A.units + 64 < cLine) : OpP X (compareOp .NotIn) (pInDa true) := by
  refine ⟨fun x y H Q => ∃ a kk ks, y = .ref a ∧ x = kV kk ∧ H a = some (.dK ks) ∧ Q (.bl (!(valV ks kk).isSome)) H, ?_, fun x y S W v u m H H0 Q r qx qy w f => ?_⟩
  · intro pins s σ H x y v u Q I rx ry ⟨a, kk, ks, hy, hx, e, q⟩
    subst hy hx
    obtain rfl : u = .ref a := ry
    exact d_notIn (show X.A.units + 1 < cLine by omega) I (DGet.k e) rx fun s' I' => ⟨.bl _, H, I', rfl, q⟩
  · unfold pInDa at w
    split at w
    · rename_i k a
      obtain ⟨n, kvs, kk, e, ek, w⟩ := w
      cases (show u = V.ref a from qy)
      obtain ⟨ks, h1, h2, h3⟩ := r.da e
      refine ⟨a, kk, ks, rfl, keyK_rep ek qx, h2, ?_⟩
      have f' := f.here r (x := .r (.d (.bl (!(getA kvs kk).isSome)))) rfl w
      rcases h3.val kk with ⟨e1, e2⟩ | ⟨d, z, e1, e2, _⟩
      · rw [e2]; rw [e1] at f'; exact f'
      · rw [e2]; rw [e1] at f'; exact f'
    · exact w.elim
/-- d[k] -/
abbrev pIxDa : P2 := fun x y S W => match x, y with
  | .r (.ad a), .r (.d k) => ∃ (n : Nat) (kvs : List (Key × R)) (kk : Key) (z : R), S[n]? = some (O.da a kvs) ∧ keyK k = some kk ∧ getA kvs kk = some z ∧ W (.r z) S
  | _, _ => False
theorem we_ixDa (hu : X.A.units + 64 < cLine) (ha : WE X a wa) (hb : WE X b wb) (hs : NoSl b) : WE X (.Subscript a b pos) (wBin pIxDa wa wb) := by
  refine ⟨peImp (pe_dget (by omega) ha.pe hb.pe hs) fun s H Q ⟨m, ρ, S, W, hE, hS, hw, hf⟩ => up2 hE hS hw fun x y S2 v u m2 H2 z g2 r2 qx qy => ?_⟩
  unfold pIxDa at z
  split at z
  · rename_i a k
    obtain ⟨n, kvs, kk, d, e, ek, ed, z⟩ := z
    cases (show v = V.ref a from qx)
    obtain ⟨ks, h1, h2, h3⟩ := r2.da e
    rcases h3.val kk with ⟨e1, e2⟩ | ⟨d', w, e1, e2, hd⟩
    · rw [e1] at ed; cases ed
    · rw [e1] at ed; cases ed
      rw [keyK_rep ek qy]
      exact ⟨a, w, rfl, e2 ▸ DGet.k h2, (hf.later g2 r2).here r2 (x := .r d) hd.any z⟩
  · exact z.elim
/-- d[k] = v -/
abbrev wPutDa (wo wi we : PE1) : PS1 := fun N r S => we r S fun x S1 => wo r S1 fun o S2 => wi r S2 fun k S3 => match o, k, x with
  | .r (.ad a), .r (.d k), .r z => noLoc z = true ∧ ∃ (n : Nat) (kvs : List (Key × R)) (kk : Key), S3[n]? = some (O.da a kvs) ∧ keyK k = some kk ∧ kvs.length < 16777216 ∧ N.nx r (S3.set n (.da a (putA kvs kk z)))
  | _, _, _ => False
theorem ws_putDa {o i e : Expr} {wi : PE1} (hu : X.A.units + 64 < cLine) (ho : WE X o wo) (hi : WE X i wi) (he : WE X e we) (hs : swapsWith e (some (.Subscript o i p2)) pos.line X.env = pure false := by rfl) : WS X (.Assign [.Subscript o i p2] e pos) (wPutDa wo wi we) :=
  ⟨psImp (ps_dput (by omega) ho.pe hi.pe he.pe hs) fun D s H ⟨m, r, S, N, hE, hS, hw, hf⟩ => up1 hE hS hw fun x S1 v m1 H1 h1 g1 r1 q1 => up2 (hE.grow g1) r1 h1 fun y z S3 u w m3 H3 h3 g3 r3 qo qi => by
    split at h3
    · rename_i a k d
      obtain ⟨hz, n, kvs, kk, e1, ek, hl, h3⟩ := h3
      cases (show u = V.ref a from qo)
      obtain ⟨ks, k1, k2, k3⟩ := r3.da e1
      have qd : RepR X.K [] H3 d v := RepR.free d v hz (RepR.grow g3 d v q1)
      rw [keyK_rep ek qi]
      have hl : ks.length < sizeLine := by rw [← Paired.length k3, sizeLine_eq]; exact hl
      refine ⟨a, _, rfl, DPut.k k2 hl, ?_⟩
      have gw := Grow.writeO (m := m3) (u' := .dK (putK ks kk v)) k1 k2 wr_dK
      exact hf.nx r _ s m3 _ h3 ((g1.trans g3).trans gw) (((hE.grow g1).grow g3).grow gw) (r3.writeO k1 k2 wr_dK ⟨rfl, _, upd_same, (k3.put kk qd).via fun x v => RepR.grow0 gw x v⟩)
    · exact h3.elim⟩
/-- d.copy() -/
theorem mt_dcopy : MtR X "dict.copy" (fun x xs H Q => ∃ a kvs, x = .ref a ∧ xs = [] ∧ H a = some (.dK kvs) ∧ ∀ p, H p = none → Q (.ref p) (upd H p (.dK kvs))) := by
  intro pins s σ H x vs v us Q I rx rv h
  obtain ⟨a, kvs, rfl, rfl, hk, q⟩ := h
  cases rx
  have hus := rv.zero
  subst hus
  obtain ⟨z, lo, vs, rel, dd⟩ := (show ObjOk X.prog X.w H s.heap a (.dK kvs) from I.hok a _ hk)
  have hm : (s.heap.objs.size == sysModules) = false := beq_eq_false_iff_ne.mpr (Nat.ne_of_gt I.big)
  refine call_meetsIn F.slot_dict_copy dd.typeIs F.entry_dict_copy (F.args_dict_copy_1 _) (meets_dict_copy (mixKind X.prog X.w) a lo) ⟨vs, dd, by rw [← rel.length]; exact z, fun h' d' _ hs => ?_⟩
  exact ⟨.ref s.heap.objs.size, upd H s.heap.objs.size (.dK kvs), I.laid (t' := s.toks) (fun b u e => hs b u e) (Nat.le_refl _)
    (show ObjOk X.prog X.w _ _ _ (.dK kvs) from ⟨z, hm, vs, rel, d'⟩), rfl, q _ (I.hok.fresh (Nat.le_refl _))⟩
abbrev wCpDa (wo : PE1) : PE1 := fun r S W => wo r S fun x S1 => match x with
  | .r (.ad a) => ∃ (n : Nat) (kvs : List (Key × R)), S1[n]? = some (O.da a kvs) ∧ ∀ b, W (.r (.ad b)) (S1 ++ [.da b kvs])
  | _ => False
theorem we_cpDa {o : Expr} {apos : Pos} (ho : WE X o wo)
    (h : ∀ {to : TE}, PE X o to → PE X (.Call (.Attribute o "copy" apos) [] [] pos) (tBM0 X.K "dict" (fun x xs H Q => ∃ a kvs, x = .ref a ∧ xs = [] ∧ H a = some (.dK kvs) ∧ ∀ p, H p = none → Q (.ref p) (upd H p (.dK kvs))) to) := by
      intro _ ho; exact pe_bm0 PySem.F.plainAttrs_dict PySem.F.slot_dict_copy PySem.F.type_dict_copy mt_dcopy ho) : WE X (.Call (.Attribute o "copy" apos) [] [] pos) (wCpDa wo) :=
  ⟨peImp (h ho.pe) fun s H Q ⟨m, r, S, W, hE, hS, hw, hf⟩ => up1 hE hS hw fun x S1 v m1 H1 h1 g1 r1 q1 => by
    split at h1
    · rename_i a
      obtain ⟨n, kvs, e1, h1⟩ := h1
      cases (show v = V.ref a from q1)
      obtain ⟨ks, k1, k2, k3⟩ := r1.da e1
      refine ⟨.inr (.inr (.inl ⟨rfl, .inl ⟨ks, k2⟩⟩)), a, ks, rfl, rfl, k2, fun p hp => ?_⟩
      have ga := Grow.alloc (m := m1) (o := .dK ks) hp
      exact hf (.r (.ad p)) _ (.ref p) (m1 ++ [p]) _ (h1 p) (g1.trans (Grow.push hp ga)) ((r1.alloc hp).pushO (r1.notmem hp) ⟨rfl, ks, upd_same, k3.via fun x v => RepR.grow0 ga x v⟩) rfl
    · exact h1.elim⟩
/-- sorted(d), keys that are texts -/
abbrev fSortDa : PF := fun xs S W => match xs with
  | [.r (.ad a)] => ∃ (n : Nat) (kvs : List (Key × R)) (ks : List Str), S[n]? = some (O.da a kvs) ∧ kvs.map (·.1) = ks.map Sum.inr ∧ ks.length < 64 ∧ ∀ ys, ys.Perm ks → PyProof.Rows.sortedS ys = true → W (.f (ys.map D.str)) S
  | _ => False
theorem reps_strsA {K : PySem.W.Frag} {H : Hp} : ∀ ss : List Str, RepDs K H (ss.map D.str) (ss.map V.str)
  | [] => rfl
  | _ :: r => ⟨_, _, rfl, rfl, reps_strsA r⟩
theorem f_sortDa (hcalm : X.calm = true) : FnP X (.builtin "sorted") fSortDa := by
  refine ⟨_, call_sortedD hcalm, fun xs S W vs m H H0 Q r q w f => ?_⟩
  unfold fSortDa at w
  split at w
  · rename_i a
    obtain ⟨n, kvs, ks, e, ek, hl, w⟩ := w
    obtain ⟨v, rfl, q1⟩ := q.one
    cases (show v = V.ref a from q1)
    obtain ⟨us, k1, k2, k3⟩ := r.da e
    exact ⟨a, us, ks, rfl, Rd.of k2, k3.keys.trans ek, hl, fun ys p hp hs h0 => f.lst r (reps_strsA ys) (w ys hp hs) p h0⟩
  · exact w.elim
/-- o.f, as a target -/
def gFldT (K : PySem.W.Frag) (to : TE) (f : Str) : TG := fun v σ H Q => to σ H fun x H1 => ∃ a C dx fs, x = .ref a ∧ H1 a = some (.ins C dx fs) ∧ Cls K C ∧ NoAttr K C f ∧ fs.length < 1000 ∧ Q σ (upd H1 a (.ins C dx (putF f v fs)))
theorem pg_fld {o : Expr} {to : TE} {f : Str} (ho : PE X o to) : PG X (.Attribute o f p2) (gFldT X.K to f) := by
  refine ⟨fun pins s σ H v u Q I r h => ?_⟩
  rw [assign_Attribute]
  refine wpAny_bind (wpAny_holding (thn (ho.run pins s σ H _ I h) fun ov s1 ⟨x, H1, I1, r1, a, C, dx, fs, ex, ea, c, n, l, q1⟩ => ?_))
  subst ex
  obtain rfl : ov = Value.ref a := r1
  exact wpAny_bind (wpAny_standAt (wpAny_bind (wpAny_holding (setattr_ok I1 ea c n l r fun s2 I2 => wpAny_release ⟨σ, _, I2, q1⟩))))
/-- (o.f, o.g) = a tuple of two -/
abbrev wFld2 (C f g : Str) (wo we : PE1) : PS1 := fun N r S => we r S fun x S1 => match x with
  | .r (.tr [y, z]) => (noLoc y = true ∧ noLoc z = true) ∧ wo r S1 fun o S2 => match o with
    | .r (.ad a) => ∃ (n : Nat) (fs : List (Str × R)), S2[n]? = some (O.ob a C fs) ∧ fs.length < 1000 ∧ wo r (S2.set n (.ob a C (putR f y fs))) fun o' S3 => match o' with
      | .r (.ad a') => ∃ (n' : Nat) (fs' : List (Str × R)), S3[n']? = some (O.ob a' C fs') ∧ fs'.length < 1000 ∧ N.nx r (S3.set n' (.ob a' C (putR g z fs')))
      | _ => False
    | _ => False
  | _ => False
theorem ws_fld2 {k : Nat} {o o2 : Expr} {p3 p4 : Pos} {C f g : Str} {fl : List Str} (hc : X.calm = true) (c : ClsO X.K C fl) (ho : WE X o wo) (ho2 : WE X o2 wo) (he : WE X e we) (hf : f ∈ fl := by decide) (hg : g ∈ fl := by decide)
    (hn : (assignEach [.Attribute o f p3, .Attribute o2 g p4] X.env).length = 2 := by rfl) (hst : (assignEach [.Attribute o f p3, .Attribute o2 g p4] X.env).findIdx? (·.1) = none := by rfl)
    (hm1 : (assignEach [.Attribute o f p3, .Attribute o2 g p4] X.env).map (·.2) = assign (.Attribute o f p3) X.env :: (assignEach [.Attribute o2 g p4] X.env).map (·.2) := by rfl)
    (hm2 : (assignEach [.Attribute o2 g p4] X.env).map (·.2) = assign (.Attribute o2 g p4) X.env :: (assignEach [] X.env).map (·.2) := by rfl)
    (hs : swapsWithSole [.Tuple [.Attribute o f p3, .Attribute o2 g p4] k p2] e pos.line X.env = pure false := by rfl) (hw : swappedStores [.Tuple [.Attribute o f p3, .Attribute o2 g p4] k p2] e X.env = pure none := by rfl)
    (h1 : (assignEach [.Tuple [.Attribute o f p3, .Attribute o2 g p4] k p2] X.env).map (·.2) = [assign (.Tuple [.Attribute o f p3, .Attribute o2 g p4] k p2) X.env] := by rfl) : WS X (.Assign [.Tuple [.Attribute o f p3, .Attribute o2 g p4] k p2] e pos) (wFld2 C f g wo we) := by
  obtain ⟨Ca, c1, c2, c3⟩ := c.ex
  exact ⟨psImp (ps_asg he.pe (pg_tup hc (pgs_cons (pg_fld ho.pe) (pgs_cons (pg_fld ho2.pe) pgs_nil hm2) hm1) hn hst) hs hw h1) fun D s H ⟨m, r, S, N, hE, hS, hw, hff⟩ => ⟨m, r, S, _, hE, hS, hw, fun x S1 v m1 H1 h1 g1 r1 q1 => by
    split at h1
    · rename_i y z
      obtain ⟨⟨hy, hz⟩, h1⟩ := h1
      obtain ⟨p, vs, rfl, sq, rep⟩ := (show RepR X.K m1 H1 (.tr [y, z]) v from q1)
      obtain ⟨vy, r', rfl, ry, rep⟩ := rep
      obtain ⟨vz, r'', rfl, rz, rep⟩ := rep
      cases (show r'' = [] from rep)
      refine ⟨p, _, rfl, sq, rfl, vy, [vz], rfl, m1, r, S1, _, hE.grow g1, r1, h1, fun ov S2 w m2 H2 h2 g2 r2 q2 => ?_⟩
      split at h2
      · rename_i a
        obtain ⟨n, fs, e1, hl, h2⟩ := h2
        cases (show w = V.ref a from q2)
        obtain ⟨Cb, dx, us, k1, k2, k3, k4⟩ := r2.ob e1
        obtain rfl := c1.uniq k2
        have qy : RepR X.K [] H2 y vy := RepR.free y vy hy (RepR.grow g2 y vy ry)
        have hl2 : us.length < 1000 := by rw [← Paired.length k4]; exact hl
        have gw := Grow.writeO (u' := .ins Ca dx (putF f vy us)) k1 k3 wr_ins
        refine ⟨a, _, dx, us, rfl, k3, c2, c3 _ hf, hl2, vz, [], rfl, ?_⟩
        have r3 := r2.writeO k1 k3 wr_ins (u' := .ins Ca dx (putF f vy us)) (o := .ob a C (putR f y fs)) ⟨rfl, Ca, dx, _, k2, upd_same, (k4.put qy).conv gw⟩
        refine ⟨m2, r, _, _, ((hE.grow g1).grow g2).grow gw, r3, h2, fun ov3 S3 w3 m3 H3 h3 g3 r4 q3 => ?_⟩
        split at h3
        · rename_i a'
          obtain ⟨n', fs', e3, hl3, h3⟩ := h3
          cases (show w3 = V.ref a' from q3)
          obtain ⟨Cb', dx', us', j1, j2, j3, j4⟩ := r4.ob e3
          obtain rfl := c1.uniq j2
          have qz : RepR X.K [] H3 z vz := RepR.free z vz hz (RepR.grow g3 z vz (RepR.grow gw z vz (RepR.grow g2 z vz rz)))
          have hl4 : us'.length < 1000 := by rw [← Paired.length j4]; exact hl3
          have gw2 := Grow.writeO (u' := .ins Ca dx' (putF g vz us')) j1 j3 wr_ins
          refine ⟨a', _, dx', us', rfl, j3, c2, c3 _ hg, hl4, rfl, ?_⟩
          exact hff.nx r _ s m3 _ h3 ((((g1.trans g2).trans gw).trans g3).trans gw2) (((((hE.grow g1).grow g2).grow gw).grow g3).grow gw2) (r4.writeO j1 j3 wr_ins ⟨rfl, Ca, dx', _, j2, upd_same, (j4.put qz).conv gw2⟩)
        · exact h3.elim
      · exact h2.elim
    · exact h1.elim⟩⟩
/-- t not in s -/
abbrev pSNin : P2 := fun x y S W => match x, y with
  | .r (.d (.str a)), .r (.d (.str b)) => W (.r (.d (.bl (!(!(Builtin.Str.occurrences b a 0 b.length 1).isEmpty))))) S
  | _, _ => False
theorem o_snin : OpP X (compareOp .NotIn) pSNin := by
  refine ⟨_, op_notIn_str, fun x y S W v u m H H0 Q r qx qy w f => ?_⟩
  unfold pSNin at w
  split at w
  · rename_i a b
    exact ⟨a, b, qx, qy, f.here r (x := svb _) rfl w⟩
  · exact w.elim
end
end Z
set_option Elab.async false
set_option linter.all false
set_option maxRecDepth 100000
/-! Z41: calls whose arguments may raise; methods that may raise. -/
namespace Z
open PySem PySem.Spec PyProof.Rows L2 RZ
section
variable {X : Cx} {Wx : WX} {e o : Expr} {es : List Expr} {pos apos : Pos} {C : Str} {wo : PE1} {was : PAX}
/-- f(..), a def that raises nothing, of arguments that may -/
abbrev xCallZ (sp : SpZ) (n : Nat) (ws : PAX) : PEX := fun r S W XW => ws r S (fun xs S1 => bindVs xs S1 fun rs S2 => callL sp n rs S2 W) XW
/-- f(..), a def over the whole store, of arguments that may raise -/
abbrev xCallW (sp : SpW) (n : Nat) (ws : PAX) : PEX := fun r S W XW => ws r S (fun xs S1 => bindVs xs S1 fun rs S2 => rs.length = n ∧ sp rs S2 (fun x T => W (.r x) T) XW) XW
/-- o.m(..), of arguments that may raise -/
abbrev xMeth (C m : Str) (sp : SpW) (n : Nat) (wo : PE1) (ws : PAX) : PEX := fun r S W XW => wo r S fun x S1 => match x with
  | .r (.ad a) => (∃ (k : Nat) (fs : List (Str × R)), S1[k]? = some (O.ob a C fs) ∧ fs.lookup m = none) ∧ ws r S1 (fun xs S2 => bindVs xs S2 fun rs S3 => rs.length + 1 = n ∧ sp (.ad a :: rs) S3 (fun x T => W (.r x) T) XW) XW
  | _ => False
end
section
variable {X : Cx}
/-- x == [] of a list at a place -/
abbrev pEmA : P2 := fun x y S W => match x, y with
  | .r (.ad a), .f [] => ∃ (n : Nat) (xs : List R), S[n]? = some (O.la a xs) ∧ W (.r (.d (.bl xs.isEmpty))) S
  | _, _ => False
theorem o_emA (hu : X.A.units + 64 < cLine) : OpP X (compareOp .Eq) pEmA := by
  refine ⟨fun x y H Q => ∃ a b xs, x = .ref a ∧ y = .ref b ∧ H a = some (.lst xs) ∧ H b = some (.lst []) ∧ a ≠ b ∧ Q (.bl xs.isEmpty) H, ?_, fun x y S W v u m H H0 Q r qx qy w f => ?_⟩
  · intro pins s σ H x y v u Q I rx ry ⟨a, b, xs, hx, hy, ha, hb, hne, q⟩
    subst hx hy
    obtain rfl : v = .ref a := rx
    obtain rfl : u = .ref b := ry
    obtain ⟨i1, r1, l1, z1⟩ := I.list (.inl (.inl ha))
    obtain ⟨i2, r2, l2, z2⟩ := I.list (.inl (.inl hb))
    cases r2
    show wpAny _ _ (richCompare .Eq (.ref a) (.ref b)) _ _ s
    cases xs with
    | nil =>
      cases r1
      refine PySem.W.eq_listsT (n := 0) (e := fun _ => true) l1.isList l2.isList rfl (fun j h1 h2 => absurd h1 (by simp)) (by omega) ?_
      exact ⟨.bl true, H, I, rfl, q⟩
    | cons z zs =>
      cases r1 with
      | cons c d =>
        exact SeqAt.RcAt.lists_lengths l1.isList l2.isList (by simp) (by omega) _ _ _ _ ⟨.bl false, H, I, rfl, q⟩
  · unfold pEmA at w
    split at w
    · rename_i a
      obtain ⟨n, xs, e, w⟩ := w
      cases (show v = V.ref a from qx)
      obtain ⟨b, us, rfl, k1, k2, k3, k4⟩ := qy
      obtain ⟨vs, j1, j2, j3⟩ := r.la e
      obtain rfl : us = [] := k4
      refine ⟨a, b, vs, rfl, rfl, j2, k1, fun q => k2 (q ▸ List.mem_of_getElem? j1), ?_⟩
      have el : vs.isEmpty = xs.isEmpty := by
        have := RepRs.len j3
        cases vs <;> cases xs <;> simp_all
      rw [el]
      exact f.here r (x := svb _) rfl w
    · exact w.elim
end
end Z
set_option Elab.async false
set_option linter.all false
set_option maxRecDepth 100000
set_option exponentiation.threshold 20000
/-! R65: bodies with all they keep (k87, k85, k88 and their like). -/
namespace Z
open PySem PySem.Spec PyProof.Rows L2 RZ
/-- stands kept by names -/
abbrev Kp := List (Str × List Int)
abbrev kpR (k : Kp) : List (Key × R) := k.map fun p => ((Sum.inr p.1 : Key), R.d (foD p.2))
def getKp (k : Kp) (x : Str) : Option (List Int) := (k.find? fun p => decide (p.1 = x)).map (·.2)
def putKp (k : Kp) (x : Str) (f : List Int) : Kp := if (k.any fun p => decide (p.1 = x)) = true then k.map (fun p => if p.1 = x then (p.1, f) else p) else k ++ [(x, f)]
theorem getKp_R (k : Kp) (x : Str) : getA (kpR k) (.inr x) = (getKp k x).map fun f => R.d (foD f) := by
  unfold getA getKp
  induction k with
  | nil => rfl
  | cons p k ih =>
    rw [show kpR (p :: k) = ((Sum.inr p.1 : Key), R.d (foD p.2)) :: kpR k from rfl]
    by_cases e : p.1 = x
    · rw [List.find?_cons_of_pos (by simp [e]), List.find?_cons_of_pos (by simp [e])]; rfl
    · rw [List.find?_cons_of_neg (by simp [e]), List.find?_cons_of_neg (by simp [e])]; exact ih
theorem putKp_R (k : Kp) (x : Str) (f : List Int) : putA (kpR k) (.inr x) (.d (foD f)) = kpR (putKp k x f) := by
  unfold putA putKp
  have e : ((kpR k).any fun p => decide (p.1 = (Sum.inr x : Key))) = (k.any fun p => decide (p.1 = x)) := by
    rw [List.any_map]
    congr 1
    funext p
    simp [Function.comp]
  rw [e]
  split
  · show List.map _ (List.map _ k) = List.map _ (List.map _ k)
    rw [List.map_map, List.map_map]
    refine List.map_congr_left fun p _ => ?_
    by_cases q : p.1 = x
    · simp [Function.comp, q]
    · simp [Function.comp, q]
  · show _ = List.map _ (k ++ [(x, f)])
    rw [List.map_append]; rfl
theorem putKp_len (k : Kp) (x : Str) (f : List Int) : (putKp k x f).length ≤ k.length + 1 := by
  unfold putKp
  split
  · rw [List.length_map]; omega
  · simp
/-- where a body stands and what it keeps -/
abbrev Bs := List Int × Kp
def DaAt (S : Sto) (a : Addr) (k : Kp) : Prop := ∃ n : Nat, S[n]? = some (.da a (kpR k))
abbrev psR (ps : List (List Int × Addr)) : List R := ps.map fun p => R.tr [.d (foD p.1), .ad p.2]
abbrev RowAt (S : Sto) (ps : List (List Int × Addr)) (bs : List Bs) : Prop := Paired (fun p s => p.1 = s.1 ∧ DaAt S p.2 s.2) ps bs
structure BodyAt (own : List Nat) (S : Sto) (c : Addr) (s : Bs) (bs as : List Bs) : Prop where
  ex : ∃ (n nb na : Nat) (k b d : Addr) (ps qs : List (List Int × Addr)), n ∈ own ∧ nb ∈ own ∧ na ∈ own ∧ nb ≠ na ∧ S[n]? = some (.ob c "Body" (bdF (foD s.1) k b d)) ∧ S[nb]? = some (.la b (psR ps)) ∧ S[na]? = some (.la d (psR qs)) ∧ DaAt S k s.2 ∧ RowAt S ps bs ∧ RowAt S qs as
  low : ∀ i ∈ own, i < S.length
/-- all stays, but what is its own; dicts stay at all events -/
def FrB (own : List Nat) (S S' : Sto) : Prop := S.length ≤ S'.length ∧ ∀ (i : Nat) o, S[i]? = some o → (i ∉ own ∨ ∃ a k, o = .da a k) → S'[i]? = some o
/-- what came to be its own is new -/
def OwnX (own own' : List Nat) (S : Sto) : Prop := ∀ i ∈ own', i ∈ own ∨ S.length ≤ i
section
variable {own own' own2 : List Nat} {S S1 S2 : Sto} {c : Addr} {s : Bs} {bs as : List Bs} {i : Nat} {o x : O} {a : Addr} {k : Kp}
theorem FrB.refl : FrB own S S := ⟨Nat.le_refl _, fun _ _ h _ => h⟩
theorem OwnX.refl : OwnX own own S := fun _ h => .inl h
theorem get_len {S : Sto} {n : Nat} {o : O} (h : S[n]? = some o) : n < S.length := (List.getElem?_eq_some_iff.mp h).1
theorem FrB.app (h : FrB own S S1) (Y : Sto) : FrB own S (S1 ++ Y) := ⟨by rw [List.length_append]; have := h.1; omega, fun i o e q => gapp (h.2 i o e q)⟩
theorem FrB.set (h : FrB own S S1) (hi : i ∈ own ∨ S.length ≤ i) (e : S1[i]? = some o) (nd : ∀ a k, o ≠ .da a k) (x : O) : FrB own S (S1.set i x) := ⟨by rw [List.length_set]; exact h.1, fun q u eq hq => by
  refine gset (h.2 q u eq hq) fun z => ?_
  subst z
  rcases hi with hi | hi
  · rcases hq with hq | ⟨a, k, rfl⟩
    · exact hq hi
    · have := h.2 i _ eq (.inr ⟨a, k, rfl⟩)
      rw [e] at this
      cases this
      exact nd _ _ rfl
  · have := get_len eq
    omega⟩
theorem FrB.trans (h : FrB own S S1) (h2 : FrB own' S1 S2) (e : OwnX own own' S) : FrB own S S2 := ⟨Nat.le_trans h.1 h2.1, fun i o eq hq => by
  refine h2.2 i o (h.2 i o eq hq) ?_
  rcases hq with hq | hq
  · left
    intro hi
    rcases e i hi with q | q
    · exact hq q
    · have := get_len eq
      omega
  · exact .inr hq⟩
theorem OwnX.trans (h : OwnX own own' S) (k : OwnX own' own2 S1) (l : S.length ≤ S1.length) : OwnX own own2 S := fun i hi => by
  rcases k i hi with q | q
  · exact h i q
  · exact .inr (by omega)
theorem DaAt.fr (h : DaAt S a k) (f : FrB own S S1) : DaAt S1 a k := by
  obtain ⟨n, e⟩ := h
  exact ⟨n, f.2 n _ e (.inr ⟨_, _, rfl⟩)⟩
theorem DaAt.app (h : DaAt S a k) (Y : Sto) : DaAt (S ++ Y) a k := by
  obtain ⟨n, e⟩ := h
  exact ⟨n, gapp e⟩
theorem RowAt.fr {ps : List (List Int × Addr)} (h : RowAt S ps bs) (f : FrB own S S1) : RowAt S1 ps bs := Paired.mapP h fun _ _ z => ⟨z.1, z.2.fr f⟩
/-- another body stays -/
theorem BodyAt.fr (h : BodyAt own2 S c s bs as) (f : FrB own S S1) (dj : ∀ i ∈ own2, i ∉ own) : BodyAt own2 S1 c s bs as := by
  obtain ⟨n, nb, na, k, b, d, ps, qs, h1, h2, h3, h4, h5, h6, h7, h8, h9, h10⟩ := h.ex
  exact ⟨⟨n, nb, na, k, b, d, ps, qs, h1, h2, h3, h4, f.2 _ _ h5 (.inl (dj _ h1)), f.2 _ _ h6 (.inl (dj _ h2)), f.2 _ _ h7 (.inl (dj _ h3)), h8.fr f, h9.fr f, h10.fr f⟩, fun i hi => Nat.lt_of_lt_of_le (h.low i hi) f.1⟩
theorem BodyAt.app (h : BodyAt own S c s bs as) (Y : Sto) : BodyAt own (S ++ Y) c s bs as := h.fr (own := []) (FrB.refl.app Y) (fun _ _ => by simp)
theorem BodyAt.put (h : BodyAt own S c s bs as) (hi : i ∉ own) (e : S[i]? = some o) (nd : ∀ a k, o ≠ .da a k) (x : O) : BodyAt own (S.set i x) c s bs as := h.fr (own := [i]) (FrB.refl.set (.inl (by simp)) e nd x) (fun j hj q => by simp at q; subst q; exact hi hj)
theorem BodyAt.meth (h : BodyAt own S c s bs as) {m : Str} (h1 : (m == ("here" : Str)) = false) (h2 : (m == ("kept" : Str)) = false) (h3 : (m == ("behind" : Str)) = false) (h4 : (m == ("ahead" : Str)) = false) : ∃ (k : Nat) (fs : List (Str × R)), S[k]? = some (O.ob c "Body" fs) ∧ fs.lookup m = none := by
  obtain ⟨n, nb, na, k, b, d, ps, qs, _, _, _, _, h5, _⟩ := h.ex
  exact ⟨n, _, h5, bdF_no h1 h2 h3 h4⟩
end
theorem bdF_ahead {x : D} {k b h : Addr} : (bdF x k b h).lookup ("ahead" : Str) = some (.ad h) := by
  unfold bdF
  rw [List.lookup, show (("ahead" : Str) == ("here" : Str)) = false by decide +kernel]; simp only
  rw [List.lookup, show (("ahead" : Str) == ("kept" : Str)) = false by decide +kernel]; simp only
  rw [List.lookup, show (("ahead" : Str) == ("behind" : Str)) = false by decide +kernel]; simp only
  rw [List.lookup, show (("ahead" : Str) == ("ahead" : Str)) = true by decide +kernel]
/-- a name: one to eight small letters -/
def nameL (l : List Nat) : Bool := decide (1 ≤ l.length) && decide (l.length ≤ 8) && l.all fun c => decide (97 ≤ c) && decide (c ≤ 122)
theorem abc_mem (c : Nat) : (!(!(Builtin.Str.occurrences (PySem.Str.ofString "abcdefghijklmnopqrstuvwxyz") ⟨#[c]⟩ 0 (PySem.Str.ofString "abcdefghijklmnopqrstuvwxyz").length 1).isEmpty)) = !(decide (97 ≤ c) && decide (c ≤ 122)) := by
  congr 1
  refine (PySem.StrLaws.found_one _ c).trans ?_
  have e : (PySem.Str.ofString "abcdefghijklmnopqrstuvwxyz").cps.toList = List.range' 97 26 := by decide +kernel
  rw [e, ← Bool.decide_and]
  have h : c ∈ List.range' 97 26 ↔ 97 ≤ c ∧ c ≤ 122 := by rw [List.mem_range'_1]; omega
  exact decide_eq_decide.mpr h
/-- a four that a body carries -/
structure OkFr (n : Nat) (f : List Int) : Prop where
  len : f.length = 4
  nz : ∃ x ∈ f, x ≠ 0
  bd : ∀ x ∈ f, Bd n x
theorem row_split {S : Sto} : ∀ {bs' : List Bs} {ps : List (List Int × Addr)} {s' : Bs}, RowAt S ps (bs' ++ [s']) → ∃ (ps' : List (List Int × Addr)) (p' : List Int × Addr), ps = ps' ++ [p'] ∧ RowAt S ps' bs' ∧ (p'.1 = s'.1 ∧ DaAt S p'.2 s'.2)
  | [], _, _, .cons h t => by cases t; exact ⟨[], _, rfl, .nil, h⟩
  | b :: bs', _, _, .cons h t => by
    obtain ⟨ps', p', e, h1, h2⟩ := row_split (bs' := bs') t
    exact ⟨_ :: ps', p', by rw [e]; rfl, .cons h h1, h2⟩
theorem BodyAt.cast {own : List Nat} {S S' : Sto} {c : Addr} {s : Bs} {bs as : List Bs} (h : BodyAt own S c s bs as) (e : S = S') : BodyAt own S' c s bs as := e ▸ h
theorem abc_len : (PySem.Str.ofString "abcdefghijklmnopqrstuvwxyz").length = 26 := by decide +kernel
theorem abc_at {i : Nat} (h : i < 26) : (PySem.Str.ofString "abcdefghijklmnopqrstuvwxyz").cps[((i : Nat) : Int).toNat]? = some (97 + i) := by
  have : ∀ i < 26, (PySem.Str.ofString "abcdefghijklmnopqrstuvwxyz").cps[i]? = some (97 + i) := by decide +kernel
  rw [Int.toNat_natCast]
  exact this i h
theorem OkFr.mul {m n : Nat} {f g : List Int} (h : OkFr m f) (k : OkFr n g) : OkFr (m + n + 3) (pln (qmul f g)) :=
  have z := qmul_nz h.len k.len h.nz k.nz
  ⟨by rw [pln_len, qmul_len h.len k.len], pln_nz z, pln_bds z (qmul_bd h.bd k.bd)⟩
theorem OkFr.mono {m n : Nat} {f : List Int} (h : OkFr m f) (e : m ≤ n) : OkFr n f := ⟨h.len, h.nz, fun x hx => (h.bd x hx).mono e⟩
theorem OkFr.pln {n : Nat} {f : List Int} (h : OkFr n f) : OkFr n (Z.pln f) := ⟨by rw [pln_len, h.len], pln_nz h.nz, pln_bds h.nz h.bd⟩
theorem OkFr.bk {n : Nat} {f : List Int} (h : OkFr n f) : OkFr n (Z.pln (qbk f)) :=
  have z := qbk_nz h.len h.nz
  ⟨by rw [pln_len, qbk_len h.len], pln_nz z, pln_bds z (qbk_bd h.bd)⟩
theorem OkFr.one : OkFr 1 [1, 0, 0, 0] := ⟨rfl, ⟨1, by simp, by decide⟩, fun x hx => by
  simp only [List.mem_cons, List.not_mem_nil, or_false] at hx
  rcases hx with rfl | rfl | rfl | rfl
  · exact Bd.lit (by decide)
  all_goals exact Bd.zero⟩
theorem name_app {st : List Nat} (sl : st.length ≤ 6) (sa : st.all (fun c => decide (97 ≤ c) && decide (c ≤ 122)) = true) {t : List Nat} (h1 : 1 ≤ t.length) (h2 : t.length ≤ 2) (ta : t.all (fun c => decide (97 ≤ c) && decide (c ≤ 122)) = true) : nameL (st ++ t) = true := by
  unfold nameL
  rw [List.all_append, sa, ta, List.length_append, decide_eq_true (by omega), decide_eq_true (by omega)]; rfl
theorem last_ne {st : List Nat} {x y : Nat} (h : x ≠ y) : st ++ [x] ≠ st ++ [y] := fun e => h (by simpa using e)
def mkD (k : Kp) (y : Str) : D := match getKp k y with
  | some f => .tup [.str y, foD f]
  | none => .non
theorem getKp_mem {k : Kp} {y : Str} (h : y ∈ k.map (·.1)) : ∃ f, getKp k y = some f := by
  obtain ⟨p, hp, e⟩ := List.mem_map.mp h
  unfold getKp
  cases q : k.find? fun p => decide (p.1 = y) with
  | none =>
    have := List.find?_eq_none.mp q p hp
    simp [e] at this
  | some z => exact ⟨z.2, rfl⟩
end Z
set_option Elab.async false
set_option linter.all false
set_option maxRecDepth 100000
set_option exponentiation.threshold 20000
/-! R66: kept stands in the order of their names. -/
namespace Z
open PySem PySem.Spec PyProof.Rows L2 RZ
abbrev ltS (a b : Str) : Bool := PyProof.Rows.strKind.blt a.cps.toList b.cps.toList
theorem rising_pw : ∀ (r : List Str) (p : Str), PyProof.Rows.risingS p r = true → (∀ x ∈ r, ltS x p = false) ∧ r.Pairwise (fun a b => ltS b a = false)
  | [], _, _ => ⟨by simp, .nil⟩
  | x :: r, p, h => by
    have h : (!ltCps x.cps.toList p.cps.toList && PyProof.Rows.risingS x r) = true := h
    rw [PyProof.Rows.ltCps_eq] at h
    have h : (!ltS x p && PyProof.Rows.risingS x r) = true := h
    rw [Bool.and_eq_true, Bool.not_eq_true'] at h
    obtain ⟨h1, h2⟩ := rising_pw r x h.2
    refine ⟨fun y hy => ?_, .cons (fun y hy => h1 y hy) h2⟩
    rcases List.mem_cons.mp hy with rfl | hy
    · exact h.1
    · cases q : ltS y p with
      | false => rfl
      | true =>
        rcases PyProof.Rows.strKind.negTrans _ x.cps.toList _ q with z | z
        · rw [show PyProof.Rows.strKind.blt y.cps.toList x.cps.toList = false from h1 y hy] at z; cases z
        · rw [show PyProof.Rows.strKind.blt x.cps.toList p.cps.toList = false from h.1] at z; cases z
theorem sorted_pw {ys : List Str} (h : PyProof.Rows.sortedS ys = true) : ys.Pairwise (fun a b => ltS b a = false) := by
  cases ys with
  | nil => exact .nil
  | cons y r =>
    obtain ⟨h1, h2⟩ := rising_pw r y h
    exact .cons h1 h2
theorem str_inj {x y : Str} (h : x.cps.toList = y.cps.toList) : x = y := by
  cases x; cases y
  congr 1
  exact Array.toList_inj.mp h
end Z
set_option Elab.async false
set_option linter.all false
set_option maxRecDepth 100000
set_option exponentiation.threshold 20000
/-! R67: chains with all they keep (k82, k96 and their like). -/
namespace Z
open PySem PySem.Spec PyProof.Rows L2 RZ
abbrev Js := List Jt
/-- a list of joints at a place that nothing writes to -/
def LaAt (own : List Nat) (S : Sto) (a : Addr) (js : Js) : Prop := ∃ n : Nat, n ∉ own ∧ S[n]? = some (.la a ((jsD js).map R.d))
abbrev LasAt (own : List Nat) (S : Sto) (ps : List Addr) (bs : List Js) : Prop := Paired (LaAt own S) ps bs
structure ChB (own : List Nat) (S : Sto) (c : Addr) (js : Js) (bs as : List Js) : Prop where
  ex : ∃ (n nb na : Nat) (a b d : Addr) (ps qs : List Addr), n ∈ own ∧ nb ∈ own ∧ na ∈ own ∧ nb ≠ na ∧ S[n]? = some (.ob c "Chain" (chF a b d)) ∧ S[nb]? = some (.la b (ps.map R.ad)) ∧ S[na]? = some (.la d (qs.map R.ad)) ∧ LaAt own S a js ∧ LasAt own S ps bs ∧ LasAt own S qs as
  low : ∀ i ∈ own, i < S.length
section
variable {own own' own2 : List Nat} {S S1 S2 : Sto} {c : Addr} {js : Js} {bs as : List Js} {i : Nat} {o x : O} {a : Addr}
theorem LaAt.fr (h : LaAt own S a js) (f : FrB own S S1) (x : OwnX own own' S) : LaAt own' S1 a js := by
  obtain ⟨n, q, e⟩ := h
  exact ⟨n, fun z => (x n z).elim q fun z => (by have := get_len e; omega), f.2 n _ e (.inl q)⟩
theorem LasAt.fr {ps : List Addr} (h : LasAt own S ps bs) (f : FrB own S S1) (x : OwnX own own' S) : LasAt own' S1 ps bs := Paired.mapP h fun _ _ z => z.fr f x
/-- what stands elsewhere stays -/
theorem ChB.fr (h : ChB own2 S c js bs as) (f : FrB own S S1) (dj : ∀ i ∈ own2, i ∉ own) (dl : ∀ (i : Nat) (a : Addr) (js : Js), i ∉ own2 → S[i]? = some (.la a ((jsD js).map R.d)) → i ∉ own) : ChB own2 S1 c js bs as := by
  obtain ⟨n, nb, na, a, b, d, ps, qs, h1, h2, h3, h4, h5, h6, h7, h8, h9, h10⟩ := h.ex
  have g : ∀ {a : Addr} {js : Js}, LaAt own2 S a js → LaAt own2 S1 a js := fun ⟨n, q, e⟩ => ⟨n, q, f.2 n _ e (.inl (dl n _ _ q e))⟩
  exact ⟨⟨n, nb, na, a, b, d, ps, qs, h1, h2, h3, h4, f.2 _ _ h5 (.inl (dj _ h1)), f.2 _ _ h6 (.inl (dj _ h2)), f.2 _ _ h7 (.inl (dj _ h3)), g h8, Paired.mapP h9 fun _ _ z => g z, Paired.mapP h10 fun _ _ z => g z⟩, fun i hi => Nat.lt_of_lt_of_le (h.low i hi) f.1⟩
theorem ChB.app (h : ChB own S c js bs as) (Y : Sto) : ChB own (S ++ Y) c js bs as := h.fr (own := []) (FrB.refl.app Y) (fun _ _ => by simp) (fun _ _ _ _ _ => by simp)
theorem ChB.put (h : ChB own S c js bs as) (hi : i ∉ own) {xs : List D} (e : S[i]? = some (.lst xs)) (x : O) : ChB own (S.set i x) c js bs as := h.fr (own := [i]) (FrB.refl.set (.inl (by simp)) e (by simp) x) (fun j hj q => by simp at q; subst q; exact hi hj) (fun j a js hj ej q => by simp at q; subst q; rw [e] at ej; cases ej)
theorem ChB.meth (h : ChB own S c js bs as) {m : Str} (h1 : (m == ("rows" : Str)) = false) (h2 : (m == ("behind" : Str)) = false) (h3 : (m == ("ahead" : Str)) = false) : ∃ (k : Nat) (fs : List (Str × R)), S[k]? = some (O.ob c "Chain" fs) ∧ fs.lookup m = none := by
  obtain ⟨n, nb, na, a, b, d, ps, qs, _, _, _, _, h5, _⟩ := h.ex
  exact ⟨n, _, h5, chF_no h1 h2 h3⟩
theorem ChB.cast {S' : Sto} (h : ChB own S c js bs as) (e : S = S') : ChB own S' c js bs as := e ▸ h
end
end Z
set_option Elab.async false
set_option linter.all false
set_option maxRecDepth 100000
set_option exponentiation.threshold 20000
/-! R68: the turn about a way that leads one point to another (k82, k83). -/
set_option Elab.async false
set_option linter.all false
set_option maxRecDepth 100000
set_option exponentiation.threshold 20000
/-! R69: sizes of inner products at large; what a joint reaches (k82, k83). -/
namespace Z
open PySem PySem.Spec PyProof.Rows L2 RZ
theorem Tp.one {m : Nat} {B : Int} {q : Rat} (h : Tp m (1 * B) q) : Tp m B q := by rw [Int.one_mul] at h; exact h
/-- a point over one bottom of n bits -/
def OkP (n : Nat) (p : Pt) : Prop := ∃ C : Int, C ≠ 0 ∧ Bd n C ∧ Tp3 n C p
theorem OkP.mono {m n : Nat} {p : Pt} (h : OkP m p) (k : m ≤ n) : OkP n p := let ⟨C, c0, b, t⟩ := h; ⟨C, c0, b.mono k, t.mono k⟩
theorem OkP.bq {n : Nat} {p : Pt} (h : OkP n p) : ∀ z ∈ qsOf p, BQ n z := fun z hz => by
  obtain ⟨C, c0, b, t⟩ := h
  exact (t z hz).bq c0 b
theorem Tp.neg {n : Nat} {B : Int} {q : Rat} (h : Tp n B q) : Tp n B (-q) := by
  obtain ⟨t, e, b⟩ := h.ex
  refine ⟨-t, ?_, b.neg⟩
  rw [e, Rat.div_def, Rat.div_def, Rat.intCast_neg, Rat.neg_mul]
theorem OkP.neg {n : Nat} {p : Pt} (h : OkP n p) : OkP n (-p.1, -p.2.1, -p.2.2) := by
  obtain ⟨C, c0, b, t⟩ := h
  exact ⟨C, c0, b, qs_mem3 (t p.1 (by simp [qsOf])).neg (t p.2.1 (by simp [qsOf])).neg (t p.2.2 (by simp [qsOf])).neg⟩
end Z
set_option Elab.async false
set_option linter.all false
set_option maxRecDepth 100000
/-! Z42: walking into a construct with what comes after kept closed (nested calls). -/
namespace Z
open PySem PySem.Spec PyProof.Rows L2 RZ
variable {r : Rho} {S : Sto}
theorem consI {w : PE1} {ws : PA1} {K : List SV → Sto → Prop} (h : ∀ P : PK1, (∀ x S1, (ws r S1 fun xs S2 => K (x :: xs) S2) → P x S1) → w r S P) : wCons w ws r S K := h _ fun _ _ h => h
theorem tupI {ws : PA1} {W : PK1} (h : ∀ P : List SV → Sto → Prop, (∀ xs S1, (match dataOf xs with | some ds => ds.length ≤ 16777216 ∧ W (.r (.d (.tup ds))) S1 | none => False) → P xs S1) → ws r S P) : wTup ws r S W := h _ fun _ _ h => h
theorem ifI {c : PT1} {t u : PS1} {N : En} (h : ∀ P : Bool → Sto → Prop, (∀ b S1, (if b = true then t N r S1 else u N r S1) → P b S1) → c r S P) : wIf c t u N r S := h _ fun _ _ h => h
end Z
set_option Elab.async false
set_option linter.all false
set_option maxRecDepth 100000
/-! Z43: try: .. except T: .. without a name. -/
namespace Z
open PySem PySem.Spec PyProof.Rows L2 RZ
section
variable {X : Cx} {body suite : List Stmt} {b0 : Stmt} {pos : Pos}
/-- kn: what the clause takes, all that the body may raise -/
abbrev wTryN (kn : List Str) (body : PX1) (sw : PS1) : PS1 := fun N r S => body { n := N, ex := fun x r' S' => x ∈ kn ∧ sw N r' S' } r S
theorem ws_tryN {T : Str} {kn : List Str} {bd : PX1} {sw : PS1} {np pos' : Pos} (hs : X.stack = X.env :: X.outer) (hf : X.env.frame = some X.env.locals) (hT : Gl X T) (hcat : XC X.K X.mg kn T)
    (hb : ∀ (W : WX) (pn : List (Addr × Obj)) (xe : Value → Shared → Prop), Takes (X.tr pn xe) W → PassesOwn (model X.prog X.w) X.A X.env xe → WXs (X.tr pn xe) W body bd)
    (hsu : ∀ (a : Addr) (pn : List (Addr × Obj)), WSs (X.suite a pn) (b0 :: suite) sw)
    (hd : (T == ("__debug__" : Str)) = false := by decide) :
    WS X (.Try body [.ExceptHandler (some (.Name T np)) none (b0 :: suite) pos'] [] [] pos) (wTryN kn bd sw) := by
  obtain ⟨D, hmT, hcat⟩ := hcat.ex
  refine ⟨psImp (ps_try_only hs hf ⟨hT, hd, .inl hmT⟩ (takes0 (X := X)) (tb := fun W => upX X.K W bd) (fun W pn xe tk po => (hb W pn xe tk po).pss) (ts := fun a cls d => upS X.K sw)
    (fun a oe cls d pn _ _ => (hsu a ((a, oe) :: pn)).pss)) fun Dn s H ⟨m, r, S, N, hE, hS, hw, hff⟩ => ?_⟩
  refine ⟨m, r, S, _, hE, hS, hw, hff, fun x C r' S' m' H' s' ⟨hx, hn⟩ c g e q => ?_⟩
  obtain ⟨C', c', ec⟩ := hcat x hx
  obtain rfl := c.uniq c'
  exact ⟨true, ec, fun _ a ha => ⟨m', r', S', N, e, q, hn, hff.later g⟩, fun z => nomatch z⟩
end
section
variable {X : Cx}
/-- list(x) of any list at a place: a new one at a place -/
abbrev fCpLa : PF := fun xs S W => match xs with
  | [.r (.ad a)] => ∃ (n : Nat) (ys : List R), S[n]? = some (O.la a ys) ∧ ∀ b, W (.r (.ad b)) (S ++ [.la b ys])
  | _ => False
theorem f_cpLa : FnP X (.type "list") fCpLa := by
  refine ⟨_, call_list_of, fun xs S W vs m H H0 Q r q w f => ?_⟩
  unfold fCpLa at w
  split at w
  · rename_i a
    obtain ⟨n, ys, e, w⟩ := w
    obtain ⟨v, rfl, q1⟩ := q.one
    cases (show v = V.ref a from q1)
    obtain ⟨us, _, h1, h2⟩ := r.la e
    refine ⟨a, us, rfl, .inl (.inl (.inl h1)), fun p hp => ?_⟩
    have ga := Grow.alloc (m := m) (o := .lst us) hp
    exact f (.r (.ad p)) _ (.ref p) (m ++ [p]) _ (w p) (Grow.push hp ga) ((r.alloc hp).pushO (r.notmem hp) ⟨rfl, us, upd_same, RepRs.conv0 ga h2⟩) rfl
  · exact w.elim
end
end Z
set_option Elab.async false
set_option linter.all false
set_option maxRecDepth 100000
/-! Z47: for, with a body that may raise. -/
namespace Z
open PySem PySem.Spec PyProof.Rows L2 RZ
section
variable {X : Cx} {Wx : WX} {tg iter : Expr} {body : List Stmt} {pos : Pos} {tb : PX1}
def forX (k : Nat) (chk : Sto → Prop) (f : R → Rho → Option Rho) (body : PX1) (N : EX) : List R → Rho → Sto → Prop
  | [], r, S => chk S ∧ N.n.nx r S
  | x :: xs, r, S => chk S ∧ match f x r with
    | some r1 => body { n := { nx := fun r2 S2 => ∃ r3 S3, Cut k r2 S2 r3 S3 ∧ forX k chk f body N xs r3 S3, rt := N.n.rt, bk := N.n.nx, ct := fun r2 S2 => ∃ r3 S3, Cut k r2 S2 r3 S3 ∧ forX k chk f body N xs r3 S3 }, ex := N.ex } r1 S
    | none => False
abbrev xFor (wi : PI1) (f : R → Rho → Option Rho) (body : PX1) : PX1 := fun N r S => wi r S fun it S1 => forX S1.length it.chk f body N it.items r S1
end
end Z
set_option Elab.async false
set_option linter.all false
set_option maxRecDepth 100000
/-! Z44: len(set(x)), x a list of tuples of whole numbers. -/
namespace Z
open PySem PySem.Spec PyProof.Rows L2 RZ
section
variable {X : Cx} {e : Expr} {we : PE1}
/-- rows of whole numbers -/
def intssOf : List D → Option (List (List Int))
  | [] => some []
  | .tup xs :: r => match intsOf xs, intssOf r with
    | some ns, some rs => some (ns :: rs)
    | _, _ => none
  | _ :: _ => none
abbrev wUnlikeT (w : PE1) : PE1 := fun r S W => w r S fun x S1 => match isLst x, seqOf S1 x with
  | true, some ds => match intssOf ds with
    | some ns => ns.length < 64 ∧ ∀ M : List (List Int), M.Nodup → (∀ y, y ∈ M ↔ y ∈ ns) → W (.r (.d (.int (M.length : Nat)))) S1
    | none => False
  | _, _ => False
end
end Z
set_option Elab.async false
set_option linter.all false
set_option maxRecDepth 100000
/-! Z45: numbers of up to 4,300 figures as texts, and back: the limit on figures stands as it is in a fresh interpreter. -/
namespace Z
open PySem PySem.Spec PyProof.Rows L2 RZ
section
variable {X : Cx}
/-- int(text), up to 4,300 figures -/
abbrev fIntTB : PF := fun xs S W => match xs with
  | [.r (.d (.str a))] => ∃ n : Int, intText? a = some n ∧ a.length ≤ 16777216 ∧ (numSeenOf a).length = a.length ∧ W (.r (.d (.int n))) S
  | _ => False
/-- str(number), up to 4,300 figures -/
abbrev fStrB : PF := fun xs S W => match xs with
  | [.r (.d (.int i))] => Fg 4300 i ∧ W (.r (.d (.str (numT i)))) S
  | _ => False
end
end Z
set_option Elab.async false
set_option linter.all false
set_option maxRecDepth 100000
/-! Z46: the head of a law whose texts have more than 640 figures: the limit on figures is known at the base, too. -/
set_option Elab.async false
set_option linter.all false
set_option maxRecDepth 100000
set_option exponentiation.threshold 20000
/-! R80: things as texts with up to 1,500 figures, told back (k45). -/
set_option Elab.async false
set_option linter.all false
set_option maxRecDepth 100000
set_option maxHeartbeats 1000000
/-! Z48: e.replace("..", ["..", .., ..][i]); defs whose bodies begin with a token given out. -/
namespace Z
open PySem PySem.Spec PyProof.Rows L2 RZ
abbrev wRepC (y : Str) (zs : List Str) (wo wi : PE1) : PE1 := fun r S W => wo r S fun x S1 => match x with
  | .r (.d (.str a)) => wi r S1 fun j S2 => match j with
    | .r (.d (.int i)) => ∃ z, (0 ≤ i ∧ i < zs.length) ∧ zs[i.toNat]? = some z ∧ a.length + (a.length + 1) * z.length ≤ 16777216 ∧ W (.r (.d (.str (Txt.replace a y z)))) S2
    | _ => False
  | _ => False
/-! ### blocks -/
/-- text times number, longer ones -/
abbrev pSMulB : P2 := fun x y S W => match x, y with
  | .r (.d (.str z)), .r (.d (.int n)) => (0 ≤ n ∧ n ≤ 4000 ∧ z.length ≤ 1000) ∧ W (.r (.d (.str (Txt.mul z n)))) S
  | _, _ => False
end Z
set_option Elab.async false
set_option linter.all false
set_option maxRecDepth 100000
set_option exponentiation.threshold 20000
/-! R81: which texts write whole numbers, fractions: the law's reader, as a function on signs. -/
namespace Z
open PySem PySem.Spec PyProof.Rows L2 RZ
theorem tx_all (z : Str) : z = Tx z.cps.toList := by cases z; rfl
end Z
set_option Elab.async false
set_option linter.all false
set_option maxRecDepth 100000
set_option maxHeartbeats 2000000
/-! Z49: a list comprehension whose element may raise. -/
namespace Z
open PySem PySem.Spec PyProof.Rows L2 RZ
/-- what a call may let out is taken -/
def Pas (X : Cx) (Wx : WX) : Prop := ∀ (pins : List (Addr × Obj)) (σ : L2.St) (H : Hp) (s : Shared) (E : XK) (e : Value) (s' : Shared), Inv X pins σ H s → (∀ cls d H', E cls d H' → Wx cls d σ H') → L2.CX X.prog X.w X.stack H s E e s' → X.xe e s'
section
variable {X : Cx} {Wx : WX} {pins : List (Addr × Obj)} {σ : L2.St} {H H3 : Hp} {s s' s3 : Shared} {E : XK} {u : Value}
theorem Pas.of (tk : Takes X Wx) : Pas X Wx := fun pins σ H s E e s' I hW c => tk e s' (XE.of_call I hW c)
end
def lcX (k : Nat) (chk : Sto → Prop) (f : R → Rho → Option Rho) (t : PT1) (w : PEX) (r : Rho) (XW : PXK) : List R → Sto → (List D → Sto → Prop) → Prop
  | [], S, W => chk S ∧ W [] S
  | x :: xs, S, W => chk S ∧ match f x r with
    | some r1 => t r1 S fun b S1 => if b = true then w r1 S1 (fun y S2 => match y with
        | .r (.d z) => lcX k chk f t w r XW xs (S2.take k) fun zs S3 => W (z :: zs) S3
        | _ => False) XW
      else lcX k chk f t w r XW xs (S1.take k) W
    | none => False
abbrev xLc (wi : PI1) (f : R → Rho → Option Rho) (t : PT1) (w : PEX) (own : List Nat) : PEX := fun r S W XW => wi r S fun it S1 => it.items.length ≤ 16777216 ∧ lcX S1.length it.chk f t w (wipeR r own) XW it.items S1 fun zs S2 => W (.f zs) S2
section
variable {X : Cx} {Wx : WX} {e iter tg elt : Expr} {es ifs : List Expr} {pos : Pos} {tt : PT1}
/-- tuple(..), list(..) of what may raise -/
abbrev xFn (w : PF) (was : PAX) : PEX := fun r S W XW => was r S (fun xs S1 => w xs S1 W) XW
end
end Z
set_option Elab.async false
set_option linter.all false
set_option maxRecDepth 100000
/-! R82: rows, points, tables, settings read: all parts or none. -/
set_option Elab.async false
set_option linter.all false
set_option maxRecDepth 100000
set_option exponentiation.threshold 20000
/-! R83: what is read is just what is shown. -/
set_option Elab.async false
set_option linter.all false
set_option maxRecDepth 100000
/-! Z51: d[k] = what may raise, d a dict at a place. -/
namespace Z
open PySem PySem.Spec PyProof.Rows L2 RZ
section
variable {X : Cx} {Wx : WX} {p2 pos : Pos} {wo : PE1}
abbrev xPutDa (wo wi : PE1) (we : PEX) : PX1 := fun N r S => we r S (fun x S1 => wo r S1 fun o S2 => wi r S2 fun k S3 => match o, k, x with
  | .r (.ad a), .r (.d k), .r z => noLoc z = true ∧ ∃ (n : Nat) (kvs : List (Key × R)) (kk : Key), S3[n]? = some (O.da a kvs) ∧ keyK k = some kk ∧ kvs.length < 16777216 ∧ N.n.nx r (S3.set n (.da a (putA kvs kk z)))
  | _, _, _ => False) (fun x S1 => N.ex x r S1)
end
end Z
set_option Elab.async false
set_option linter.all false
set_option maxRecDepth 100000
/-! Z52: a for loop over a list whose making may raise. -/
namespace Z
open PySem PySem.Spec PyProof.Rows L2 RZ
abbrev PXI := Rho → Sto → (It1 → Sto → Prop) → PXK → Prop
section
variable {X : Cx} {Wx : WX} {tg iter e : Expr} {body : List Stmt} {pos : Pos} {tb : PX1}
abbrev xIt (w : PEX) : PXI := fun r S W XW => w r S (fun x S1 => match itOf S1 x with
  | some it => W it S1
  | none => False) XW
abbrev xForI (wi : PXI) (f : R → Rho → Option Rho) (body : PX1) : PX1 := fun N r S => wi r S (fun it S1 => forX S1.length it.chk f body N it.items r S1) (fun x S1 => N.ex x r S1)
end
end Z
set_option Elab.async false
set_option linter.all false
set_option maxRecDepth 100000
/-! Z53: texts compared by their signs. -/
namespace Z
open PySem PySem.Spec PyProof.Rows L2 RZ
abbrev pGtS : P2 := fun x y S W => match x, y with
  | .r (.d (.str a)), .r (.d (.str b)) => W (.r (.d (.bl (decide (b.cps.toList < a.cps.toList))))) S
  | _, _ => False
abbrev pLeS : P2 := fun x y S W => match x, y with
  | .r (.d (.str a)), .r (.d (.str b)) => W (.r (.d (.bl (!decide (b.cps.toList < a.cps.toList))))) S
  | _, _ => False
end Z
set_option Elab.async false
set_option linter.all false
set_option maxRecDepth 100000
set_option exponentiation.threshold 20000
/-! R84: papers of chains and bodies: which texts are some. -/
namespace Z
open PySem PySem.Spec PyProof.Rows L2 RZ
theorem fg_bd2 {i : Int} (h : Fg 1500 i) : Bd 5000 i := Bd.lit (Nat.lt_of_lt_of_le h.lt (by decide +kernel))
end Z
set_option Elab.async false
set_option linter.all false
set_option maxRecDepth 100000
set_option exponentiation.threshold 20000
/-! R85: what a paper's joints are, as fractions. -/
namespace Z
open PySem PySem.Spec PyProof.Rows L2 RZ
abbrev nd (q : Rat) : Int × Int := (q.num, (q.den : Int))
abbrev qs3 (p : Pt) : List Rat := [p.1, p.2.1, p.2.2]
abbrev J0 := List Int × List (Int × Int) × List Int
theorem blt_lt {a b : Str} : ltS a b = decide (a.cps.toList < b.cps.toList) := rfl
/-- marks in order are the kept ones, as their names rise -/
theorem marks_rise {ys ns : List Str} (p : ys.Perm ns) (h : PyProof.Rows.sortedS ys = true) (up : ns.Pairwise fun a b => a.cps.toList < b.cps.toList) : ys = ns := by
  refine List.Perm.eq_of_pairwise (le := fun a b => ltS b a = false) (fun a b _ _ h1 h2 => str_inj (PyProof.Rows.strKind.total _ _ h2 h1)) (sorted_pw h) (up.imp fun {a b} q => ?_) p
  rw [blt_lt]
  exact decide_eq_false fun z => List.lt_irrefl _ (List.lt_trans q z)
/-- what is known of a stand that a text writes -/
structure FOk (f : List Int) : Prop where
  len : f.length = 4
  fg : ∀ i ∈ f, Fg 1500 i
  nz : ∃ i ∈ f, i ≠ 0
  pl : pln f = f
theorem FOk.frok {f : List Int} (h : FOk f) : OkFr 5000 f := ⟨h.len, h.nz, fun x hx => fg_bd2 (h.fg x hx)⟩
theorem getKp_of : ∀ {ps : Kp}, ((ps.map (·.1)).Pairwise fun a b => a.cps.toList < b.cps.toList) → ∀ p ∈ ps, getKp ps p.1 = some p.2
  | [], _, p, hp => by cases hp
  | q :: r, up, p, hp => by
    rw [List.map_cons] at up
    obtain ⟨h1, h2⟩ := List.pairwise_cons.mp up
    unfold getKp
    rcases List.mem_cons.mp hp with rfl | hp
    · rw [List.find?_cons_of_pos (by simp)]; rfl
    · have ne : q.1 ≠ p.1 := fun e => by
        have := h1 p.1 (List.mem_map.mpr ⟨p, hp, rfl⟩)
        rw [e] at this
        exact List.lt_irrefl _ this
      rw [List.find?_cons_of_neg (by simpa using ne)]
      exact getKp_of h2 p hp
end Z
set_option Elab.async false
set_option linter.all false
set_option maxRecDepth 100000
/-! Z54: dict(a list of pairs), at a place. -/
namespace Z
open PySem PySem.Spec PyProof.Rows L2 RZ
/-- pairs of a key and data -/
def pairK : List D → Option (List (Key × D))
  | [] => some []
  | .tup [k, v] :: xs => match keyK k, pairK xs with
    | some kk, some r => some ((kk, v) :: r)
    | _, _ => none
  | _ :: _ => none
/-- the dict of pairs: later ones win -/
def dictA (ps : List (Key × D)) : List (Key × R) := ps.foldl (fun acc p => putA acc p.1 (.d p.2)) []
/-- dict(pairs), at a place -/
abbrev fDictA : PF := fun xs S W => match xs with
  | [.r (.d (.lst ys))] => ∃ ps : List (Key × D), pairK ys = some ps ∧ ∀ a, W (.r (.ad a)) (S ++ [.da a (dictA ps)])
  | _ => False
end Z
set_option Elab.async false
set_option linter.all false
set_option maxRecDepth 100000
/-! Z55: len of a dict at a place; isinstance of a list at a place. -/
namespace Z
open PySem PySem.Spec PyProof.Rows L2 RZ
section
variable {X : Cx} {e a b : Expr} {es : List Expr} {pos : Pos} {we wa wb : PE1}
/-- len(d), a dict at a place -/
abbrev fLenDa : PF := fun xs S W => match xs with
  | [.r (.ad a)] => ∃ (n : Nat) (kvs : List (Key × R)), S[n]? = some (O.da a kvs) ∧ W (.r (.d (.int kvs.length))) S
  | _ => False
/-- isinstance(x, T) of a list at a place -/
abbrev wIsiAT (T : String) (wa : PE1) : PE1 := fun r S W => wa r S fun x S1 => match x with
  | .r (.ad a) => ∃ (n : Nat) (xs : List R), S1[n]? = some (O.la a xs) ∧ W (.r (.d (.bl (T == "list")))) S1
  | _ => False
end
end Z
set_option Elab.async false
set_option linter.all false
set_option maxRecDepth 100000
set_option exponentiation.threshold 20000
/-! R86: what is written is read back: joints, chains, kept stands, bodies; kept stands in order of their names. -/
namespace Z
open PySem PySem.Spec PyProof.Rows L2 RZ
theorem name_len {l : List Nat} (h : nameL l = true) : 1 ≤ l.length ∧ l.length ≤ 8 := by
  unfold nameL at h
  simp only [Bool.and_eq_true, decide_eq_true_eq] at h
  exact h.1
/-! ### kept stands in order of their names -/
def srK (k : Kp) : Kp := k.mergeSort fun a b => !ltS b.1 a.1
abbrev nkD (p : Str × List Int) : D := .tup [.str p.1, foD p.2]
theorem srK_perm (k : Kp) : (srK k).Perm k := List.mergeSort_perm _ _
theorem ltS_asym {a b : Str} (h : ltS a b = true) : ltS b a = false := by
  cases e : ltS b a with
  | false => rfl
  | true =>
    rw [blt_lt] at h e
    exact absurd (List.lt_trans (of_decide_eq_true h) (of_decide_eq_true e)) (List.lt_irrefl _)
theorem srK_pw (k : Kp) : (srK k).Pairwise fun a b => ltS b.1 a.1 = false := by
  have := List.pairwise_mergeSort (le := fun (a b : Str × List Int) => !ltS b.1 a.1) (fun a b c h1 h2 => by
    simp only [Bool.not_eq_true'] at h1 h2 ⊢
    cases e : ltS c.1 a.1 with
    | false => rfl
    | true =>
      rcases PyProof.Rows.strKind.negTrans _ b.1.cps.toList _ e with q | q
      · exact absurd (q.symm.trans h2) (by decide)
      · exact absurd (q.symm.trans h1) (by decide)) (fun a b => by
    simp only [Bool.or_eq_true, Bool.not_eq_true']
    cases e : ltS b.1 a.1 with
    | false => exact .inl rfl
    | true => exact .inr (ltS_asym e)) k
  exact this.imp fun h => by simpa using h
theorem srK_up {k : Kp} (nd : (k.map (·.1)).Nodup) : ((srK k).map (·.1)).Pairwise fun a b => a.cps.toList < b.cps.toList := by
  have nd2 : ((srK k).map (·.1)).Nodup := ((srK_perm k).map _).nodup_iff.mpr nd
  have pw := srK_pw k
  rw [List.pairwise_map]
  rw [List.Nodup, List.pairwise_map] at nd2
  refine (pw.and nd2).imp fun {a b} q => ?_
  refine Classical.byContradiction fun c => q.2 (str_inj ?_)
  have h1 : ltS a.1 b.1 = false := by rw [blt_lt]; exact decide_eq_false c
  exact PyProof.Rows.strKind.total _ _ h1 q.1
theorem up_nodup {k : Kp} (up : (k.map (·.1)).Pairwise fun a b => a.cps.toList < b.cps.toList) : (k.map (·.1)).Nodup :=
  up.imp fun {a b} q e => by rw [e] at q; exact List.lt_irrefl _ q
theorem getKp_perm {k m : Kp} (p : k.Perm m) (nd : (k.map (·.1)).Nodup) (x : Str) : getKp k x = getKp m x := by
  have one : ∀ {k : Kp}, (k.map (·.1)).Nodup → ∀ q ∈ k, getKp k q.1 = some q.2 := by
    intro k
    induction k with
    | nil => intro _ q hq; cases hq
    | cons a r ih =>
      intro nd q hq
      rw [List.map_cons] at nd
      obtain ⟨n1, n2⟩ := List.nodup_cons.mp nd
      unfold getKp
      rcases List.mem_cons.mp hq with rfl | hq
      · rw [List.find?_cons_of_pos (by simp)]; rfl
      · rw [List.find?_cons_of_neg (by simp; intro e; exact n1 (e ▸ List.mem_map.mpr ⟨q, hq, rfl⟩))]
        exact ih n2 q hq
  have nd2 : (m.map (·.1)).Nodup := (p.map _).nodup_iff.mp nd
  by_cases h : x ∈ k.map (·.1)
  · obtain ⟨q, hq, rfl⟩ := List.mem_map.mp h
    rw [one nd q hq, one nd2 q (p.mem_iff.mp hq)]
  · have h2 : x ∉ m.map (·.1) := fun c => h ((p.map _).mem_iff.mpr c)
    have no : ∀ {k : Kp}, x ∉ k.map (·.1) → getKp k x = none := fun {k} h => by
      unfold getKp
      rw [List.find?_eq_none.mpr fun q hq => by simp; intro e; exact h (e ▸ List.mem_map.mpr ⟨q, hq, rfl⟩)]
      rfl
    rw [no h, no h2]
/-- the marks that are told -/
theorem marks_srK {k : Kp} (nd : (k.map (·.1)).Nodup) {ys : List Str} (p : ys.Perm (k.map (·.1))) (s : PyProof.Rows.sortedS ys = true) : ys.map (mkD k) = (srK k).map nkD := by
  have up := srK_up nd
  have e := marks_rise (p.trans ((srK_perm k).map _).symm) s up
  have nd2 := up_nodup up
  rw [e, List.map_map]
  refine List.map_congr_left fun q hq => ?_
  show mkD k q.1 = _
  unfold mkD
  rw [← getKp_perm (srK_perm k) nd2, getKp_of up q hq]
theorem putKp_nodup {k : Kp} (nd : (k.map (·.1)).Nodup) (x : Str) (f : List Int) : ((putKp k x f).map (·.1)).Nodup := by
  unfold putKp
  split
  · rw [List.map_map]
    have e : k.map ((·.1) ∘ fun p : Str × List Int => if p.1 = x then (p.1, f) else p) = k.map (·.1) := List.map_congr_left fun p hp => by
      show (if p.1 = x then (p.1, f) else p).1 = p.1
      split <;> rfl
    rw [e]; exact nd
  · rename_i h
    rw [List.map_append, List.nodup_append]
    refine ⟨nd, by simp, fun a ha b hb => ?_⟩
    simp only [List.map_cons, List.map_nil, List.mem_singleton] at hb
    subst hb
    intro e
    subst e
    obtain ⟨p, hp, e⟩ := List.mem_map.mp ha
    exact h (List.any_eq_true.mpr ⟨p, hp, decide_eq_true e⟩)
theorem putKp_mem {k : Kp} {x : Str} {f : List Int} {p : Str × List Int} (h : p ∈ putKp k x f) : p ∈ k ∨ p = (x, f) := by
  unfold putKp at h
  split at h
  · obtain ⟨q, hq, rfl⟩ := List.mem_map.mp h
    split
    · rename_i e; exact .inr (by rw [e])
    · exact .inl hq
  · rcases List.mem_append.mp h with h | h
    · exact .inl h
    · exact .inr (List.mem_singleton.mp h)
/-! ### a dict of the marks -/
end Z
namespace Z
open PySem PySem.Spec PyProof.Rows L2 RZ
theorem row_path {S : Sto} {ps : List (List Int × Addr)} {bs : List Bs} (h : RowAt S ps bs) : ps.map (fun p => foD p.1) = bs.map fun s => foD s.1 := by
  unfold RowAt at h
  induction h with
  | nil => rfl
  | cons hd tl ih => rw [List.map_cons, List.map_cons, ih, hd.1]
end Z
namespace Z
open PySem PySem.Spec PyProof.Rows L2 RZ
/-- what a body tells: its stand, its marks, its path -/
def toldL (s : Bs) (bs : List Bs) : List D := [foD (pln s.1), .lst ((srK s.2).map nkD), .lst ((bs ++ [s]).map fun s => foD s.1)]
theorem putB_behind {x : D} {k b h y : Addr} : putR "behind" (.ad y) (bdF x k b h) = bdF x k y h := by
  unfold bdF; rw [putR, if_neg (by decide +kernel), putR, if_neg (by decide +kernel), putR, if_pos rfl]
end Z
set_option Elab.async false
set_option linter.all false
set_option maxRecDepth 100000
set_option exponentiation.threshold 20000
/-! R87: what a body tells along its deeds. -/
namespace Z
open PySem PySem.Spec PyProof.Rows L2 RZ
/-- what is known of a state of a body -/
structure OkS (n m : Nat) (s : Bs) : Prop where
  ok : OkFr n s.1
  pl : pln s.1 = s.1
  nd : (s.2.map (·.1)).Nodup
  len : s.2.length ≤ m
  kp : ∀ p ∈ s.2, OkFr n p.2 ∧ pln p.2 = p.2
theorem OkS.mono {n n' m m' : Nat} {s : Bs} (h : OkS n m s) (hn : n ≤ n') (hm : m ≤ m') : OkS n' m' s := ⟨h.ok.mono hn, h.pl, h.nd, Nat.le_trans h.len hm, fun p hp => ⟨(h.kp p hp).1.mono hn, (h.kp p hp).2⟩⟩
theorem OkS.turn {n n' m : Nat} {s : Bs} (h : OkS n m s) (hn : n ≤ n') {g : List Int} (ok : OkFr n' g) (pl : pln g = g) : OkS n' m (g, s.2) := ⟨ok, pl, h.nd, h.len, fun p hp => ⟨(h.kp p hp).1.mono hn, (h.kp p hp).2⟩⟩
theorem OkS.mark {n m : Nat} {s : Bs} (h : OkS n m s) (x : Str) : OkS n (m + 1) (s.1, putKp s.2 x s.1) := ⟨h.ok, h.pl, putKp_nodup h.nd x s.1, Nat.le_trans (putKp_len s.2 x s.1) (by have := h.len; omega), fun p hp => by
  rcases putKp_mem hp with hp | rfl
  · exact h.kp p hp
  · exact ⟨h.ok, h.pl⟩⟩
theorem dp_le {xs : List D} {n : Nat} (h : ∀ x ∈ xs, (py x).depth ≤ n) : PyData.depthAll (pys xs) ≤ n := by
  induction xs with
  | nil => exact Nat.zero_le _
  | cons x xs ih => exact Nat.max_le.mpr ⟨h x (by simp), ih fun y hy => h y (by simp [hy])⟩
theorem dp_fo (f : List Int) : (py (foD f)).depth ≤ 12 := by
  show PyData.depthAll (pys (f.map D.int)) + 1 ≤ 12
  have := depth_ints f
  omega
theorem dp_told (s : Bs) (bs : List Bs) : (py (.lst (toldL s bs))).depth ≤ 20 := by
  show PyData.depthAll (pys (toldL s bs)) + 1 ≤ 20
  have h : PyData.depthAll (pys (toldL s bs)) ≤ 18 := dp_le fun x hx => by
    simp only [toldL, List.mem_cons, List.not_mem_nil, or_false] at hx
    rcases hx with rfl | rfl | rfl
    · exact Nat.le_trans (dp_fo _) (by decide)
    · show PyData.depthAll (pys _) + 1 ≤ 18
      have : PyData.depthAll (pys ((srK s.2).map nkD)) ≤ 15 := dp_le fun x hx => by
        obtain ⟨p, _, rfl⟩ := List.mem_map.mp hx
        show PyData.depthAll [py (.str p.1), py (foD p.2)] + 1 ≤ 15
        have h1 := dp_fo p.2
        show max (py (.str p.1)).depth (max (py (foD p.2)).depth 0) + 1 ≤ 15
        have h2 : (py (.str p.1)).depth ≤ 5 := by simp [py, PyData.depth]
        omega
      omega
    · show PyData.depthAll (pys _) + 1 ≤ 18
      have : PyData.depthAll (pys ((bs ++ [s]).map fun s => foD s.1)) ≤ 15 := dp_le fun x hx => by
        obtain ⟨p, _, rfl⟩ := List.mem_map.mp hx
        exact Nat.le_trans (dp_fo _) (by decide)
      omega
  omega
end Z
namespace Z
open PySem PySem.Spec PyProof.Rows L2 RZ
/-- a body that has a history and stands at a place of it -/
def AtH (H : List Bs) (own : List Nat) (S : Sto) (c : Addr) (j : Nat) : Prop := ∃ t, H[j]? = some t ∧ BodyAt own S c t (H.take j) (H.drop (j + 1)).reverse
theorem AtH.fr {H : List Bs} {own own2 : List Nat} {S S1 : Sto} {c : Addr} {j : Nat} (h : AtH H own2 S c j) (f : FrB own S S1) (dj : ∀ i ∈ own2, i ∉ own) : AtH H own2 S1 c j := by
  obtain ⟨t, e, b⟩ := h
  exact ⟨t, e, b.fr f dj⟩
theorem cutD_init {xs : List D} {m : Nat} (h : xs.length = m + 1) : cutD xs none (some (-1)) = xs.take m := by
  unfold cutD
  rw [HT.sIx_none]
  have e : HT.sIx xs.length xs.length (some (-1)) = m := by
    unfold HT.sIx
    simp [h]
    omega
  rw [e]; simp
end Z
set_option Elab.async false
set_option linter.all false
set_option maxRecDepth 100000
set_option exponentiation.threshold 20000
/-! R88: the papers of drawn chains and bodies: sizes. -/
namespace Z
open PySem PySem.Spec PyProof.Rows L2 RZ
/-- a drawn joint as a text writes it -/
def j0 (j : Jr) : J0 := (j.1, (qs3 j.2.1).map nd, [j.2.2.1, j.2.2.2])
end Z
set_option Elab.async false
set_option linter.all false
set_option maxRecDepth 100000
set_option exponentiation.threshold 20000
/-! R89: a state of one's own beside a body: what each deed does, what it is answered. -/
namespace Z
open PySem PySem.Spec PyProof.Rows L2 RZ
/-- a state with its history -/
structure StB where
  s : Bs
  bs : List Bs
  as : List Bs
abbrev BodyS (own : List Nat) (S : Sto) (c : Addr) (t : StB) : Prop := BodyAt own S c t.s t.bs t.as
/-- the same kept by lists -/
structure OwnAt (own : List Nat) (S : Sto) (p : Addr) (t : StB) : Prop where
  ex : ∃ (n nb na : Nat) (k b d : Addr) (ps qs : List (List Int × Addr)), n ∈ own ∧ nb ∈ own ∧ na ∈ own ∧ nb ≠ na ∧ S[n]? = some (.la p [.tr [.d (foD t.s.1), .ad k], .ad b, .ad d]) ∧ S[nb]? = some (.la b (psR ps)) ∧ S[na]? = some (.la d (psR qs)) ∧ DaAt S k t.s.2 ∧ RowAt S ps t.bs ∧ RowAt S qs t.as
  low : ∀ i ∈ own, i < S.length
section
variable {own own2 : List Nat} {S S1 : Sto} {p : Addr} {t : StB}
theorem OwnAt.fr (h : OwnAt own2 S p t) (f : FrB own S S1) (dj : ∀ i ∈ own2, i ∉ own) : OwnAt own2 S1 p t := by
  obtain ⟨n, nb, na, k, b, d, ps, qs, h1, h2, h3, h4, h5, h6, h7, h8, h9, h10⟩ := h.ex
  exact ⟨⟨n, nb, na, k, b, d, ps, qs, h1, h2, h3, h4, f.2 _ _ h5 (.inl (dj _ h1)), f.2 _ _ h6 (.inl (dj _ h2)), f.2 _ _ h7 (.inl (dj _ h3)), h8.fr f, h9.fr f, h10.fr f⟩, fun i hi => Nat.lt_of_lt_of_le (h.low i hi) f.1⟩
theorem OwnAt.app (h : OwnAt own S p t) (Y : Sto) : OwnAt own (S ++ Y) p t := h.fr (own := []) (FrB.refl.app Y) (fun _ _ => by simp)
theorem OwnAt.put {i : Nat} {o : O} (h : OwnAt own S p t) (hi : i ∉ own) (e : S[i]? = some o) (nd : ∀ a k, o ≠ .da a k) (x : O) : OwnAt own (S.set i x) p t := h.fr (own := [i]) (FrB.refl.set (.inl (by simp)) e nd x) (fun j hj q => by simp at q; subst q; exact hi hj)
end
/-- a state that may be reckoned with -/
structure OkT (n m : Nat) (t : StB) : Prop where
  s : OkS n m t.s
  bs : ∀ x ∈ t.bs, OkS n m x
  as : ∀ x ∈ t.as, OkS n m x
  lb : t.bs.length ≤ m
  la : t.as.length ≤ m
theorem OkT.mono {n n' m m' : Nat} {t : StB} (h : OkT n m t) (hn : n ≤ n') (hm : m ≤ m') : OkT n' m' t := ⟨h.s.mono hn hm, fun x hx => (h.bs x hx).mono hn hm, fun x hx => (h.as x hx).mono hn hm, Nat.le_trans h.lb hm, Nat.le_trans h.la hm⟩
theorem PyRs.ds {S : Sto} (xs : List D) : PyRs S (xs.map R.d) (pys xs) := by
  induction xs with
  | nil => exact .nil
  | cons x xs ih => exact .cons (.d x) ih
theorem PyR.la {S : Sto} {n : Nat} {a : Addr} {xs : List D} (h : S[n]? = some (.la a (xs.map R.d))) : PyR S (.ad a) (.list (pys xs)) := .ad h (PyRs.ds xs)
/-- a body and the same kept by lists; what each owns bears its colour -/
structure Pb (S : Sto) (q : Nat → Nat) (n m x y : Nat) (c p : Addr) (t : StB) : Prop where
  bd : ∃ o, BodyS o S c t ∧ ∀ i ∈ o, q i = x
  ow : ∃ u, OwnAt u S p t ∧ ∀ i ∈ u, q i = y
  ok : OkT n m t
section
variable {own own' : List Nat} {S S1 : Sto} {q q' : Nat → Nat} {n m x y : Nat} {c p : Addr} {t : StB}
theorem Pb.fr (h : Pb S q n m x y c p t) (f : FrB own S S1) (dj : ∀ i ∈ own, q i ≠ x ∧ q i ≠ y) : Pb S1 q n m x y c p t := by
  obtain ⟨⟨o, h1, h2⟩, ⟨u, h3, h4⟩, ok⟩ := h
  exact ⟨⟨o, h1.fr f (fun i hi e => (dj i e).1 (h2 i hi)), h2⟩, ⟨u, h3.fr f (fun i hi e => (dj i e).2 (h4 i hi)), h4⟩, ok⟩
theorem Pb.app (h : Pb S q n m x y c p t) (Y : Sto) : Pb (S ++ Y) q n m x y c p t := h.fr (own := []) (FrB.refl.app Y) (fun _ e => by simp at e)
/-- what is new bears this colour -/
def colN (k z : Nat) (q : Nat → Nat) (i : Nat) : Nat := if i < k then q i else z
theorem colN_lt {k z i : Nat} (h : i < k) : colN k z q i = q i := if_pos h
theorem Pb.mono (h : Pb S q n m x y c p t) {n' m' : Nat} (hn : n ≤ n') (hm : m ≤ m') : Pb S q n' m' x y c p t := ⟨h.bd, h.ow, h.ok.mono hn hm⟩
end
end Z
set_option Elab.async false
set_option linter.all false
set_option maxRecDepth 100000
/-! Z56: x[::-1] of any list at a place: a new one at a place. -/
namespace Z
open PySem PySem.Spec PyProof.Rows L2 RZ
section
variable {X : Cx} {e : Expr} {pos : Pos} {we : PE1}
abbrev wRvA (w : PE1) : PE1 := fun r S W => w r S fun x S1 => match x with
  | .r (.ad a) => ∃ (n : Nat) (xs : List R), S1[n]? = some (O.la a xs) ∧ ∀ b, W (.r (.ad b)) (S1 ++ [.la b xs.reverse])
  | _ => False
end
end Z
set_option Elab.async false
set_option linter.all false
set_option maxRecDepth 100000
set_option exponentiation.threshold 20000
/-! R90: chains and lists of one's own beside them, told apart by colours (k81 and its like). -/
namespace Z
open PySem PySem.Spec PyProof.Rows L2 RZ
/-- all stays, but what bears this colour -/
def FrQ (q : Nat → Nat) (x : Nat) (S S' : Sto) : Prop := S.length ≤ S'.length ∧ ∀ (i : Nat) o, S[i]? = some o → q i ≠ x → S'[i]? = some o
/-- the same colours as far as the store went -/
def ExQ (S : Sto) (q q' : Nat → Nat) : Prop := ∀ i, i < S.length → q' i = q i
/-- rows of joints at a place that nothing writes to -/
def LaQ (q : Nat → Nat) (S : Sto) (a : Addr) (js : Js) : Prop := ∃ n : Nat, q n = 9 ∧ S[n]? = some (.la a ((jsD js).map R.d))
abbrev LasQ (q : Nat → Nat) (S : Sto) (ps : List Addr) (bs : List Js) : Prop := Paired (LaQ q S) ps bs
/-- something that keeps rows, and rows behind and ahead of it -/
structure KeepQ (o : Addr → Addr → Addr → O) (q : Nat → Nat) (x : Nat) (S : Sto) (js : Js) (bs as : List Js) : Prop where
  ex : ∃ (n nb na : Nat) (a b d : Addr) (ps qs : List Addr), q n = x ∧ q nb = x ∧ q na = x ∧ nb ≠ na ∧ S[n]? = some (o a b d) ∧ S[nb]? = some (.la b (ps.map R.ad)) ∧ S[na]? = some (.la d (qs.map R.ad)) ∧ LaQ q S a js ∧ LasQ q S ps bs ∧ LasQ q S qs as
abbrev chO (c : Addr) : Addr → Addr → Addr → O := fun a b d => .ob c "Chain" (chF a b d)
abbrev ChQ (q : Nat → Nat) (x : Nat) (S : Sto) (c : Addr) (js : Js) (bs as : List Js) : Prop := KeepQ (chO c) q x S js bs as
section
variable {q q' q2 : Nat → Nat} {x y i : Nat} {S S1 S2 : Sto} {c : Addr} {js : Js} {bs as : List Js} {o : Addr → Addr → Addr → O} {u : O} {a : Addr}
theorem FrQ.refl : FrQ q x S S := ⟨Nat.le_refl _, fun _ _ h _ => h⟩
theorem ExQ.refl : ExQ S q q := fun _ _ => rfl
theorem ExQ.trans (h : ExQ S q q') (h2 : ExQ S1 q' q2) (l : S.length ≤ S1.length) : ExQ S q q2 := fun i hi => (h2 i (by omega)).trans (h i hi)
theorem FrQ.app (h : FrQ q x S S1) (Y : Sto) : FrQ q x S (S1 ++ Y) := ⟨by rw [List.length_append]; have := h.1; omega, fun i o e z => gapp (h.2 i o e z)⟩
theorem FrQ.set (h : FrQ q x S S1) (hi : q i = x ∨ S.length ≤ i) (u : O) : FrQ q x S (S1.set i u) := ⟨by rw [List.length_set]; exact h.1, fun j o e z => gset (h.2 j o e z) (fun w => by
  subst w
  rcases hi with hi | hi
  · exact z hi
  · have := get_len e; omega)⟩
theorem FrQ.trans (h : FrQ q x S S1) (h2 : FrQ q' x S1 S2) (e : ExQ S q q') : FrQ q x S S2 := ⟨Nat.le_trans h.1 h2.1, fun i o e1 z => h2.2 i o (h.2 i o e1 z) (by rw [e i (get_len e1)]; exact z)⟩
theorem FrQ.ext (h : FrQ q x S S1) (e : ExQ S q q') : FrQ q' x S S1 := ⟨h.1, fun i o e1 z => h.2 i o e1 (by rw [← e i (get_len e1)]; exact z)⟩
theorem LaQ.fr (h : LaQ q S a js) (f : FrQ q x S S1) (x9 : x ≠ 9) : LaQ q S1 a js := by
  obtain ⟨n, z, e⟩ := h
  exact ⟨n, z, f.2 n _ e (by rw [z]; exact x9.symm)⟩
theorem LaQ.ext (h : LaQ q S a js) (e : ExQ S q q') : LaQ q' S a js := by
  obtain ⟨n, z, e1⟩ := h
  exact ⟨n, (e n (get_len e1)).trans z, e1⟩
theorem LasQ.fr {ps : List Addr} (h : LasQ q S ps bs) (f : FrQ q x S S1) (x9 : x ≠ 9) : LasQ q S1 ps bs := Paired.mapP h fun _ _ z => z.fr f x9
theorem LasQ.ext {ps : List Addr} (h : LasQ q S ps bs) (e : ExQ S q q') : LasQ q' S ps bs := Paired.mapP h fun _ _ z => z.ext e
theorem lasq_split {S : Sto} : ∀ {bs' : List Js} {ps : List Addr} {s' : Js}, LasQ q S ps (bs' ++ [s']) → ∃ (ps' : List Addr) (p' : Addr), ps = ps' ++ [p'] ∧ LasQ q S ps' bs' ∧ LaQ q S p' s'
  | [], _, _, .cons h t => by cases t; exact ⟨[], _, rfl, .nil, h⟩
  | b :: bs', _, _, .cons h t => by
    obtain ⟨ps', p', e, h1, h2⟩ := lasq_split (bs' := bs') t
    exact ⟨_ :: ps', p', by rw [e]; rfl, .cons h h1, h2⟩
theorem KeepQ.fr (h : KeepQ o q x S js bs as) (f : FrQ q y S S1) (xy : x ≠ y) (y9 : y ≠ 9) : KeepQ o q x S1 js bs as := by
  obtain ⟨n, nb, na, a, b, d, ps, qs, h1, h2, h3, h4, h5, h6, h7, h8, h9, h10⟩ := h.ex
  exact ⟨⟨n, nb, na, a, b, d, ps, qs, h1, h2, h3, h4, f.2 _ _ h5 (by rw [h1]; exact xy), f.2 _ _ h6 (by rw [h2]; exact xy), f.2 _ _ h7 (by rw [h3]; exact xy), h8.fr f y9, LasQ.fr h9 f y9, LasQ.fr h10 f y9⟩⟩
theorem KeepQ.ext (h : KeepQ o q x S js bs as) (e : ExQ S q q') : KeepQ o q' x S js bs as := by
  obtain ⟨n, nb, na, a, b, d, ps, qs, h1, h2, h3, h4, h5, h6, h7, h8, h9, h10⟩ := h.ex
  exact ⟨⟨n, nb, na, a, b, d, ps, qs, (e _ (get_len h5)).trans h1, (e _ (get_len h6)).trans h2, (e _ (get_len h7)).trans h3, h4, h5, h6, h7, h8.ext e, LasQ.ext h9 e, LasQ.ext h10 e⟩⟩
/-- what is at its place stays under new things -/
theorem FrQ.new (Y : Sto) (q : Nat → Nat) (x : Nat) : FrQ q x S (S ++ Y) := FrQ.refl.app Y
theorem KeepQ.app (h : KeepQ o q x S js bs as) (Y : Sto) : KeepQ o q x (S ++ Y) js bs as := by
  obtain ⟨n, nb, na, a, b, d, ps, qs, h1, h2, h3, h4, h5, h6, h7, ⟨nr, h8, h8'⟩, h9, h10⟩ := h.ex
  exact ⟨⟨n, nb, na, a, b, d, ps, qs, h1, h2, h3, h4, gapp h5, gapp h6, gapp h7, ⟨nr, h8, gapp h8'⟩, Paired.mapP h9 fun _ _ ⟨n, z, e⟩ => ⟨n, z, gapp e⟩, Paired.mapP h10 fun _ _ ⟨n, z, e⟩ => ⟨n, z, gapp e⟩⟩⟩
theorem LaQ.app (h : LaQ q S a js) (Y : Sto) : LaQ q (S ++ Y) a js := by
  obtain ⟨n, z, e⟩ := h
  exact ⟨n, z, gapp e⟩
theorem ex_colN (S : Sto) (z : Nat) (q : Nat → Nat) : ExQ S q (colN S.length z q) := fun i hi => colN_lt hi
theorem colN_ge {k z i : Nat} (h : k ≤ i) : colN k z q i = z := if_neg (by omega)
theorem ChQ.meth (h : ChQ q x S c js bs as) {m : Str} (h1 : (m == ("rows" : Str)) = false) (h2 : (m == ("behind" : Str)) = false) (h3 : (m == ("ahead" : Str)) = false) : ∃ (k : Nat) (fs : List (Str × R)), S[k]? = some (O.ob c "Chain" fs) ∧ fs.lookup m = none := by
  obtain ⟨n, nb, na, a, b, d, ps, qs, _, _, _, _, h5, _⟩ := h.ex
  exact ⟨n, _, h5, chF_no h1 h2 h3⟩
end
end Z
set_option Elab.async false
set_option linter.all false
set_option maxRecDepth 100000
set_option exponentiation.threshold 20000
/-! R91: deeds done to a chain and to rows of one's own (k81). -/
namespace Z
open PySem PySem.Spec PyProof.Rows L2 RZ
/-- rows of rows of whole numbers, no deeper than this -/
def PlD : Nat → D → Prop
  | _ + 1, .int _ => True
  | j + 1, .tup xs => xs.length ≤ 1000 ∧ ∀ x ∈ xs, PlD j x
  | _, _ => False
theorem pld_ints {j : Nat} {ns : List Int} (h : ns.length ≤ 1000) : PlD (j + 2) (.tup (ns.map D.int)) := ⟨by rw [List.length_map]; exact h, fun x hx => by
  obtain ⟨i, _, rfl⟩ := List.mem_map.mp hx
  trivial⟩
theorem pld_pt (p : Pt) : PlD 3 (ptD p) := ⟨by show 3 ≤ 1000; decide, fun x hx => by
  have hx : x ∈ [frD p.1, frD p.2.1, frD p.2.2] := hx
  simp only [List.mem_cons, List.not_mem_nil, or_false] at hx
  rcases hx with rfl | rfl | rfl <;> exact pld_ints (ns := [_, _]) (by simp)⟩
theorem PlD.mono {x : D} : ∀ {i j : Nat}, PlD i x → i ≤ j → PlD j x
  | 0, _, h, _ => h.elim
  | i + 1, 0, _, e => absurd e (by omega)
  | i + 1, j + 1, h, e => by
    cases x with
    | int _ => trivial
    | tup xs => exact ⟨h.1, fun x hx => (h.2 x hx).mono (by omega)⟩
    | non => exact h
    | bl _ => exact h
    | str _ => exact h
    | lst _ => exact h
theorem pld_dep : ∀ {j : Nat} {x : D}, PlD j x → (py x).depth ≤ j
  | 0, _, h => by unfold PlD at h; exact h.elim
  | j + 1, .int i, _ => by simp [py, PyData.depth]
  | j + 1, .tup xs, h => by
    show PyData.depthAll (pys xs) + 1 ≤ j + 1
    exact Nat.succ_le_succ (dp_le fun x hx => pld_dep (h.2 x hx))
  | _ + 1, .non, h => h.elim
  | _ + 1, .bl _, h => h.elim
  | _ + 1, .str _, h => h.elim
  | _ + 1, .lst _, h => h.elim
structure StC where
  js : Js
  bs : List Js
  as : List Js
abbrev ChS (q : Nat → Nat) (x : Nat) (S : Sto) (c : Addr) (t : StC) : Prop := ChQ q x S c t.js t.bs t.as
/-- the same kept by lists: [rows, behind, ahead] -/
structure OwS (q : Nat → Nat) (x : Nat) (S : Sto) (p : Addr) (t : StC) : Prop where
  ex : ∃ (n nb na : Nat) (a b d : Addr) (ps qs : List Addr), q n = x ∧ q nb = x ∧ q na = x ∧ (nb ≠ na ∧ nb ≠ n ∧ na ≠ n) ∧ S[n]? = some (.la p [.ad a, .ad b, .ad d]) ∧ S[nb]? = some (.la b (ps.map R.ad)) ∧ S[na]? = some (.la d (qs.map R.ad)) ∧ LaQ q S a t.js ∧ LasQ q S ps t.bs ∧ LasQ q S qs t.as
section
variable {q q' : Nat → Nat} {x y : Nat} {S S1 : Sto} {p : Addr} {t : StC}
theorem OwS.fr (h : OwS q x S p t) (f : FrQ q y S S1) (xy : x ≠ y) (y9 : y ≠ 9) : OwS q x S1 p t := by
  obtain ⟨n, nb, na, a, b, d, ps, qs, h1, h2, h3, h4, h5, h6, h7, h8, h9, h10⟩ := h.ex
  exact ⟨⟨n, nb, na, a, b, d, ps, qs, h1, h2, h3, h4, f.2 _ _ h5 (by rw [h1]; exact xy), f.2 _ _ h6 (by rw [h2]; exact xy), f.2 _ _ h7 (by rw [h3]; exact xy), h8.fr f y9, LasQ.fr h9 f y9, LasQ.fr h10 f y9⟩⟩
theorem OwS.ext (h : OwS q x S p t) (e : ExQ S q q') : OwS q' x S p t := by
  obtain ⟨n, nb, na, a, b, d, ps, qs, h1, h2, h3, h4, h5, h6, h7, h8, h9, h10⟩ := h.ex
  exact ⟨⟨n, nb, na, a, b, d, ps, qs, (e _ (get_len h5)).trans h1, (e _ (get_len h6)).trans h2, (e _ (get_len h7)).trans h3, h4, h5, h6, h7, h8.ext e, LasQ.ext h9 e, LasQ.ext h10 e⟩⟩
theorem OwS.frB (h : OwS q x S p t) (f : FrB [] S S1) : OwS q x S1 p t := by
  have g : ∀ {i : Nat} {u : O}, S[i]? = some u → S1[i]? = some u := fun e => f.2 _ _ e (.inl (by simp))
  obtain ⟨n, nb, na, a, b, d, ps, qs, h1, h2, h3, h4, h5, h6, h7, ⟨nr, h8, h8'⟩, h9, h10⟩ := h.ex
  exact ⟨⟨n, nb, na, a, b, d, ps, qs, h1, h2, h3, h4, g h5, g h6, g h7, ⟨nr, h8, g h8'⟩, Paired.mapP h9 fun _ _ ⟨n, z, e⟩ => ⟨n, z, g e⟩, Paired.mapP h10 fun _ _ ⟨n, z, e⟩ => ⟨n, z, g e⟩⟩⟩
theorem OwS.app (h : OwS q x S p t) (Y : Sto) : OwS q x (S ++ Y) p t := h.frB (FrB.refl.app Y)
end
structure OkSC (m : Nat) (t : StC) : Prop where
  js : OkC t.js
  bs : ∀ x ∈ t.bs, OkC x
  as : ∀ x ∈ t.as, OkC x
  lb : t.bs.length ≤ m
  la : t.as.length ≤ m
theorem OkSC.mono {m n : Nat} {t : StC} (h : OkSC m t) (e : m ≤ n) : OkSC n t := ⟨h.js, h.bs, h.as, Nat.le_trans h.lb e, Nat.le_trans h.la e⟩
section
variable {q q' : Nat → Nat} {x : Nat} {S S1 : Sto} {js : Js} {bs as : List Js} {o : Addr → Addr → Addr → O} {a : Addr}
theorem KeepQ.recol (h : KeepQ o q x S js bs as) (hx : ∀ i, q i = x → q' i = x) (h9 : ∀ i, q i = 9 → q' i = 9) : KeepQ o q' x S js bs as := by
  obtain ⟨n, nb, na, a, b, d, ps, qs, h1, h2, h3, h4, h5, h6, h7, ⟨nr, h8, h8'⟩, h10, h11⟩ := h.ex
  exact ⟨⟨n, nb, na, a, b, d, ps, qs, hx _ h1, hx _ h2, hx _ h3, h4, h5, h6, h7, ⟨nr, h9 _ h8, h8'⟩, Paired.mapP h10 fun _ _ ⟨n, z, e⟩ => ⟨n, h9 _ z, e⟩, Paired.mapP h11 fun _ _ ⟨n, z, e⟩ => ⟨n, h9 _ z, e⟩⟩⟩
theorem KeepQ.frB (h : KeepQ o q x S js bs as) (f : FrB [] S S1) : KeepQ o q x S1 js bs as := by
  have g : ∀ {i : Nat} {u : O}, S[i]? = some u → S1[i]? = some u := fun e => f.2 _ _ e (.inl (by simp))
  obtain ⟨n, nb, na, a, b, d, ps, qs, h1, h2, h3, h4, h5, h6, h7, ⟨nr, h8, h8'⟩, h9, h10⟩ := h.ex
  exact ⟨⟨n, nb, na, a, b, d, ps, qs, h1, h2, h3, h4, g h5, g h6, g h7, ⟨nr, h8, g h8'⟩, Paired.mapP h9 fun _ _ ⟨n, z, e⟩ => ⟨n, z, g e⟩, Paired.mapP h10 fun _ _ ⟨n, z, e⟩ => ⟨n, z, g e⟩⟩⟩
theorem LaQ.frB (h : LaQ q S a js) (f : FrB [] S S1) : LaQ q S1 a js := by
  obtain ⟨n, z, e⟩ := h
  exact ⟨n, z, f.2 _ _ e (.inl (by simp))⟩
theorem FrB.toQ (f : FrB [] S S1) : FrQ q x S S1 := ⟨f.1, fun i u e _ => f.2 i u e (.inl (by simp))⟩
end
/-- a chain and the same kept by lists -/
structure Pc (S : Sto) (q : Nat → Nat) (n x y : Nat) (c p : Addr) (t : StC) : Prop where
  ch : ChS q x S c t
  ow : OwS q y S p t
  ok : OkSC n t
section
variable {S S1 : Sto} {q q' : Nat → Nat} {n x y z : Nat} {c p : Addr} {t : StC}
theorem Pc.fr (h : Pc S q n x y c p t) (f : FrQ q z S S1) (xz : x ≠ z) (yz : y ≠ z) (z9 : z ≠ 9) : Pc S1 q n x y c p t := ⟨h.ch.fr f xz z9, h.ow.fr f yz z9, h.ok⟩
theorem Pc.ext (h : Pc S q n x y c p t) (e : ExQ S q q') : Pc S q' n x y c p t := ⟨h.ch.ext e, h.ow.ext e, h.ok⟩
theorem Pc.app (h : Pc S q n x y c p t) (Y : Sto) : Pc (S ++ Y) q n x y c p t := ⟨h.ch.app Y, h.ow.app Y, h.ok⟩
end
/-- colours below twenty -/
def capQ (q : Nat → Nat) (i : Nat) : Nat := if q i < 20 then q i else 0
theorem capQ_lt (q : Nat → Nat) (i : Nat) : capQ q i < 20 := by
  unfold capQ
  split <;> omega
theorem capQ_eq {q : Nat → Nat} {x : Nat} (hx : x < 20) (i : Nat) (e : q i = x) : capQ q i = x := by
  unfold capQ
  rw [if_pos (by omega)]
  exact e
theorem capQ_fr {q : Nat → Nat} {x : Nat} {S S1 : Sto} (h0 : 0 < x) (f : FrQ (capQ q) x S S1) : FrQ q x S S1 := ⟨f.1, fun i u e z => f.2 i u e (by
  unfold capQ
  split
  · exact z
  · omega)⟩
end Z
set_option Elab.async false
set_option linter.all false
set_option maxRecDepth 100000
/-! Z57: a def as a value: handed on by its name, called through a local name. -/
namespace Z
open PySem PySem.Spec PyProof.Rows L2 RZ
section
variable {X : Cx} {Wx : WX} {e : Expr} {es : List Expr} {pos : Pos} {CX : CXT} {k : Nat} {f : Addr} {fd : FuncData} {ps : List Str} {sp : Sp} {E : L2.St → XK} {t : TA}
/-- a call through a local name that holds a def -/
theorem pe_callV {i : Nat} {y : Str} {p : Pos} (F : FnOk X.prog X.w X.K X.mg X.base CX k f fd ps sp) (hr : Room k X.A) (hv : PE X (.Name y p) (tVar i)) (hk : PySem.W.keepIn X.K (.ref f) = true) (hb : Binds X.K fd ps []) (hx : ∀ σ, PassesAt CX X σ (E σ))
    (ha : PA X (e :: es) t) (he : starEach (e :: es) X.env = (false, eval e X.env) :: starEach es X.env := by rfl) (hpl : (backTo pos (starEach es X.env)).any (·.1) = false := by rfl) :
    PE X (.Call (.Name y p) (e :: es) [] pos) (fun σ H Q => σ[i]? = some (some (.ref f)) ∧ tCallS sp E t σ H Q) := by
  refine ⟨fun pins s σ H Q I ⟨h0, h⟩ => ?_⟩
  refine wpAny_Call_Name_kw (thn (hv.run pins s σ H (fun v H1 => v = .ref f ∧ H1 = H) I ⟨_, h0, rfl, rfl⟩) fun v s1 ⟨x, H1, I1, rv, ex, eH⟩ => ?_)
  subst ex eH
  obtain rfl : v = Value.ref f := rv
  refine PySem.W.callWith_K (h₀ := X.base) I1.ok.mod.kin hk (thn (ha.run pos pins s1 σ H1 _ I1 h) fun us s2 ⟨vs, H2, I2, r, q⟩ => ⟨I2.kIn, ?_⟩) he hpl
  exact run_fnS F hr hb (hx σ) I2 r q
/-- a def's name as a value -/
abbrev wFnV (fa : Addr) : PE1 := fun _ S W => W (.r (.ad fa)) S
theorem we_fnV {fa : Addr} {x : Str} {p : Pos} (hg : Gl X x) (hm : X.mg x = some (.ref fa)) (hd : (x == ("__debug__" : Str)) = false := by decide) : WE X (.Name x p) (wFnV fa) :=
  ⟨peImp (t := tC (.ref fa)) ⟨fun pins s σ H Q I h => ld_glob I hg hm ⟨.ref fa, H, I, rfl, h⟩ hd⟩ fun s H Q ⟨m, r, S, W, hE, hS, hw, hf⟩ => hf.here hS (x := .r (.ad fa)) rfl hw⟩
/-- a call through the local of slot i, which holds that def -/
abbrev wVCall (i : Nat) (fa : Addr) (sp : SpW) (n : Nat) (ws : PA1) : PE1 := fun r S W => r[i]? = some (some (.ad fa)) ∧ wwCall sp n ws r S W
theorem we_vcall {i n : Nat} {fa : Addr} {x y : Str} {p : Pos} {sp : SpW} {was : PA1} (F : FnW X.prog X.w X.K X.mg X.base k x n sp) (hm : X.mg x = some (.ref fa)) (hr : Room k X.A) (hv : PE X (.Name y p) (tVar i)) (ha : WA X (e :: es) was)
    (he : starEach (e :: es) X.env = (false, eval e X.env) :: starEach es X.env := by rfl) (hpl : (backTo pos (starEach es X.env)).any (·.1) = false := by rfl) : WE X (.Call (.Name y p) (e :: es) [] pos) (wVCall i fa sp n was) := by
  obtain ⟨f, fd, ps, h1, h2, h3, h4, h5⟩ := F.ok
  obtain rfl : f = fa := by rw [hm] at h2; cases h2; rfl
  have hp := pe_callV (E := L2.WE fun _ _ _ _ => False) h5 hr hv h3 h4 (fun σ => passAt takes0 σ) ha.pa he hpl
  refine ⟨peImp hp fun s H Q ⟨m, r, S, W, hE, hS, ⟨hi, hw⟩, hf⟩ => ⟨?_, m, r, S, _, hE, hS, hw, fun xs S1 vs m1 H1 k1 g1 r1 q1 => ?_⟩⟩
  · obtain ⟨v, e1, q⟩ := hE.at_ i _ hi
    obtain rfl : v = V.ref f := q
    exact e1
  · obtain ⟨rs, S2, m2, w2, g2, r2, q2, _⟩ := bindVs_ok g1 r1 q1 k1
    exact liftW_ok g2 r2 q2 w2 hf (fun _ _ _ _ _ h => h.elim)
end
end Z
set_option Elab.async false
set_option linter.all false
set_option maxRecDepth 100000
set_option exponentiation.threshold 20000
/-! R92: chains whose ways may have 24 figures; histories (k88). -/
namespace Z
open PySem PySem.Spec PyProof.Rows L2 RZ
/-- a joint of the law's chain -/
structure OkJw (j : Jt) : Prop where
  ex : ∃ k l, j.2.2 = [k, l] ∧ (∃ n ∈ [k, l], n ≠ 0) ∧ Bd 31 k ∧ Bd 31 l
  wl : j.1.length = 3
  wz : ∃ x ∈ j.1, x ≠ 0
  wb : ∀ x ∈ j.1, Bd 80 x
  arm : ∀ q ∈ qsOf j.2.1, Bd 40 q.num ∧ Bd 7 (q.den : Int)
structure OkCw (cs : List Jt) : Prop where
  len : cs.length ≤ 6
  jt : ∀ j ∈ cs, OkJw j
theorem OkJw.ab {j : Jt} (h : OkJw j) : P4 (abJ j) ∧ ∀ x ∈ abJ j, Bd 111 x := by
  obtain ⟨k, l, e, nz, bk, bl⟩ := h.ex
  have z := abt_nz h.wz nz
  have p : P4 (abt j.1 k l) := ⟨abt_len h.wl k l, z⟩
  unfold abJ
  rw [e]
  exact ⟨p.pln, pln_bds z (abt_bd h.wb bk bl)⟩
theorem OkCw.gj {cs : List Jt} (h : OkCw cs) : GJ cs := fun i j e => (h.jt j (List.mem_of_getElem? e)).ab.1
theorem OkCw.tn {cs : List Jt} (h : OkCw cs) : ∀ i, i ≤ cs.length → ∀ x ∈ TN cs i, Bd (114 * i + 1) x
  | 0, _ => by
    intro x hx
    simp only [show TN cs 0 = [1, 0, 0, 0] from rfl, List.mem_cons, List.not_mem_nil, or_false] at hx
    rcases hx with rfl | rfl | rfl | rfl
    · exact Bd.lit (by decide)
    all_goals exact Bd.zero
  | i + 1, hi => by
    have e := List.getElem?_eq_getElem (show i < cs.length by omega)
    have t := TN_p4 h.gj i
    have ok := (h.jt _ (List.mem_of_getElem? e)).ab
    have b := qmul_bd (h.tn i (by omega)) ok.2
    have z := (t.mul ok.1)
    rw [TN_succ e]
    intro x hx
    exact (pln_bds z.2 b x hx).mono (by omega)
theorem ADw_bd : ∀ {cs : List Jt}, (∀ j ∈ cs, OkJw j) → Bd (21 * cs.length + 1) (AD cs)
  | [], _ => Bd.lit (by decide)
  | j :: js, h => by
    have a := (h j (by simp)).arm
    have ih := ADw_bd (cs := js) (fun x hx => h x (by simp [hx]))
    have b := (((a j.2.1.1 (by simp [qsOf])).2.mul (a j.2.1.2.1 (by simp [qsOf])).2).mul (a j.2.1.2.2 (by simp [qsOf])).2).mul ih
    exact b.mono (by simp; omega)
theorem OkCw.arm {cs : List Jt} (h : OkCw cs) {j : Jt} (hj : j ∈ cs) : Tp3 167 (AD cs) j.2.1 := fun q hq => by
  obtain ⟨c, e⟩ := AD_dvd hj q hq
  have b := ADw_bd h.jt
  have p := AD_pos cs
  have ok := (h.jt j hj).arm q hq
  have l := h.len
  have c0 : c ≠ 0 := fun k => by subst k; simp at e; omega
  have bc : Bd (21 * cs.length + 1) c := by
    have := b.lt
    rw [e, Int.natAbs_mul] at this
    refine Bd.lit (Nat.lt_of_le_of_lt ?_ this)
    exact Nat.le_mul_of_pos_left _ (by have := q.den_pos; omega)
  rw [e]
  exact ⟨q.num * c, frac_up c0, (ok.1.mul bc).mono (by omega)⟩
theorem NDw_ne {cs : List Jt} (h : OkCw cs) : ∀ i, i ≤ cs.length → ND cs i ≠ 0
  | 0, _ => (by decide : (1 : Int) ≠ 0)
  | i + 1, hi => by
    have e := List.getElem?_eq_getElem (show i < cs.length by omega)
    have ok := (h.jt _ (List.mem_of_getElem? e)).ab
    rw [ND_succ e]
    exact Int.mul_ne_zero (NDw_ne h i (by omega)) (nrmI_ne ok.1.1 ok.1.2)
/-- the rest of the sizes -/
theorem NDw_split {cs : List Jt} (h : OkCw cs) (i : Nat) : ∀ n, i + n ≤ cs.length → ∃ c : Int, ND cs (i + n) = ND cs i * c ∧ c ≠ 0 ∧ Bd (224 * n + 1) c
  | 0, _ => ⟨1, by simp, by decide, Bd.lit (by decide)⟩
  | n + 1, hi => by
    obtain ⟨c, e1, c0, bc⟩ := NDw_split h i n (by omega)
    have e := List.getElem?_eq_getElem (show i + n < cs.length by omega)
    have ok := (h.jt _ (List.mem_of_getElem? e)).ab
    refine ⟨c * nrmI (abJ cs[i + n]), ?_, Int.mul_ne_zero c0 (nrmI_ne ok.1.1 ok.1.2), (bc.mul (nrmI_bd ok.2)).mono (by omega)⟩
    rw [show i + (n + 1) = i + n + 1 from rfl, ND_succ e, e1, Int.mul_assoc]
theorem NDw_bd {cs : List Jt} (h : OkCw cs) {n : Nat} (hn : n ≤ cs.length) : Bd (224 * n + 1) (ND cs n) := by
  obtain ⟨c, e, _, b⟩ := NDw_split h 0 n (by omega)
  rw [Nat.zero_add] at e
  rw [e, show ND cs 0 = 1 from rfl, Int.one_mul]
  exact b
theorem Tp3.tnw {cs : List Jt} (h : OkCw cs) {B : Int} : ∀ (i m : Nat) (p : Pt) (B : Int), i ≤ cs.length → Tp3 m B p → Tp3 (m + 226 * i) (B * ND cs i) (Z.rot (TN cs i) p)
  | 0, m, p, B, _, hp => by
    rw [show TN cs 0 = [1, 0, 0, 0] from rfl, rot_one, show ND cs 0 = 1 from rfl, Int.mul_one]
    exact hp
  | i + 1, m, p, B, hi, hp => by
    have e := List.getElem?_eq_getElem (show i < cs.length by omega)
    have ok := (h.jt _ (List.mem_of_getElem? e)).ab
    have r := Tp3.rot ok.1.1 ok.1.2 ok.2 hp
    have k := Tp3.tnw (B := B) h i _ _ _ (by omega) r
    rw [rot_TN h.gj e, ND_succ e]
    have eB : B * nrmI (abJ cs[i]) * ND cs i = B * (ND cs i * nrmI (abJ cs[i])) := by rw [Int.mul_assoc, Int.mul_comm (nrmI _)]
    rw [eB] at k
    exact k.mono (by omega)
theorem OkCw.dd0 {cs : List Jt} (h : OkCw cs) : DD cs ≠ 0 := Int.mul_ne_zero (by have := AD_pos cs; omega) (NDw_ne h _ (Nat.le_refl _))
theorem OkCw.ddb {cs : List Jt} (h : OkCw cs) : Bd 1540 (DD cs) := by
  have l := h.len
  exact ((ADw_bd h.jt).mul (NDw_bd h (Nat.le_refl _))).mono (by omega)
theorem OkCw.legs {cs : List Jt} (h : OkCw cs) {i : Nat} {j : Jt} (e : cs[i]? = some j) : Tp3 1526 (DD cs) (Z.rot (TN cs (i + 1)) j.2.1) := by
  have hi := (List.getElem?_eq_some_iff.mp e).1
  have l := h.len
  have a := h.arm (List.mem_of_getElem? e)
  have t := Tp3.tnw (B := 1) h (i + 1) _ _ _ (by omega) a
  obtain ⟨c, e1, c0, bc⟩ := NDw_split h (i + 1) (cs.length - (i + 1)) (by omega)
  have s := t.scale (Int.mul_ne_zero (by have := AD_pos cs; omega) (NDw_ne h (i + 1) (by omega))) c0 bc
  rw [Int.mul_assoc, ← e1, show i + 1 + (cs.length - (i + 1)) = cs.length by omega] at s
  exact s.mono (by omega)
theorem OkCw.pn {cs : List Jt} (h : OkCw cs) : ∀ i, i ≤ cs.length → Tp3 (1526 + i) (DD cs) (PN cs i)
  | 0, _ => qs_mem3 Tp.zero Tp.zero Tp.zero
  | i + 1, hi => by
    have e := List.getElem?_eq_getElem (show i < cs.length by omega)
    rw [PN_succ e]
    exact ((h.pn i (by omega)).padd (h.legs e)).mono (by omega)
theorem OkCw.pbq {cs : List Jt} (h : OkCw cs) {i : Nat} (hi : i ≤ cs.length) : ∀ z ∈ qsOf (PN cs i), BQ 1540 z := fun z hz => by
  have l := h.len
  exact ((h.pn i hi z hz).mono (by omega)).bq h.dd0 h.ddb
theorem OkJw.armq {j : Jt} (h : OkJw j) : ∀ q ∈ qsOf j.2.1, BQ 40 q := fun q hq => ⟨(h.arm q hq).1, (h.arm q hq).2.mono (by decide)⟩
theorem OkCw.frok {cs : List Jt} (h : OkCw cs) : FrOk cs := by
  have l := h.len
  refine ⟨fun i j e => ?_, fun i hi => ⟨(TN_p4 h.gj i).1, (TN_p4 h.gj i).2, fun x hx => (h.tn i hi x hx).mono (by omega)⟩, fun i j e => ?_, fun i j e => ?_⟩
  · have ok := h.jt j (List.mem_of_getElem? e)
    obtain ⟨k, l, e1, nz, bk, bl⟩ := ok.ex
    exact ⟨k, l, e1, ok.wl, ok.wz, nz, fun x hx => (ok.wb x hx).mono (by decide), bk.mono (by decide), bl.mono (by decide), ok.ab.1.1, ok.ab.1.2, fun x hx => (ok.ab.2 x hx).mono (by decide)⟩
  · have ok := h.jt j (List.mem_of_getElem? e)
    have hi := (List.getElem?_eq_some_iff.mp e).1
    have a := ok.armq
    refine ⟨690, 160, by decide, fun x hx => (h.tn (i + 1) (by omega) x hx).mono (by omega), PtB.of (a _ (by simp [qsOf])) (a _ (by simp [qsOf])) (a _ (by simp [qsOf]))⟩
  · have hi := (List.getElem?_eq_some_iff.mp e).1
    exact ⟨fun q hq => (h.pbq (by omega) q hq).mono (by decide), fun q hq => (((h.legs e q hq).mono (show 1526 ≤ 1540 by decide)).bq h.dd0 h.ddb).mono (by decide)⟩
theorem OkCw.set {cs : List Jt} (h : OkCw cs) {x : Jt} (hx : OkJw x) (j : Nat) : OkCw (cs.set j x) := ⟨by rw [List.length_set]; exact h.len, fun y hy => by
  rcases List.mem_or_eq_of_mem_set hy with k | k
  · exact h.jt y k
  · rw [k]; exact hx⟩
theorem OkCw.snoc {cs : List Jt} (h : OkCw cs) {x : Jt} (hx : OkJw x) (l : cs.length < 6) : OkCw (cs ++ [x]) := ⟨by simp; omega, fun y hy => by
  rcases List.mem_append.mp hy with k | k
  · exact h.jt y k
  · cases List.mem_singleton.mp k; exact hx⟩
theorem OkCw.drop {cs : List Jt} (h : OkCw cs) : OkCw cs.dropLast := ⟨by have := h.len; rw [List.length_dropLast]; omega, fun j hj => h.jt j ((List.dropLast_sublist cs).subset hj)⟩
theorem OkCw.nil : OkCw [] := ⟨by simp, fun j hj => by cases hj⟩
theorem okJw_new {w : List Int} {p : Pt} {k l : Int} (wl : w.length = 3) (wz : ∃ x ∈ w, x ≠ 0) (wb : ∀ x ∈ w, Bd 80 x) (arm : ∀ q ∈ qsOf p, Bd 40 q.num ∧ Bd 7 (q.den : Int)) (nz : ∃ n ∈ [k, l], n ≠ 0) (bk : Bd 31 k) (bl : Bd 31 l) : OkJw (w, p, pset k l) := by
  obtain ⟨u, v, e⟩ := pset_two k l
  obtain ⟨b1, b2⟩ := pset_bdJ nz bk bl e
  exact ⟨⟨u, v, e, pset_nzJ nz e, b1, b2⟩, wl, wz, wb, arm⟩
theorem pld_jw {j : Jt} (h : OkJw j) : PlD 4 (jtD j) := ⟨by show 3 ≤ 1000; decide, fun x hx => by
  have hx : x ∈ [D.tup (j.1.map D.int), ptD j.2.1, .tup (j.2.2.map D.int)] := hx
  simp only [List.mem_cons, List.not_mem_nil, or_false] at hx
  rcases hx with rfl | rfl | rfl
  · exact pld_ints (by rw [h.wl]; decide)
  · exact pld_pt _
  · obtain ⟨k, l, e, _⟩ := h.ex
    rw [e]
    exact pld_ints (ns := [k, l]) (by simp)⟩
/-- what a chain tells -/
def cToldL (js : Js) : List D := [.lst (jsD js), .lst ((stL js (js.length + 1)).drop 1), .lst ((plL js (js.length + 1)).drop 1), ptD (PN js js.length)]
abbrev cTolds (H : List Js) : List D := H.map fun js => .lst (cToldL js)
/-- what a body tells: stand, path, marks -/
def bToldL (s : Bs) (bs : List Bs) : List D := [foD (pln s.1), .lst ((bs ++ [s]).map fun s => foD s.1), .lst ((srK s.2).map nkD)]
def bTolds : List Bs → List Bs → List D
  | _, [] => []
  | bs, s :: r => .lst (bToldL s bs) :: bTolds (bs ++ [s]) r
theorem bTolds_len : ∀ (r bs : List Bs), (bTolds bs r).length = r.length
  | [], _ => rfl
  | s :: r, bs => by rw [bTolds, List.length_cons, bTolds_len r, List.length_cons]
theorem bTolds_snoc : ∀ (r bs : List Bs) (s : Bs), bTolds bs (r ++ [s]) = bTolds bs r ++ [.lst (bToldL s (bs ++ r))]
  | [], bs, s => by simp [bTolds]
  | a :: r, bs, s => by
    rw [List.cons_append, bTolds, bTolds, bTolds_snoc r]
    simp
theorem bTolds_get : ∀ (r bs : List Bs) (i : Nat) (s : Bs), r[i]? = some s → (bTolds bs r)[i]? = some (.lst (bToldL s (bs ++ r.take i)))
  | [], _, i, _, h => by simp at h
  | a :: r, bs, 0, s, h => by
    simp at h; subst h
    simp [bTolds]
  | a :: r, bs, i + 1, s, h => by
    have := bTolds_get r (bs ++ [a]) i s (by simpa using h)
    rw [bTolds, List.getElem?_cons_succ, this]
    simp
theorem dp_btold (s : Bs) (bs : List Bs) : PyData.depthAll (pys (bToldL s bs)) ≤ 19 := dp_le fun x hx => by
  have h := dp_told s bs
  have h : PyData.depthAll (pys (toldL s bs)) + 1 ≤ 20 := h
  have k : ∀ {ys : List D}, x ∈ ys → (py x).depth ≤ PyData.depthAll (pys ys) := by
    intro ys hy
    induction ys with
    | nil => cases hy
    | cons y ys ih =>
      show _ ≤ max (py y).depth (PyData.depthAll (pys ys))
      rcases List.mem_cons.mp hy with rfl | hy
      · exact Nat.le_max_left _ _
      · exact Nat.le_trans (ih hy) (Nat.le_max_right _ _)
  have := k (ys := toldL s bs) (by
    simp only [bToldL, toldL, List.mem_cons, List.not_mem_nil, or_false] at *
    rcases hx with rfl | rfl | rfl
    · exact .inl rfl
    · exact .inr (.inr rfl)
    · exact .inr (.inl rfl))
  omega
theorem eqv_pys (xs : List D) : PyData.eqvAll (pys xs) (pys xs) = true := PySem.SeqAt.eqvAll_refl_plain _ (py_plains _)
theorem dp_foJ (f : List Int) : (py (foD f)).depth ≤ 2 := by
  show PyData.depthAll (pys (f.map D.int)) + 1 ≤ 2
  have : PyData.depthAll (pys (f.map D.int)) ≤ 1 := dp_le fun x hx => by
    obtain ⟨i, _, rfl⟩ := List.mem_map.mp hx
    simp [py, PyData.depth]
  omega
theorem dp_ctold {js : Js} (h : OkCw js) : PyData.depthAll (pys (cToldL js)) ≤ 18 := dp_le fun x hx => by
  have l := fun (xs : List D) (k : ∀ y ∈ xs, (py y).depth ≤ 10) => (Nat.succ_le_succ (dp_le k) : PyData.depthAll (pys xs) + 1 ≤ 11)
  simp only [cToldL, List.mem_cons, List.not_mem_nil, or_false] at hx
  rcases hx with rfl | rfl | rfl | rfl
  · exact Nat.le_trans (l _ fun y hy => by
      obtain ⟨j, hj, rfl⟩ := List.mem_map.mp hy
      exact Nat.le_trans (pld_dep (pld_jw (h.jt j hj))) (by decide)) (by decide)
  · exact Nat.le_trans (l _ fun y hy => by
      have hy := List.mem_of_mem_drop hy
      unfold stL at hy
      obtain ⟨t, _, rfl⟩ := List.mem_map.mp hy
      exact Nat.le_trans (dp_foJ _) (by decide)) (by decide)
  · exact Nat.le_trans (l _ fun y hy => by
      have hy := List.mem_of_mem_drop hy
      unfold plL at hy
      obtain ⟨t, _, rfl⟩ := List.mem_map.mp hy
      exact Nat.le_trans (pld_dep (pld_pt _)) (by decide)) (by decide)
  · exact Nat.le_trans (pld_dep (pld_pt _)) (by decide)
/-- a chain that has a history and stands at a place of it -/
def AtC (H : List Js) (q : Nat → Nat) (x : Nat) (S : Sto) (c : Addr) (j : Nat) : Prop := ∃ t, H[j]? = some t ∧ ChQ q x S c t (H.take j) (H.drop (j + 1)).reverse
theorem AtC.fr {H : List Js} {q : Nat → Nat} {x y : Nat} {S S1 : Sto} {c : Addr} {j : Nat} (h : AtC H q x S c j) (f : FrQ q y S S1) (xy : x ≠ y) (y9 : y ≠ 9) : AtC H q x S1 c j := by
  obtain ⟨t, e, b⟩ := h
  exact ⟨t, e, b.fr f xy y9⟩
theorem AtC.ext {H : List Js} {q q' : Nat → Nat} {x : Nat} {S : Sto} {c : Addr} {j : Nat} (h : AtC H q x S c j) (e : ExQ S q q') : AtC H q' x S c j := by
  obtain ⟨t, u, b⟩ := h
  exact ⟨t, u, b.ext e⟩
theorem AtC.app {H : List Js} {q : Nat → Nat} {x : Nat} {S : Sto} {c : Addr} {j : Nat} (h : AtC H q x S c j) (Y : Sto) : AtC H q x (S ++ Y) c j := by
  obtain ⟨t, u, b⟩ := h
  exact ⟨t, u, b.app Y⟩
theorem AtH.app {H : List Bs} {own : List Nat} {S : Sto} {c : Addr} {j : Nat} (h : AtH H own S c j) (Y : Sto) : AtH H own (S ++ Y) c j := by
  obtain ⟨t, u, b⟩ := h
  exact ⟨t, u, b.app Y⟩
/-- what follows a place of a history -/
theorem hist_next {α : Type} {H : List α} {j : Nat} {t : α} (e : H[j + 1]? = some t) : (H.drop (j + 1)).reverse = (H.drop (j + 2)).reverse ++ [t] := by
  have l := (List.getElem?_eq_some_iff.mp e).1
  rw [List.drop_eq_getElem_cons l, List.reverse_cons]
  congr 1
  rw [List.getElem?_eq_getElem l] at e
  rw [Option.some.inj e]
theorem hist_take {α : Type} {H : List α} {j : Nat} {t : α} (e : H[j]? = some t) : H.take (j + 1) = H.take j ++ [t] := by
  rw [List.take_add_one, e]; rfl
def NmK (s : Bs) : Prop := ∀ p ∈ s.2, nameL p.1.cps.toList = true
theorem NmK.mark {s : Bs} (h : NmK s) {l : List Nat} (hl : nameL l = true) : NmK (s.1, putKp s.2 (Tx l) s.1) := fun p hp => by
  rcases putKp_mem hp with hp | rfl
  · exact h p hp
  · exact hl
end Z
set_option Elab.async false
set_option linter.all false
set_option maxRecDepth 100000
/-! Z58: walking into a method's call with what comes after kept closed. -/
namespace Z
open PySem PySem.Spec PyProof.Rows L2 RZ
theorem dropI {r : Rho} {S : Sto} {w : PE1} {N : En} (h : ∀ P : PK1, (∀ x S1, N.nx r S1 → P x S1) → w r S P) : wDrop w N r S := h _ fun _ _ h => h
theorem methI {r : Rho} {S : Sto} {C m : Str} {sp : SpW} {n i : Nat} {ws : PA1} {W : PK1} {a : Addr} (hr : r[i]? = some (some (.ad a))) (ha : ∃ (k : Nat) (fs : List (Str × R)), S[k]? = some (O.ob a C fs) ∧ fs.lookup m = none)
    (h : ∀ P : List SV → Sto → Prop, (∀ xs S2, (bindVs xs S2 fun rs S3 => rs.length + 1 = n ∧ sp (.ad a :: rs) S3 (fun x T => W (.r x) T) (fun _ _ => False)) → P xs S2) → ws r S P) : wwMeth C m sp n (wVar i) ws r S W := by
  simp only [wwMeth, wxMeth, wVar, hr]
  exact ⟨ha, h _ fun _ _ h => h⟩
end Z
set_option Elab.async false
set_option linter.all false
set_option maxRecDepth 100000
set_option exponentiation.threshold 20000
/-! R94: a body and a chain side by side (k88). -/
namespace Z
open PySem PySem.Spec PyProof.Rows L2 RZ
section
variable {q q' : Nat → Nat} {x : Nat} {S S1 : Sto} {js : Js} {bs as : List Js} {o : Addr → Addr → Addr → O} {own : List Nat}
theorem KeepQ.frOwn (h : KeepQ o q x S js bs as) (f : ∀ (i : Nat) u, S[i]? = some u → i ≠ 0 → i ∉ own → S1[i]? = some u) (q0 : q 0 ≠ x ∧ q 0 ≠ 9) (dj : ∀ i ∈ own, q i ≠ x ∧ q i ≠ 9) : KeepQ o q x S1 js bs as := by
  obtain ⟨n, nb, na, a, b, d, ps, qs, h1, h2, h3, h4, h5, h6, h7, ⟨nr, h8, h8'⟩, h9, h10⟩ := h.ex
  have gx : ∀ {i : Nat} {u : O}, q i = x → S[i]? = some u → S1[i]? = some u := fun {i u} e z => f i u z (fun w => by subst w; exact q0.1 e) (fun w => (dj i w).1 e)
  have g9 : ∀ {i : Nat} {u : O}, q i = 9 → S[i]? = some u → S1[i]? = some u := fun {i u} e z => f i u z (fun w => by subst w; exact q0.2 e) (fun w => (dj i w).2 e)
  exact ⟨⟨n, nb, na, a, b, d, ps, qs, h1, h2, h3, h4, gx h1 h5, gx h2 h6, gx h3 h7, ⟨nr, h8, g9 h8 h8'⟩, Paired.mapP h9 fun _ _ ⟨n, z, e⟩ => ⟨n, z, g9 z e⟩, Paired.mapP h10 fun _ _ ⟨n, z, e⟩ => ⟨n, z, g9 z e⟩⟩⟩
theorem KeepQ.recolD {c : Addr} (h : KeepQ (chO c) q x S js bs as) (hx : ∀ (i : Nat) u, S[i]? = some u → (∀ a k, u ≠ .da a k) → q i = x → q' i = x) (h9 : ∀ (i : Nat) u, S[i]? = some u → (∀ a k, u ≠ .da a k) → q i = 9 → q' i = 9) : KeepQ (chO c) q' x S js bs as := by
  obtain ⟨n, nb, na, a, b, d, ps, qs, h1, h2, h3, h4, h5, h6, h7, ⟨nr, h8, h8'⟩, h10, h11⟩ := h.ex
  exact ⟨⟨n, nb, na, a, b, d, ps, qs, hx _ _ h5 (by simp) h1, hx _ _ h6 (by simp) h2, hx _ _ h7 (by simp) h3, h4, h5, h6, h7, ⟨nr, h9 _ _ h8' (by simp) h8, h8'⟩, Paired.mapP h10 fun _ _ ⟨n, z, e⟩ => ⟨n, h9 _ _ e (by simp) z, e⟩, Paired.mapP h11 fun _ _ ⟨n, z, e⟩ => ⟨n, h9 _ _ e (by simp) z, e⟩⟩⟩
end
/-- dicts bear the colour nought -/
def noD (S : Sto) (q : Nat → Nat) (i : Nat) : Nat := match S[i]? with
  | some (.da _ _) => 0
  | _ => q i
theorem noD_da {S : Sto} {q : Nat → Nat} {i : Nat} {a : Addr} {k : List (Key × R)} (e : S[i]? = some (.da a k)) : noD S q i = 0 := by
  unfold noD; rw [e]
theorem noD_or (S : Sto) (q : Nat → Nat) (i : Nat) : noD S q i = q i ∨ noD S q i = 0 := by
  unfold noD
  split
  · exact .inr rfl
  · exact .inl rfl
theorem noD_ne {S : Sto} {q : Nat → Nat} {i : Nat} {u : O} (e : S[i]? = some u) (h : ∀ a k, u ≠ .da a k) : noD S q i = q i := by
  unfold noD
  split
  · rename_i a k e2
    rw [e] at e2
    exact absurd (Option.some.inj e2) (h a k)
  · rfl
theorem ChQ.noD {q : Nat → Nat} {x : Nat} {S : Sto} {c : Addr} {js : Js} {bs as : List Js} (h : ChQ q x S c js bs as) : ChQ (noD S q) x S c js bs as :=
  KeepQ.recolD h (fun i u e n z => (noD_ne e n).trans z) (fun i u e n z => (noD_ne e n).trans z)
def ownQ (S : Sto) (q : Nat → Nat) (x : Nat) : List Nat := 0 :: (List.range S.length).filter fun i => q i == x
theorem frB_col {S S1 : Sto} {q : Nat → Nat} {x : Nat} (f : S.length ≤ S1.length ∧ ∀ (i : Nat) u, S[i]? = some u → i ≠ 0 → q i ≠ x → S1[i]? = some u) (nd : ∀ (i : Nat) a k, S[i]? = some (.da a k) → q i ≠ x ∧ i ≠ 0) : FrB (ownQ S q x) S S1 := ⟨f.1, fun i u e h => by
  rcases h with h | ⟨a, k, rfl⟩
  · refine f.2 i u e (fun z => h (by subst z; simp [ownQ])) (fun z => h ?_)
    simp only [ownQ, List.mem_cons, List.mem_filter, List.mem_range, beq_iff_eq]
    exact .inr ⟨get_len e, z⟩
  · exact f.2 i _ e (nd i a k e).2 (nd i a k e).1⟩
theorem ownQ_not {S : Sto} {q : Nat → Nat} {x i : Nat} (h0 : i ≠ 0) (h : q i ≠ x) : i ∉ ownQ S q x := by
  simp only [ownQ, List.mem_cons, List.mem_filter, List.mem_range, beq_iff_eq]
  rintro (e | ⟨_, e⟩)
  · exact h0 e
  · exact h e
end Z
set_option Elab.async false
set_option linter.all false
set_option maxRecDepth 100000
set_option exponentiation.threshold 20000
set_option maxHeartbeats 4000000
namespace Z
open PySem PySem.Spec PyProof.Rows L2 RZ
open PySem PySem.Spec PyProof.Rows L2 RZ
local macro_rules
  | `(tactic| wide_open with ($a, $bs,*)) => `(tactic| simp -failIfUnchanged only [wSeq, wSet, wFn, fAbs, fLen, fSum, fTup, fList, fMax2, fMin2, fInt, wCons, wVar, wNil, bindV, isLo, wTest, wBin, wUn, pNeg, pCmp, wC, wPar, pInt, pAddI, pMulI, pCat, wUnl, wNever, wFz, wRev, wItS, wSIdx, pSIn, pSCat, pSIx, fSLen, wrL, isLst, wRet, wRetN, wIf, wTup, wLst, dataOf, seqOf, pIx, wUnp, fTp, fNm, fCons, fNil, wStI, wAug, wDrop, wApp, wIt, itOf, wFor, wRng1, wRng2, wZip, wLc, wYes, wAndT, wOrT, wNotT, wAndV, wOrV, wNotV, wIfE, pEqB, pyOf, pyTr, py, pys, wIsi, isT, tyN, wSl, wNo, wSome, wCall, bindVs, rsOf, callL, locR, argLocs, renR, renum, pick, backL, putAll, wNext, retN, pIsN, isNon, pIsB, pInB, wipeR, start1, ixD_10, ixD_20, ixD_21, ixD_30, ixD_31, ixD_32, ixD_40, ixD_41, ixD_42, ixD_43, getI_0, getI_1, getI_2, getI_3, eqv_ii, eqv_bb, eqv_tt, eqv_ll, eqv_nn, eqv_tn, eqv_nt, eqv_it, eqv_ti, eqv_in, eqv_ni, eqa_nil, eqa_nc, eqa_cn, eqa_cc, PyData.depth, PyData.depthAll, Nat.min_zero, Nat.zero_min, Nat.max_zero, Nat.zero_max, Nat.max_self, Nat.min_self, Nat.zero_le, Nat.le_refl, List.append_assoc, List.length_append, at_k, at_0, set_k, set_0, lt_k, take_k, lt_kk, lt_0k, allD, prs, pSub, pDiv, pMod, pPow, pShl, pLt, pLe, pGt, pGe, pEq, pNe, Option.map_some, Option.map_none, Option.bind_some, Option.bind_none, List.getElem?_cons_zero, List.getElem?_cons_succ, List.getElem?_nil, List.set_cons_zero, List.set_cons_succ, List.set_nil, List.length_cons, List.length_nil, List.map_cons, List.map_nil, List.cons_append, List.nil_append, List.replicate_zero, List.replicate_succ, List.reduceReplicate, Nat.reduceAdd, Nat.reduceSub, Nat.reduceLT, Nat.reduceLeDiff, Int.reduceNeg, Int.reduceBEq, Int.reduceAdd, Int.reduceSub, Int.reduceMul, Int.reduceLE, Int.reduceLT, Int.reduceToNat, if_true, if_false, ite_true, ite_false, Bool.false_eq_true, Bool.not_true, Bool.not_false, true_and, and_true, List.nodup_nil, List.take_succ_cons, List.take_zero, List.take_nil, List.take_length, List.take_left, Bool.and_self, Bool.and_true, Bool.true_and, Bool.and_false, Bool.false_and, reduceCtorEq, Nat.zero_add, decide_true, decide_false, Nat.add_zero, List.append_nil, intsOf, Bool.or_false, Bool.or_true, Bool.false_or, Bool.true_or, beq_self_eq_true, String.reduceBEq, ne_eq, not_false_eq_true, forall_const, implies_true, Int.reduceDiv, Int.reduceMod, Int.reducePow, Nat.lt_irrefl, SV.r.injEq, R.d.injEq, false_implies, imp_self, Int.cast_ofNat_Int, List.nodup_cons, List.not_mem_nil, not_false_iff, Int.ofNat_zero, Int.natCast_zero, Int.natCast_one, Nat.reducePow, Int.reduceFDiv, Int.reduceFMod, wZipS, fStr, pRepT, wJoin, strsOf, wDGet, pLtD, fSorted, wFzL, fMin2D, fMax2D, wDIx, wRvX, fMin1D, fMax1D, wUnlike, wRvL, pCatQ, wDNew, pInD, pIxD, wDPut, fLenD, wKNew, wKNew1, pInK, pIxK, wKPut, fLenK, fListK, R.loc.injEq, forall_eq', List.mem_singleton, Nat.reduceEqDiff, wNum, wTupR, pIxT, fLenT, getR_0, getR_1, getR_2, wEnum, wDNew1, fSortX, wVals, wClr, wCntL, wItX, wGetK, wItemsS, wZipX, xL, xNext, xSeq, xIf, xRaise, xDrop, xSet, xRet, xE, xaL, xaCons, xTup, wxCall, wwCall, wTryK, wIsX, wIsXT, wAugI, wLstA, wAtL, wUnlA, pIxA, fLenA, wItA, wAppA, wPopA, wClrA, wStIA, noLocs, noLoc, wSlT, pSMul, pEqA, wIsiA, wToA, wLsR, wFld, wStF, wxMeth, wwMeth, wMk0, putR, wSlA, fListA, pCatA, wDaN, wZipN, wZipY, pRepY, wSplit, wPart, fIntT, wChn, wCpDa, pInDa, pIxDa, wPutDa, fSortDa, wFld2, pSNin, xCallZ, xCallW, xMeth, pEmA, wTryN, fCpLa, xFor, wUnlikeT, fIntTB, fStrB, wRepC, pSMulB, xLc, xFn, xPutDa, xForI, xIt, pGtS, pLeS, fDictA, fLenDa, wIsiAT, wRvA, wFnV, $a:term, $[$bs:term],*])
/-- slots: 0 one, 1 other -/
def w_divisor : PS1 :=
  (wSeq (wSet 0 (wFn fAbs (wCons (wVar 0) wNil)))
  (wSeq (wSet 1 (wFn fAbs (wCons (wVar 1) wNil)))
  (wSeq (wWhile (wTest (wBin pGt (wVar 1) (wC (.int 0)))) (wPar 0 1 (wCons (wVar 1) (wCons (wBin pMod (wVar 0) (wVar 1)) wNil))))
  (wRet (wVar 0)))))
def sp_divisor : SpZ := spGcd
theorem rd_divisor : ∀ rs S W, rs.length = 2 → sp_divisor rs S W → w_divisor { nx := fun _ S1 => retN S.length W (.d .non) S1, rt := retN S.length W } (start1 2 rs) S := by
  intro rs S W _ h
  unfold sp_divisor spGcd at h
  split at h
  · rename_i a b _
    wide_open with (w_divisor, wWhile)
    refine ⟨fun n r1 S1 => ∃ x y : Nat, r1 = [some (.d (.int x)), some (.d (.int y))] ∧ S1 = S ∧ n = y ∧ Nat.gcd x y = Int.gcd a b, ⟨_, _, _, rfl, rfl, rfl, rfl⟩, ?_⟩
    rintro n r1 S1 ⟨x, y, rfl, rfl, rfl, hg⟩
    wide_open with (if_true, if_true)
    by_cases hy : 0 < n
    · rw [if_pos (by simpa using hy)]
      refine ⟨by omega, _, _, Cut.refl, x % n, Nat.mod_lt _ hy, n, x % n, ?_, rfl, rfl, ?_⟩
      · rw [fmod_pos (by omega)]; rfl
      · rw [← hg, Nat.gcd_comm x n, Nat.gcd_rec n x, Nat.gcd_comm]
    · rw [if_neg (by simpa using hy)]
      have : n = 0 := by omega
      subst this
      rw [Nat.gcd_zero_right] at hg
      rw [hg]; exact h
  · exact h.elim
/-- slots: 0 four, 1 number -/
def w_size : PS1 :=
  (wRet (wFn fSum (wCons (wLc (wIt (wVar 0)) (fNm 1) wYes (wBin pMulI (wVar 1) (wVar 1)) [1]) wNil)))
def sp_size : SpZ := spSize
theorem rd_size : ∀ rs S W, rs.length = 1 → sp_size rs S W → w_size { nx := fun _ S1 => retN S.length W (.d .non) S1, rt := retN S.length W } (start1 2 rs) S := by
  intro rs S W _ h
  unfold sp_size spSize at h
  split at h
  · obtain ⟨ns, rfl, hb, hl, h⟩ := h
    wide_open with (w_size, if_true)
    refine ⟨by simp; omega, lcL_map (fun x => match x with | .d (.int n) => .int (n * n) | _ => .non) (by simp) trivial ?_ ?_⟩
    · intro x hx
      simp only [List.map_map, List.mem_map, Function.comp] at hx
      obtain ⟨n, hn, rfl⟩ := hx
      refine ⟨_, rfl, fun W1 h => h, fun W1 h => ?_⟩
      wide_open with (if_true, if_true)
      exact ⟨mulOk (hb n hn) (hb n hn) (by decide), h⟩
    · have e : ((ns.map D.int).map R.d).map (fun x => match x with | .d (.int n) => D.int (n * n) | _ => .non) = (ns.map fun x => x * x).map D.int := by simp [List.map_map, Function.comp_def]
      rw [e]
      wide_open with (intsOf_map, if_true)
      exact h
  · exact h.elim
/-- slots: 0 one, 1 other, 2 p, 3 q, 4 r, 5 s, 6 t, 7 u, 8 v, 9 o, 10 w, 11 x, 12 y -/
def w_product : PS1 :=
  (wSeq (wUnp (fTp 4 (fCons (fNm 2) (fCons (fNm 3) (fCons (fNm 4) (fCons (fNm 5) fNil))))) (wVar 0))
  (wSeq (wUnp (fTp 4 (fCons (fNm 6) (fCons (fNm 7) (fCons (fNm 8) (fCons (fNm 9) fNil))))) (wVar 1))
  (wSeq (wSet 10 (wBin pSub (wBin pSub (wBin pSub (wBin pMulI (wVar 2) (wVar 6)) (wBin pMulI (wVar 3) (wVar 7))) (wBin pMulI (wVar 4) (wVar 8))) (wBin pMulI (wVar 5) (wVar 9))))
  (wSeq (wSet 11 (wBin pSub (wBin pAddI (wBin pAddI (wBin pMulI (wVar 2) (wVar 7)) (wBin pMulI (wVar 3) (wVar 6))) (wBin pMulI (wVar 4) (wVar 9))) (wBin pMulI (wVar 5) (wVar 8))))
  (wSeq (wSet 12 (wBin pAddI (wBin pAddI (wBin pSub (wBin pMulI (wVar 2) (wVar 8)) (wBin pMulI (wVar 3) (wVar 9))) (wBin pMulI (wVar 4) (wVar 6))) (wBin pMulI (wVar 5) (wVar 7))))
  (wRet (wTup (wCons (wVar 10) (wCons (wVar 11) (wCons (wVar 12) (wCons (wBin pAddI (wBin pSub (wBin pAddI (wBin pMulI (wVar 2) (wVar 9)) (wBin pMulI (wVar 3) (wVar 8))) (wBin pMulI (wVar 4) (wVar 7))) (wBin pMulI (wVar 5) (wVar 6))) wNil)))))))))))
def sp_product : SpZ := spProd
theorem rd_product : ∀ rs S W, rs.length = 2 → sp_product rs S W → w_product { nx := fun _ S1 => retN S.length W (.d .non) S1, rt := retN S.length W } (start1 13 rs) S := by
  intro rs S W _ h
  unfold sp_product spProd at h
  split at h
  · obtain ⟨a, b, rfl, rfl, ha, hb, h1, h2, h⟩ := h
    obtain ⟨p, q, r, s, rfl⟩ := four_of ha
    obtain ⟨t, u, v, o, rfl⟩ := four_of hb
    simp only [List.mem_cons, List.not_mem_nil, or_false, forall_eq_or_imp, forall_eq] at h1 h2
    obtain ⟨p1, p2, p3, p4⟩ := h1
    obtain ⟨q1, q2, q3, q4⟩ := h2
    wide_open with (w_product, if_true)
    repeat' refine And.intro ?_ ?_
    all_goals first | exact mulOk (by assumption) (by assumption) (by decide) | exact h
  · exact h.elim
/-- slots: 0 four, 1 w, 2 x, 3 y, 4 z, 5 first, 6 second, 7 third -/
def w_rows_of : PS1 :=
  (wSeq (wUnp (fTp 4 (fCons (fNm 1) (fCons (fNm 2) (fCons (fNm 3) (fCons (fNm 4) fNil))))) (wVar 0))
  (wSeq (wSet 5 (wTup (wCons (wBin pSub (wBin pSub (wBin pAddI (wBin pMulI (wVar 1) (wVar 1)) (wBin pMulI (wVar 2) (wVar 2))) (wBin pMulI (wVar 3) (wVar 3))) (wBin pMulI (wVar 4) (wVar 4))) (wCons (wBin pMulI (wC (.int 2)) (wBin pSub (wBin pMulI (wVar 2) (wVar 3)) (wBin pMulI (wVar 1) (wVar 4)))) (wCons (wBin pMulI (wC (.int 2)) (wBin pAddI (wBin pMulI (wVar 2) (wVar 4)) (wBin pMulI (wVar 1) (wVar 3)))) wNil)))))
  (wSeq (wSet 6 (wTup (wCons (wBin pMulI (wC (.int 2)) (wBin pAddI (wBin pMulI (wVar 2) (wVar 3)) (wBin pMulI (wVar 1) (wVar 4)))) (wCons (wBin pSub (wBin pAddI (wBin pSub (wBin pMulI (wVar 1) (wVar 1)) (wBin pMulI (wVar 2) (wVar 2))) (wBin pMulI (wVar 3) (wVar 3))) (wBin pMulI (wVar 4) (wVar 4))) (wCons (wBin pMulI (wC (.int 2)) (wBin pSub (wBin pMulI (wVar 3) (wVar 4)) (wBin pMulI (wVar 1) (wVar 2)))) wNil)))))
  (wSeq (wSet 7 (wTup (wCons (wBin pMulI (wC (.int 2)) (wBin pSub (wBin pMulI (wVar 2) (wVar 4)) (wBin pMulI (wVar 1) (wVar 3)))) (wCons (wBin pMulI (wC (.int 2)) (wBin pAddI (wBin pMulI (wVar 3) (wVar 4)) (wBin pMulI (wVar 1) (wVar 2)))) (wCons (wBin pAddI (wBin pSub (wBin pSub (wBin pMulI (wVar 1) (wVar 1)) (wBin pMulI (wVar 2) (wVar 2))) (wBin pMulI (wVar 3) (wVar 3))) (wBin pMulI (wVar 4) (wVar 4))) wNil)))))
  (wRet (wTup (wCons (wVar 5) (wCons (wVar 6) (wCons (wVar 7) wNil)))))))))
def sp_rows_of : SpZ := fun rs S W => match rs with
  | [.d (.tup xs)] => ∃ a : List Int, xs = a.map D.int ∧ a.length = 4 ∧ (∀ x ∈ a, Bd 60000000 x) ∧ W (.d (.tup ((rowsI a).map rowD))) S
  | _ => False
theorem rd_rows_of : ∀ rs S W, rs.length = 1 → sp_rows_of rs S W → w_rows_of { nx := fun _ S1 => retN S.length W (.d .non) S1, rt := retN S.length W } (start1 8 rs) S := by
  intro rs S W _ h
  unfold sp_rows_of at h
  split at h
  · obtain ⟨a, rfl, ha, hb, h⟩ := h
    obtain ⟨w, x, y, z, rfl⟩ := four_of ha
    simp only [List.mem_cons, List.not_mem_nil, or_false, forall_eq_or_imp, forall_eq] at hb
    obtain ⟨p1, p2, p3, p4⟩ := hb
    wide_open with (w_rows_of, if_true)
    repeat' refine And.intro ?_ ?_
    all_goals first | exact mulOk_l (by decide) | exact mulOk (by assumption) (by assumption) (by decide) | exact h
  · exact h.elim
/-- slots: 0 text, 1 sign -/
def w_is_name : PS1 :=
  (wSeq (wIf (wOrT (wTest (wBin pLt (wFn fSLen (wCons (wVar 0) wNil)) (wC (.int 1)))) (wTest (wBin pGt (wFn fSLen (wCons (wVar 0) wNil)) (wC (.int 8))))) (wRet (wC (.bl false))) wNext)
  (wSeq (wFor (wItS (wVar 0)) (fNm 1) (wIf (wTest (wBin pSNin (wVar 1) (wC (.str (PySem.Str.ofString "abcdefghijklmnopqrstuvwxyz"))))) (wRet (wC (.bl false))) wNext))
  (wRet (wC (.bl true)))))
def sp_is_name : SpZ := fun rs S W => match rs with
  | [.d (.str x)] => ∃ l : List Nat, x = Tx l ∧ l.length ≤ 16777000 ∧ W (.d (.bl (nameL l))) S
  | _ => False
theorem rd_is_name : ∀ rs S W, rs.length = 1 → sp_is_name rs S W → w_is_name { nx := fun _ S1 => retN S.length W (.d .non) S1, rt := retN S.length W } (start1 2 rs) S := by
  intro rs S W _ h
  unfold sp_is_name at h
  split at h
  · obtain ⟨l, rfl, hl, h⟩ := h
    unfold w_is_name
    refine seqI fun P hP => ?_
    wide_open with (tx_len, if_true)
    refine ⟨by omega, ?_⟩
    by_cases h1 : (l.length : Int) < 1
    · have e : nameL l = false := by unfold nameL; rw [decide_eq_false (show ¬ 1 ≤ l.length by omega)]; rfl
      rw [e] at h
      wide_open with (decide_eq_true h1, if_true)
      exact h
    · wide_open with (decide_eq_false h1, if_true)
      refine ⟨by omega, ?_⟩
      by_cases h2 : (l.length : Int) > 8
      · have e : nameL l = false := by unfold nameL; rw [decide_eq_false (show ¬ l.length ≤ 8 by omega)]; simp
        rw [e] at h
        wide_open with (decide_eq_true h2, if_true)
        exact h
      · wide_open with (decide_eq_false h2, if_true)
        have e : nameL l = l.all fun c => decide (97 ≤ c) && decide (c ≤ 122) := by unfold nameL; rw [decide_eq_true (show 1 ≤ l.length by omega), decide_eq_true (show l.length ≤ 8 by omega)]; rfl
        rw [e] at h
        clear e
        refine hP _ _ ?_; clear hP
        refine seqI fun P hP => ?_
        wide_open with (tx_chrs, if_true)
        refine forL_ix (fun i r S1 => S1 = S ∧ (l.take i).all (fun c => decide (97 ≤ c) && decide (c ≤ 122)) = true ∧ ∃ y : Option R, r = [some (.d (.str (Tx l))), y]) ?_ ?_ ⟨rfl, rfl, none, rfl⟩
        · rintro i x hx r S1 ⟨rfl, hi, y, rfl⟩ M hM
          obtain ⟨c, hc, rfl⟩ := item_enc hx
          have il := (List.getElem?_eq_some_iff.mp hc).1
          refine ⟨trivial, ?_⟩
          wide_open with (abc_mem, if_true)
          by_cases q : (decide (97 ≤ c) && decide (c ≤ 122)) = true
          · rw [q]
            wide_open with (if_true, if_true)
            refine ⟨_, _, Cut.refl, hM _ _ ⟨rfl, ?_, _, rfl⟩⟩
            rw [List.take_add_one, hc, List.all_append, hi]
            simpa using q
          · have q : (decide (97 ≤ c) && decide (c ≤ 122)) = false := Bool.eq_false_iff.mpr q
            have ea : (l.all fun c => decide (97 ≤ c) && decide (c ≤ 122)) = false := by
              rw [List.all_eq_false]
              exact ⟨c, List.mem_of_getElem? hc, by rw [q]; decide⟩
            rw [ea] at h
            rw [q]
            wide_open with (if_true, if_true)
            exact h
        · rintro r S1 ⟨rfl, hi, y, rfl⟩
          rw [List.length_map, List.take_length] at hi
          rw [hi] at h
          refine ⟨trivial, ?_⟩
          show P _ _
          refine hP _ _ ?_; clear hP
          wide_open with (if_true, if_true)
          exact h
  · exact h.elim
/-- slots: 0 _law_cell, 1 _law_k, 2 _law_number_here -/
def w_l_mixed : PS1 :=
  (wSeq (wSet 2 (wBin pMod (wBin pMulI (wBin pAddI (wBin pAddI (wBin pAddI (wBin pMulI (wVar 0) (wVar 0)) (wBin pMulI (wC (.int 3)) (wVar 0))) (wBin pMulI (wC (.int 7919)) (wVar 1))) (wC (.int 1))) (wC (.int 48271))) (wC (.int 2147483629))))
  (wSeq (wSet 2 (wBin pMod (wBin pAddI (wBin pMulI (wVar 2) (wVar 2)) (wC (.int 7))) (wC (.int 2147483587))))
  (wRet (wBin pMod (wBin pMulI (wVar 2) (wBin pAddI (wVar 2) (wC (.int 69621)))) (wC (.int 2147483563))))))
def sp_l_mixed : SpZ := fun rs S W => match rs with
  | [.d (.int c), .d (.int k)] => Bd SB c ∧ (0 ≤ k ∧ k ≤ 1000) ∧ ∀ v : Int, W (.d (.int v)) S
  | _ => False
theorem rd_l_mixed : ∀ rs S W, rs.length = 2 → sp_l_mixed rs S W → w_l_mixed { nx := fun _ S1 => retN S.length W (.d .non) S1, rt := retN S.length W } (start1 3 rs) S := by
  intro rs S W _ h
  unfold sp_l_mixed at h
  split at h
  · rename_i c k _
    obtain ⟨hc, ⟨k0, k1⟩, h⟩ := h
    unfold w_l_mixed
    refine seqI fun P hP => ?_
    wide_open with (if_true, if_true)
    have e1 : ∀ x : Int, x.fmod 2147483629 = x % 2147483629 := fun x => fmod_pos (by decide)
    have e2 : ∀ x : Int, x.fmod 2147483587 = x % 2147483587 := fun x => fmod_pos (by decide)
    rw [e1]
    refine ⟨mulOk hc hc (by decide), mulOk_l (by decide), mulOk_l (by decide), mulOk_r (by decide), by decide, ?_⟩
    generalize ((c * c + 3 * c + 7919 * k + 1) * 48271) = z
    have b1 := Int.emod_nonneg z (show (2147483629 : Int) ≠ 0 by decide)
    have b2 := Int.emod_lt_of_pos z (show (0 : Int) < 2147483629 by decide)
    generalize z % 2147483629 = y at *
    refine hP _ _ ?_; clear hP
    refine seqI fun P hP => ?_
    wide_open with (if_true, if_true)
    rw [e2]
    refine ⟨mulOk_l ⟨by omega, by omega⟩, by decide, ?_⟩
    generalize y * y + 7 = x
    have c1 := Int.emod_nonneg x (show (2147483587 : Int) ≠ 0 by decide)
    have c2 := Int.emod_lt_of_pos x (show (0 : Int) < 2147483587 by decide)
    generalize x % 2147483587 = u at *
    refine hP _ _ ?_; clear hP
    wide_open with (if_true, if_true)
    exact ⟨mulOk_l ⟨by omega, by omega⟩, by decide, h _⟩
  · exact h.elim
/-- slots: 0 _law_purse_here, 1 _law_out_of, 2 _law_drawn -/
def w_l_draw : PS1 :=
  (wSeq (wIf (wTest (wBin pEq (wBin pIx (wVar 0) (wC (.int 0))) (wC (.int 0)))) (wStI (wVar 0) (wC (.int 0)) (wBin pIx (wVar 0) (wC (.int 1)))) wNext)
  (wSeq (wSet 2 (wBin pMod (wBin pIx (wVar 0) (wC (.int 0))) (wVar 1)))
  (wSeq (wStI (wVar 0) (wC (.int 0)) (wBin pDiv (wBin pIx (wVar 0) (wC (.int 0))) (wVar 1)))
  (wRet (wVar 2)))))
/-- the purse: any two whole numbers -/
def sp_l_draw : SpZ := fun rs S W => match rs, S with
  | [.loc 0, .d (.int n)], [.lst [.int _, .int _]] => (0 < n ∧ n ≤ 10000000000000000000000000000000000000000) ∧ ∀ v a b : Int, 0 ≤ v → v < n → W (.d (.int v)) [.lst [.int a, .int b]]
  | _, _ => False
theorem rd_l_draw : ∀ rs S W, rs.length = 2 → sp_l_draw rs S W → w_l_draw { nx := fun _ S1 => retN S.length W (.d .non) S1, rt := retN S.length W } (start1 3 rs) S := by
  intro rs S W _ h
  unfold sp_l_draw at h
  split at h
  · rename_i n a b _
    obtain ⟨⟨h0, h1⟩, h⟩ := h
    have fin : ∀ a b : Int, (n ≠ 0 ∧ CDv a n ∧ W (.d (.int (a.fmod n))) [.lst [.int (a.fdiv n), .int b]]) := fun a b => ⟨by omega, cdv_small (by omega) (Nat.lt_of_le_of_lt (show n.natAbs ≤ 10000000000000000000000000000000000000000 by omega) (by decide)), by rw [fmod_pos h0]; exact h _ _ _ (Int.emod_nonneg _ (by omega)) (Int.emod_lt_of_pos _ h0)⟩
    wide_open with (w_l_draw, PyData.eqv)
    by_cases ha : a = 0
    · subst ha
      wide_open with (if_true, if_true)
      exact fin b b
    · have e : (a == 0) = false := by simpa using ha
      rw [e]
      wide_open with (if_true, if_true)
      exact fin a b
  · exact h.elim
/-- slots: 0 _law_one, 1 _law_other -/
def w_l_divisor : PS1 :=
  (wSeq (wSet 0 (wFn fAbs (wCons (wVar 0) wNil)))
  (wSeq (wSet 1 (wFn fAbs (wCons (wVar 1) wNil)))
  (wSeq (wWhile (wTest (wBin pGt (wVar 1) (wC (.int 0)))) (wPar 0 1 (wCons (wVar 1) (wCons (wBin pMod (wVar 0) (wVar 1)) wNil))))
  (wRet (wVar 0)))))
def sp_l_divisor : SpZ := spGcd
theorem rd_l_divisor : ∀ rs S W, rs.length = 2 → sp_l_divisor rs S W → w_l_divisor { nx := fun _ S1 => retN S.length W (.d .non) S1, rt := retN S.length W } (start1 2 rs) S := rd_divisor
/-- slots: 0 self -/
def w_Body___init__ : PX1 :=
  (xSeq (xL (wStF "Body" "here" (wVar 0) (wTup (wCons (wC (.int 1)) (wCons (wC (.int 0)) (wCons (wC (.int 0)) (wCons (wC (.int 0)) wNil)))))))
  (xSeq (xL (wStF "Body" "kept" (wVar 0) wDaN))
  (xSeq (xL (wStF "Body" "behind" (wVar 0) (wLstA wNil)))
  (xL (wStF "Body" "ahead" (wVar 0) (wLstA wNil))))))
def sp_Body___init__ : SpW := fun rs S W _ => match rs with
  | [.ad c] => ∃ S0 : Sto, S = S0 ++ [.ob c "Body" []] ∧ ∀ S' : Sto, S'.take S0.length = S0 → BodyAt [S0.length, S0.length + 2, S0.length + 3] S' c ([1, 0, 0, 0], []) [] [] → W (.d .non) S'
  | _ => False
theorem rd_Body___init__ : ∀ rs S W XW, rs.length = 1 → sp_Body___init__ rs S W XW → w_Body___init__ { n := { nx := fun _ S1 => W (.d .non) S1, rt := W }, ex := fun x _ S1 => XW x S1 } (start1 1 rs) S := by
  intro rs S W XW _ h
  unfold sp_Body___init__ at h
  split at h
  · rename_i c _
    obtain ⟨S0, rfl, h⟩ := h
    have e1 : ∀ x v : O, (S0 ++ [x]).set S0.length v = S0 ++ [v] := fun x v => by simp
    have e2 : ∀ x y v : O, (S0 ++ [x, y]).set S0.length v = S0 ++ [v, y] := fun x y v => by simp
    have e3 : ∀ x y z v : O, (S0 ++ [x, y, z]).set S0.length v = S0 ++ [v, y, z] := fun x y z v => by simp
    have e4 : ∀ x y z w v : O, (S0 ++ [x, y, z, w]).set S0.length v = S0 ++ [v, y, z, w] := fun x y z w v => by simp
    unfold w_Body___init__
    refine xseqI fun P hP => ?_
    wide_open with (if_true, if_true)
    refine ⟨S0.length, [], by simp, by decide, ?_⟩
    rw [putB_1, e1]
    refine hP _ _ ?_; clear hP
    refine xseqI fun P hP => ?_
    wide_open with (if_true, if_true)
    refine fun k => ⟨S0.length, _, by simp; rfl, by simp, ?_⟩
    rw [putB_2, e2]
    refine hP _ _ ?_; clear hP
    refine xseqI fun P hP => ?_
    wide_open with (if_true, if_true)
    refine fun b => ⟨S0.length, _, by simp; rfl, by simp, ?_⟩
    rw [putB_3, e3]
    refine hP _ _ ?_; clear hP
    wide_open with (if_true, if_true)
    refine fun d => ⟨S0.length, _, by simp; rfl, by simp, ?_⟩
    rw [putB_4, e4]
    exact h _ (by simp) ⟨⟨S0.length, S0.length + 2, S0.length + 3, k, b, d, [], [], by simp, by simp, by simp, by omega, by simp [foD], by simp, by simp, ⟨S0.length + 1, by simp⟩, .nil, .nil⟩, fun i hi => by simp at hi; simp; omega⟩
  · exact h.elim
/-- slots: 0 self, 1 here, 2 kept -/
def w_Body_come_to : PX1 :=
  (xSeq (xL (wDrop (wAppA (wFld "Body" "behind" (wVar 0)) (wTupR (wCons (wFld "Body" "here" (wVar 0)) (wCons (wFld "Body" "kept" (wVar 0)) wNil))))))
  (xSeq (xL (wStF "Body" "ahead" (wVar 0) (wLstA wNil)))
  (xSeq (xL (wStF "Body" "here" (wVar 0) (wVar 1)))
  (xL (wStF "Body" "kept" (wVar 0) (wVar 2))))))
def sp_Body_come_to : SpW := fun rs S W _ => match rs with
  | [.ad c, .d x, .ad k] => ∃ (own : List Nat) (s s' : Bs) (bs as : List Bs), x = foD s'.1 ∧ BodyAt own S c s bs as ∧ DaAt S k s'.2 ∧ bs.length ≤ 10000 ∧ ∀ (own' : List Nat) (S' : Sto), OwnX own own' S → FrB own S S' → BodyAt own' S' c s' (bs ++ [s]) [] → W (.d .non) S'
  | _ => False
theorem rd_Body_come_to : ∀ rs S W XW, rs.length = 3 → sp_Body_come_to rs S W XW → w_Body_come_to { n := { nx := fun _ S1 => W (.d .non) S1, rt := W }, ex := fun x _ S1 => XW x S1 } (start1 3 rs) S := by
  intro rs S W XW _ h
  unfold sp_Body_come_to at h
  split at h
  · rename_i c x k _
    obtain ⟨own, s, s', bs, as, rfl, bd, hk, hl, h⟩ := h
    obtain ⟨n, nb, na, k0, b, d, ps, qs, o1, o2, o3, o4, h2, h3, h4, h5, h6, h7⟩ := bd.ex
    have low := bd.low
    have pl : ps.length = bs.length := h6.length
    have nn : nb ≠ n := fun q => by subst q; rw [h3] at h2; cases h2
    have na_n : na ≠ n := fun q => by subst q; rw [h4] at h2; cases h2
    have fr : FrB own S S := FrB.refl
    unfold w_Body_come_to
    refine xseqI fun P hP => ?_
    wide_open with (if_true, if_true)
    refine ⟨n, _, _, h2, bdF_behind, ?_⟩
    wide_open with (if_true, if_true)
    refine ⟨⟨nb, _, h3⟩, n, _, _, h2, bdF_here, n, _, _, h2, bdF_kept, ?_⟩
    wide_open with (if_true, if_true)
    refine ⟨nb, _, h3, by rw [List.length_map]; omega, ?_⟩
    refine hP _ _ ?_; clear hP
    have en : psR ps ++ [.tr [.d (foD s.1), .ad k0]] = psR (ps ++ [(s.1, k0)]) := by simp [psR]
    rw [en]
    have fr := fr.set (.inl o2) h3 (by simp) (.la b (psR (ps ++ [(s.1, k0)])))
    have h2 := gset (x := .la b (psR (ps ++ [(s.1, k0)]))) h2 nn
    have h3 := gput (x := .la b (psR (ps ++ [(s.1, k0)]))) h3
    generalize S.set nb (.la b (psR (ps ++ [(s.1, k0)]))) = S1 at *
    refine xseqI fun P hP => ?_
    wide_open with (if_true, if_true)
    refine fun d2 => ⟨n, _, gapp h2, (by rw [bdF_len]; decide), ?_⟩
    rw [putB_ahead]
    refine hP _ _ ?_; clear hP
    have l1 := fr.1
    have n1 : n < S1.length := get_len h2
    have nb1 : nb < S1.length := get_len h3
    have h4 : (S1 ++ [O.la d2 []])[S1.length]? = some (.la d2 (psR [])) := List.getElem?_concat_length
    have fr := (fr.app [O.la d2 []]).set (.inl o1) (gapp h2) (by simp) (.ob c "Body" (bdF (foD s.1) k0 b d2))
    have h4 := gset (x := .ob c "Body" (bdF (foD s.1) k0 b d2)) h4 (show n ≠ S1.length by omega)
    have h3 := gset (x := .ob c "Body" (bdF (foD s.1) k0 b d2)) (gapp (Y := [O.la d2 []]) h3) nn.symm
    have h2 := gput (x := .ob c "Body" (bdF (foD s.1) k0 b d2)) (gapp (Y := [O.la d2 []]) h2)
    generalize (S1 ++ [O.la d2 []]).set n (.ob c "Body" (bdF (foD s.1) k0 b d2)) = S2 at *
    refine xseqI fun P hP => ?_
    wide_open with (if_true, if_true)
    refine ⟨n, _, h2, (by rw [bdF_len]; decide), ?_⟩
    rw [putB_here]
    refine hP _ _ ?_; clear hP
    have fr := fr.set (.inl o1) h2 (by simp) (.ob c "Body" (bdF (foD s'.1) k0 b d2))
    have h4 := gset (x := .ob c "Body" (bdF (foD s'.1) k0 b d2)) h4 (show n ≠ S1.length by omega)
    have h3 := gset (x := .ob c "Body" (bdF (foD s'.1) k0 b d2)) h3 nn.symm
    have h2 := gput (x := .ob c "Body" (bdF (foD s'.1) k0 b d2)) h2
    generalize S2.set n (.ob c "Body" (bdF (foD s'.1) k0 b d2)) = S3 at *
    wide_open with (if_true, if_true)
    refine ⟨n, _, h2, (by rw [bdF_len]; decide), ?_⟩
    rw [putB_kept]
    have fr := fr.set (.inl o1) h2 (by simp) (.ob c "Body" (bdF (foD s'.1) k b d2))
    have h4 := gset (x := .ob c "Body" (bdF (foD s'.1) k b d2)) h4 (show n ≠ S1.length by omega)
    have h3 := gset (x := .ob c "Body" (bdF (foD s'.1) k b d2)) h3 nn.symm
    have h2 := gput (x := .ob c "Body" (bdF (foD s'.1) k b d2)) h2
    refine h (S1.length :: own) _ (fun i hi => ?_) fr ⟨⟨n, nb, S1.length, k, b, d2, ps ++ [(s.1, k0)], [], by simp [o1], by simp [o2], by simp, by omega, h2, h3, h4, hk.fr fr, Paired.snoc (h6.fr fr) ⟨rfl, h5.fr fr⟩, .nil⟩, fun i hi => ?_⟩
    · rcases List.mem_cons.mp hi with rfl | hi
      · exact .inr l1
      · exact .inl hi
    · rcases List.mem_cons.mp hi with rfl | hi
      · exact get_len h4
      · exact Nat.lt_of_lt_of_le (low i hi) fr.1
  · exact h.elim
/-- slots: 0 self, 1 name -/
def w_Body_marks : PX1 :=
  (xL (wRet (wLc (wIt (wFn fSortDa (wCons (wFld "Body" "kept" (wVar 0)) wNil))) (fNm 1) wYes (wTup (wCons (wVar 1) (wCons (wBin pIxDa (wFld "Body" "kept" (wVar 0)) (wVar 1)) wNil))) [1])))
def sp_Body_marks : SpW := fun rs S W XW => match rs with
  | [.ad c] => ∃ (own : List Nat) (s : Bs) (bs as : List Bs), BodyAt own S c s bs as ∧ s.2.length < 64 ∧ (s.2.map (·.1)).Nodup ∧ W (.loc S.length) (S ++ [.lst ((srK s.2).map nkD)])
  | _ => False
theorem rd_Body_marks : ∀ rs S W XW, rs.length = 1 → sp_Body_marks rs S W XW → w_Body_marks { n := { nx := fun _ S1 => W (.d .non) S1, rt := W }, ex := fun x _ S1 => XW x S1 } (start1 2 rs) S := by
  intro rs S W XW _ h
  unfold sp_Body_marks at h
  split at h
  · rename_i c _
    obtain ⟨own, s, bs, as, bd, hl, nd, h⟩ := h
    obtain ⟨n, nb, na, k0, b, d, ps, qs, o1, o2, o3, o4, h2, h3, h4, ⟨nk, h5⟩, h6, h7⟩ := id bd.ex
    have ek : (kpR s.2).map (·.1) = (s.2.map (·.1)).map Sum.inr := by rw [List.map_map, List.map_map]; rfl
    unfold w_Body_marks
    wide_open with (if_true, if_true)
    refine ⟨n, _, _, h2, bdF_kept, ?_⟩
    wide_open with (if_true, if_true)
    refine ⟨nk, _, _, h5, ek, by rw [List.length_map]; exact hl, fun ys hp hs => ?_⟩
    rw [← marks_srK nd hp hs] at h
    have yl : ys.length = s.2.length := by rw [hp.length_eq, List.length_map]
    have hg : ∀ y ∈ ys, ∃ f, getKp s.2 y = some f := fun y hy => getKp_mem (hp.mem_iff.mp hy)
    wide_open with (List.length_map, if_true)
    refine ⟨by omega, ?_⟩
    rw [List.map_map]
    refine lcL_enc (xs := ys) (fun y => R.d (.str y)) (mkD s.2) List.take_length trivial (fun y hy => ⟨_, rfl, fun W1 h => h, fun W1 h => ?_⟩) h
    obtain ⟨f, hf⟩ := hg y hy
    have g := getKp_R s.2 y
    rw [hf] at g
    have g : getA (kpR s.2) (.inr y) = some (.d (foD f)) := g
    unfold mkD at h
    rw [hf] at h
    wide_open with (if_true, if_true)
    refine ⟨n, _, _, h2, bdF_kept, ?_⟩
    wide_open with (if_true, if_true)
    refine ⟨nk, _, .inr y, _, h5, rfl, g, ?_⟩
    wide_open with (if_true, if_true)
    exact h
  · exact h.elim
/-- slots: 0 self, 1 here, 2 kept -/
def w_Body_path : PX1 :=
  (xL (wRet (wBin pCat (wLc (wItA (wFld "Body" "behind" (wVar 0))) (fTp 2 (fCons (fNm 1) (fCons (fNm 2) fNil))) wYes (wVar 1) [1, 2]) (wLst (wCons (wFld "Body" "here" (wVar 0)) wNil)))))
def sp_Body_path : SpW := fun rs S W _ => match rs with
  | [.ad c] => ∃ (own : List Nat) (s : Bs) (bs as : List Bs), BodyAt own S c s bs as ∧ bs.length ≤ 10000 ∧ W (.loc S.length) (S ++ [.lst ((bs ++ [s]).map fun s => foD s.1)])
  | _ => False
theorem rd_Body_path : ∀ rs S W XW, rs.length = 1 → sp_Body_path rs S W XW → w_Body_path { n := { nx := fun _ S1 => W (.d .non) S1, rt := W }, ex := fun x _ S1 => XW x S1 } (start1 3 rs) S := by
  intro rs S W XW _ h
  unfold sp_Body_path at h
  split at h
  · rename_i c _
    obtain ⟨own, s, bs, as, bd, hl, h⟩ := h
    obtain ⟨n, nb, na, k0, b, d, ps, qs, o1, o2, o3, o4, h2, h3, h4, h5, h6, h7⟩ := id bd.ex
    have pl : ps.length = bs.length := h6.length
    unfold w_Body_path
    wide_open with (if_true, if_true)
    refine ⟨n, _, _, h2, bdF_behind, ?_⟩
    wide_open with (if_true, if_true)
    refine ⟨nb, _, h3, by rw [List.length_map]; omega, ?_⟩
    refine lcL_enc (xs := ps) (fun p => R.tr [.d (foD p.1), .ad p.2]) (fun p => foD p.1) List.take_length h3 (fun p hp => ⟨_, rfl, fun W1 h => h, fun W1 h => ?_⟩) ?_
    · wide_open with (if_true, if_true)
      exact h
    · wide_open with (if_true, if_true)
      refine ⟨n, _, _, h2, bdF_here, ?_⟩
      wide_open with (List.length_map, if_true)
      refine ⟨by omega, ?_⟩
      rw [row_path h6]
      rw [List.map_append] at h
      exact h
  · exact h.elim
/-- slots: 0 self -/
def w_Body_back : PX1 :=
  (xSeq (xIf (wTest (wBin pEmA (wFld "Body" "behind" (wVar 0)) (wLst wNil))) (xRaise (PySem.Str.ofString "NoDeed")) xNext)
  (xSeq (xL (wDrop (wAppA (wFld "Body" "ahead" (wVar 0)) (wTupR (wCons (wFld "Body" "here" (wVar 0)) (wCons (wFld "Body" "kept" (wVar 0)) wNil))))))
  (xL (wFld2 "Body" "here" "kept" (wVar 0) (wPopA (wFld "Body" "behind" (wVar 0)))))))
def sp_Body_back : SpW := fun rs S W XW => match rs with
  | [.ad c] => ∃ (own : List Nat) (s : Bs) (bs as : List Bs), BodyAt own S c s bs as ∧ as.length ≤ 10000 ∧ (bs = [] → XW (PySem.Str.ofString "NoDeed") S) ∧
      ∀ (bs' : List Bs) (s' : Bs), bs = bs' ++ [s'] → ∀ S' : Sto, FrB own S S' → BodyAt own S' c s' bs' (as ++ [s]) → W (.d .non) S'
  | _ => False
theorem rd_Body_back : ∀ rs S W XW, rs.length = 1 → sp_Body_back rs S W XW → w_Body_back { n := { nx := fun _ S1 => W (.d .non) S1, rt := W }, ex := fun x _ S1 => XW x S1 } (start1 1 rs) S := by
  intro rs S W XW _ h
  unfold sp_Body_back at h
  split at h
  · rename_i c _
    obtain ⟨own, s, bs, as, bd, hl, hx, h⟩ := h
    obtain ⟨n, nb, na, k0, b, d, ps, qs, o1, o2, o3, o4, h2, h3, h4, h5, h6, h7⟩ := id bd.ex
    have ql : qs.length = as.length := h7.length
    have nn : nb ≠ n := fun q => by subst q; rw [h3] at h2; cases h2
    have na_n : na ≠ n := fun q => by subst q; rw [h4] at h2; cases h2
    have fr : FrB own S S := FrB.refl
    unfold w_Body_back
    refine xseqI fun P hP => ?_
    wide_open with (if_true, if_true)
    refine ⟨n, _, _, h2, bdF_behind, ?_⟩
    wide_open with (if_true, if_true)
    refine ⟨nb, _, h3, ?_⟩
    rcases List.eq_nil_or_concat bs with rfl | ⟨bs', s', rfl⟩
    · cases h6
      wide_open with (if_true, if_true)
      exact hx rfl
    · rw [List.concat_eq_append] at *
      obtain ⟨ps', p', e1, h6', e3⟩ : ∃ (ps' : List (List Int × Addr)) (p' : List Int × Addr), ps = ps' ++ [p'] ∧ RowAt S ps' bs' ∧ (p'.1 = s'.1 ∧ DaAt S p'.2 s'.2) := row_split h6
      subst e1
      have en : (psR (ps' ++ [p'])).isEmpty = false := by simp [psR]
      rw [en]
      wide_open with (if_true, if_true)
      refine hP _ _ ?_; clear hP
      refine xseqI fun P hP => ?_
      wide_open with (if_true, if_true)
      refine ⟨n, _, _, h2, bdF_ahead, ?_⟩
      wide_open with (if_true, if_true)
      refine ⟨⟨na, _, h4⟩, n, _, _, h2, bdF_here, n, _, _, h2, bdF_kept, ?_⟩
      wide_open with (if_true, if_true)
      refine ⟨na, _, h4, by rw [List.length_map]; omega, ?_⟩
      refine hP _ _ ?_; clear hP
      have en : psR qs ++ [.tr [.d (foD s.1), .ad k0]] = psR (qs ++ [(s.1, k0)]) := by simp [psR]
      rw [en]
      have fr := fr.set (.inl o3) h4 (by simp) (.la d (psR (qs ++ [(s.1, k0)])))
      have h2 := gset (x := .la d (psR (qs ++ [(s.1, k0)]))) h2 na_n
      have h3 := gset (x := .la d (psR (qs ++ [(s.1, k0)]))) h3 o4.symm
      have h4 := gput (x := .la d (psR (qs ++ [(s.1, k0)]))) h4
      generalize S.set na (.la d (psR (qs ++ [(s.1, k0)]))) = S1 at *
      wide_open with (if_true, if_true)
      refine ⟨n, _, _, h2, bdF_behind, ?_⟩
      wide_open with (if_true, if_true)
      have el : (psR (ps' ++ [p']))[(psR (ps' ++ [p'])).length - 1]? = some (.tr [.d (foD p'.1), .ad p'.2]) := by simp [psR]
      have ed : (psR (ps' ++ [p'])).dropLast = psR ps' := by simp [psR]
      refine ⟨nb, _, _, h3, el, ?_⟩
      rw [ed]
      have fr := fr.set (.inl o2) h3 (by simp) (.la b (psR ps'))
      have h2 := gset (x := .la b (psR ps')) h2 nn
      have h4 := gset (x := .la b (psR ps')) h4 o4
      have h3 := gput (x := .la b (psR ps')) h3
      generalize S1.set nb (.la b (psR ps')) = S2 at *
      wide_open with (if_true, if_true)
      refine ⟨n, _, h2, (by rw [bdF_len]; decide), ?_⟩
      rw [putB_here]
      have fr := fr.set (.inl o1) h2 (by simp) (.ob c "Body" (bdF (foD p'.1) k0 b d))
      have h4 := gset (x := .ob c "Body" (bdF (foD p'.1) k0 b d)) h4 na_n.symm
      have h3 := gset (x := .ob c "Body" (bdF (foD p'.1) k0 b d)) h3 nn.symm
      have h2 := gput (x := .ob c "Body" (bdF (foD p'.1) k0 b d)) h2
      generalize S2.set n (.ob c "Body" (bdF (foD p'.1) k0 b d)) = S3 at *
      refine ⟨n, _, h2, (by rw [bdF_len]; decide), ?_⟩
      rw [putB_kept]
      have fr := fr.set (.inl o1) h2 (by simp) (.ob c "Body" (bdF (foD p'.1) p'.2 b d))
      have h4 := gset (x := .ob c "Body" (bdF (foD p'.1) p'.2 b d)) h4 na_n.symm
      have h3 := gset (x := .ob c "Body" (bdF (foD p'.1) p'.2 b d)) h3 nn.symm
      have h2 := gput (x := .ob c "Body" (bdF (foD p'.1) p'.2 b d)) h2
      generalize S3.set n (.ob c "Body" (bdF (foD p'.1) p'.2 b d)) = S4 at *
      rw [e3.1] at h2
      exact h bs' s' rfl _ fr ⟨⟨n, nb, na, p'.2, b, d, ps', qs ++ [(s.1, k0)], o1, o2, o3, o4, h2, h3, h4, e3.2.fr fr, h6'.fr fr, Paired.snoc (h7.fr fr) ⟨rfl, h5.fr fr⟩⟩, fun i hi => Nat.lt_of_lt_of_le (bd.low i hi) fr.1⟩
  · exact h.elim
/-- slots: 0 self -/
def w_Body_again : PX1 :=
  (xSeq (xIf (wTest (wBin pEmA (wFld "Body" "ahead" (wVar 0)) (wLst wNil))) (xRaise (PySem.Str.ofString "NoDeed")) xNext)
  (xSeq (xL (wDrop (wAppA (wFld "Body" "behind" (wVar 0)) (wTupR (wCons (wFld "Body" "here" (wVar 0)) (wCons (wFld "Body" "kept" (wVar 0)) wNil))))))
  (xL (wFld2 "Body" "here" "kept" (wVar 0) (wPopA (wFld "Body" "ahead" (wVar 0)))))))
def sp_Body_again : SpW := fun rs S W XW => match rs with
  | [.ad c] => ∃ (own : List Nat) (s : Bs) (bs as : List Bs), BodyAt own S c s bs as ∧ bs.length ≤ 10000 ∧ (as = [] → XW (PySem.Str.ofString "NoDeed") S) ∧
      ∀ (as' : List Bs) (s' : Bs), as = as' ++ [s'] → ∀ S' : Sto, FrB own S S' → BodyAt own S' c s' (bs ++ [s]) as' → W (.d .non) S'
  | _ => False
theorem rd_Body_again : ∀ rs S W XW, rs.length = 1 → sp_Body_again rs S W XW → w_Body_again { n := { nx := fun _ S1 => W (.d .non) S1, rt := W }, ex := fun x _ S1 => XW x S1 } (start1 1 rs) S := by
  intro rs S W XW _ h
  unfold sp_Body_again at h
  split at h
  · rename_i c _
    obtain ⟨own, s, as, bs, bd, hl, hx, h⟩ := h
    obtain ⟨n, na, nb, k0, d, b, qs, ps, o1, o3, o2, o4', h2, h4, h3, h5, h7, h6⟩ := id bd.ex
    have o4 := o4'.symm
    have ql : qs.length = as.length := h7.length
    have nn : nb ≠ n := fun q => by subst q; rw [h3] at h2; cases h2
    have na_n : na ≠ n := fun q => by subst q; rw [h4] at h2; cases h2
    have fr : FrB own S S := FrB.refl
    unfold w_Body_again
    refine xseqI fun P hP => ?_
    wide_open with (if_true, if_true)
    refine ⟨n, _, _, h2, bdF_ahead, ?_⟩
    wide_open with (if_true, if_true)
    refine ⟨nb, _, h3, ?_⟩
    rcases List.eq_nil_or_concat bs with rfl | ⟨bs', s', rfl⟩
    · cases h6
      wide_open with (if_true, if_true)
      exact hx rfl
    · rw [List.concat_eq_append] at *
      obtain ⟨ps', p', e1, h6', e3⟩ : ∃ (ps' : List (List Int × Addr)) (p' : List Int × Addr), ps = ps' ++ [p'] ∧ RowAt S ps' bs' ∧ (p'.1 = s'.1 ∧ DaAt S p'.2 s'.2) := row_split h6
      subst e1
      have en : (psR (ps' ++ [p'])).isEmpty = false := by simp [psR]
      rw [en]
      wide_open with (if_true, if_true)
      refine hP _ _ ?_; clear hP
      refine xseqI fun P hP => ?_
      wide_open with (if_true, if_true)
      refine ⟨n, _, _, h2, bdF_behind, ?_⟩
      wide_open with (if_true, if_true)
      refine ⟨⟨na, _, h4⟩, n, _, _, h2, bdF_here, n, _, _, h2, bdF_kept, ?_⟩
      wide_open with (if_true, if_true)
      refine ⟨na, _, h4, by rw [List.length_map]; omega, ?_⟩
      refine hP _ _ ?_; clear hP
      have en : psR qs ++ [.tr [.d (foD s.1), .ad k0]] = psR (qs ++ [(s.1, k0)]) := by simp [psR]
      rw [en]
      have fr := fr.set (.inl o3) h4 (by simp) (.la d (psR (qs ++ [(s.1, k0)])))
      have h2 := gset (x := .la d (psR (qs ++ [(s.1, k0)]))) h2 na_n
      have h3 := gset (x := .la d (psR (qs ++ [(s.1, k0)]))) h3 o4.symm
      have h4 := gput (x := .la d (psR (qs ++ [(s.1, k0)]))) h4
      generalize S.set na (.la d (psR (qs ++ [(s.1, k0)]))) = S1 at *
      wide_open with (if_true, if_true)
      refine ⟨n, _, _, h2, bdF_ahead, ?_⟩
      wide_open with (if_true, if_true)
      have el : (psR (ps' ++ [p']))[(psR (ps' ++ [p'])).length - 1]? = some (.tr [.d (foD p'.1), .ad p'.2]) := by simp [psR]
      have ed : (psR (ps' ++ [p'])).dropLast = psR ps' := by simp [psR]
      refine ⟨nb, _, _, h3, el, ?_⟩
      rw [ed]
      have fr := fr.set (.inl o2) h3 (by simp) (.la b (psR ps'))
      have h2 := gset (x := .la b (psR ps')) h2 nn
      have h4 := gset (x := .la b (psR ps')) h4 o4
      have h3 := gput (x := .la b (psR ps')) h3
      generalize S1.set nb (.la b (psR ps')) = S2 at *
      wide_open with (if_true, if_true)
      refine ⟨n, _, h2, (by rw [bdF_len]; decide), ?_⟩
      rw [putB_here]
      have fr := fr.set (.inl o1) h2 (by simp) (.ob c "Body" (bdF (foD p'.1) k0 d b))
      have h4 := gset (x := .ob c "Body" (bdF (foD p'.1) k0 d b)) h4 na_n.symm
      have h3 := gset (x := .ob c "Body" (bdF (foD p'.1) k0 d b)) h3 nn.symm
      have h2 := gput (x := .ob c "Body" (bdF (foD p'.1) k0 d b)) h2
      generalize S2.set n (.ob c "Body" (bdF (foD p'.1) k0 d b)) = S3 at *
      refine ⟨n, _, h2, (by rw [bdF_len]; decide), ?_⟩
      rw [putB_kept]
      have fr := fr.set (.inl o1) h2 (by simp) (.ob c "Body" (bdF (foD p'.1) p'.2 d b))
      have h4 := gset (x := .ob c "Body" (bdF (foD p'.1) p'.2 d b)) h4 na_n.symm
      have h3 := gset (x := .ob c "Body" (bdF (foD p'.1) p'.2 d b)) h3 nn.symm
      have h2 := gput (x := .ob c "Body" (bdF (foD p'.1) p'.2 d b)) h2
      generalize S3.set n (.ob c "Body" (bdF (foD p'.1) p'.2 d b)) = S4 at *
      rw [e3.1] at h2
      exact h bs' s' rfl _ fr ⟨⟨n, na, nb, p'.2, d, b, qs ++ [(s.1, k0)], ps', o1, o3, o2, o4', h2, h4, h3, e3.2.fr fr, Paired.snoc (h7.fr fr) ⟨rfl, h5.fr fr⟩, h6'.fr fr⟩, fun i hi => Nat.lt_of_lt_of_le (bd.low i hi) fr.1⟩
  · exact h.elim
/-- slots: 0 self -/
def w_Chain___init__ : PX1 :=
  (xSeq (xL (wStF "Chain" "rows" (wVar 0) (wLstA wNil)))
  (xSeq (xL (wStF "Chain" "behind" (wVar 0) (wLstA wNil)))
  (xL (wStF "Chain" "ahead" (wVar 0) (wLstA wNil)))))
def sp_Chain___init__ : SpW := fun rs S W _ => match rs with
  | [.ad c] => ∃ S0 : Sto, S = S0 ++ [.ob c "Chain" []] ∧ ∀ S' : Sto, S'.take S0.length = S0 → S'.length = S0.length + 4 → (∀ (q : Nat → Nat) (x : Nat), q S0.length = x → q (S0.length + 1) = 9 → q (S0.length + 2) = x → q (S0.length + 3) = x → ChQ q x S' c [] [] []) → W (.d .non) S'
  | _ => False
theorem rd_Chain___init__ : ∀ rs S W XW, rs.length = 1 → sp_Chain___init__ rs S W XW → w_Chain___init__ { n := { nx := fun _ S1 => W (.d .non) S1, rt := W }, ex := fun x _ S1 => XW x S1 } (start1 1 rs) S := by
  intro rs S W XW _ h
  unfold sp_Chain___init__ at h
  split at h
  · rename_i c _
    obtain ⟨S0, rfl, h⟩ := h
    unfold w_Chain___init__
    refine xseqI fun P hP => ?_
    wide_open with (if_true, if_true)
    refine fun a => ⟨S0.length, [], by simp, by decide, ?_⟩
    rw [putR_1]
    refine hP _ _ ?_; clear hP
    refine xseqI fun P hP => ?_
    wide_open with (if_true, if_true)
    refine fun b => ⟨S0.length, [(("rows" : Str), R.ad a)], by simp, by simp, ?_⟩
    rw [putR_2]
    refine hP _ _ ?_; clear hP
    wide_open with (if_true, if_true)
    refine fun d => ⟨S0.length, [(("rows" : Str), R.ad a), (("behind" : Str), R.ad b)], by simp, by simp, ?_⟩
    rw [putR_3]
    have es : ∀ x y z w v : O, (S0 ++ [x, y, z, w]).set S0.length v = S0 ++ [v, y, z, w] := fun x y z w v => by simp
    rw [es]
    exact h _ (by simp) (by simp) fun q x q0 q1 q2 q3 => ⟨⟨S0.length, S0.length + 2, S0.length + 3, a, b, d, [], [], q0, q2, q3, by omega, by simp, by simp, by simp, ⟨S0.length + 1, q1, by simp⟩, .nil, .nil⟩⟩
  · exact h.elim
/-- slots: 0 self, 1 rows -/
def w_Chain_come_to : PX1 :=
  (xSeq (xL (wDrop (wAppA (wFld "Chain" "behind" (wVar 0)) (wFld "Chain" "rows" (wVar 0)))))
  (xSeq (xL (wStF "Chain" "ahead" (wVar 0) (wLstA wNil)))
  (xL (wStF "Chain" "rows" (wVar 0) (wVar 1)))))
def sp_Chain_come_to : SpW := fun rs S W _ => match rs with
  | [.ad c, .ad r] => ∃ (q : Nat → Nat) (x : Nat) (js js' : Js) (bs as : List Js), x ≠ 9 ∧ ChQ q x S c js bs as ∧ LaQ q S r js' ∧ bs.length ≤ 10000 ∧ ∀ (q' : Nat → Nat) (S' : Sto), ExQ S q q' → FrQ q x S S' → ChQ q' x S' c js' (bs ++ [js]) [] → W (.d .non) S'
  | _ => False
theorem rd_Chain_come_to : ∀ rs S W XW, rs.length = 2 → sp_Chain_come_to rs S W XW → w_Chain_come_to { n := { nx := fun _ S1 => W (.d .non) S1, rt := W }, ex := fun x _ S1 => XW x S1 } (start1 2 rs) S := by
  intro rs S W XW _ h
  unfold sp_Chain_come_to at h
  split at h
  · rename_i c r _
    obtain ⟨q, x, js, js', bs, as, x9, ch, hk, hl, h⟩ := h
    obtain ⟨n, nb, na, a, b, d, ps, qs, o1, o2, o3, o4, h2, h3, h4, h5, h6, h7⟩ := ch.ex
    have pl : ps.length = bs.length := h6.length
    have nn : nb ≠ n := fun q => by subst q; rw [h3] at h2; cases h2
    have nS := get_len h2
    have nbS := get_len h3
    have fr : FrQ q x S S := FrQ.refl
    unfold w_Chain_come_to
    refine xseqI fun P hP => ?_
    wide_open with (if_true, if_true)
    refine ⟨n, _, _, h2, chF_behind, ?_⟩
    wide_open with (if_true, if_true)
    refine ⟨⟨nb, _, h3⟩, n, _, _, h2, chF_rows, ?_⟩
    wide_open with (if_true, if_true)
    refine ⟨nb, _, h3, by rw [List.length_map]; omega, ?_⟩
    refine hP _ _ ?_; clear hP
    have en : ps.map R.ad ++ [R.ad a] = (ps ++ [a]).map R.ad := by simp
    rw [en]
    have fr := fr.set (.inl o2) (.la b ((ps ++ [a]).map R.ad))
    have h2 := gset (x := .la b ((ps ++ [a]).map R.ad)) h2 nn
    have h3 := gput (x := .la b ((ps ++ [a]).map R.ad)) h3
    generalize S.set nb (.la b ((ps ++ [a]).map R.ad)) = S1 at *
    refine xseqI fun P hP => ?_
    wide_open with (if_true, if_true)
    refine fun d2 => ⟨n, _, gapp h2, (by rw [chF_len]; decide), ?_⟩
    rw [putR_ahead]
    refine hP _ _ ?_; clear hP
    have l1 := fr.1
    have n1 : n < S1.length := get_len h2
    have nb1 : nb < S1.length := get_len h3
    have h4 : (S1 ++ [O.la d2 []])[S1.length]? = some (.la d2 (([] : List Addr).map R.ad)) := List.getElem?_concat_length
    have fr := (fr.app [O.la d2 []]).set (.inl o1) (.ob c "Chain" (chF a b d2))
    have h4 := gset (x := .ob c "Chain" (chF a b d2)) h4 (show n ≠ S1.length by omega)
    have h3 := gset (x := .ob c "Chain" (chF a b d2)) (gapp (Y := [O.la d2 []]) h3) nn.symm
    have h2 := gput (x := .ob c "Chain" (chF a b d2)) (gapp (Y := [O.la d2 []]) h2)
    generalize (S1 ++ [O.la d2 []]).set n (.ob c "Chain" (chF a b d2)) = S2 at *
    wide_open with (if_true, if_true)
    refine ⟨n, _, h2, (by rw [chF_len]; decide), ?_⟩
    rw [putR_rows]
    have fr := fr.set (.inl o1) (.ob c "Chain" (chF r b d2))
    have h4 := gset (x := .ob c "Chain" (chF r b d2)) h4 (show n ≠ S1.length by omega)
    have h3 := gset (x := .ob c "Chain" (chF r b d2)) h3 nn.symm
    have h2 := gput (x := .ob c "Chain" (chF r b d2)) h2
    have ex := ex_colN S x q
    have fr2 : FrQ (colN S.length x q) x S _ := fr.ext ex
    exact h (colN S.length x q) _ ex fr ⟨⟨n, nb, S1.length, r, b, d2, ps ++ [a], [], (colN_lt nS).trans o1, (colN_lt nbS).trans o2, colN_ge l1, by omega, h2, h3, h4, (hk.ext ex).fr fr2 x9, Paired.snoc (LasQ.fr (LasQ.ext h6 ex) fr2 x9) ((h5.ext ex).fr fr2 x9), .nil⟩⟩
  · exact h.elim
/-- slots: 0 self, 1 joint -/
def w_Chain_look_at : PX1 :=
  (xIf (wOrT (wTest (wBin pLt (wVar 1) (wC (.int 0)))) (wTest (wBin pGe (wVar 1) (wFn fLenA (wCons (wFld "Chain" "rows" (wVar 0)) wNil))))) (xRaise (PySem.Str.ofString "NoJoint")) xNext)
def sp_Chain_look_at : SpW := fun rs S W XW => match rs with
  | [.ad c, .d (.int j)] => ∃ (q : Nat → Nat) (x : Nat) (js : Js) (bs as : List Js), ChQ q x S c js bs as ∧ (0 ≤ j ∧ j < js.length → W (.d .non) S) ∧ (¬ (0 ≤ j ∧ j < js.length) → XW (PySem.Str.ofString "NoJoint") S)
  | _ => False
theorem rd_Chain_look_at : ∀ rs S W XW, rs.length = 2 → sp_Chain_look_at rs S W XW → w_Chain_look_at { n := { nx := fun _ S1 => W (.d .non) S1, rt := W }, ex := fun x _ S1 => XW x S1 } (start1 2 rs) S := by
  intro rs S W XW _ h
  unfold sp_Chain_look_at at h
  split at h
  · rename_i c j _
    obtain ⟨q, x, js, bs, as, ch, h, hx⟩ := h
    obtain ⟨n, nb, na, a, b, d, ps, qs, o1, o2, o3, o4, h2, h3, h4, ⟨nr, nq, h5⟩, h6, h7⟩ := id ch.ex
    unfold w_Chain_look_at
    by_cases j0 : j < 0
    · wide_open with (decide_eq_true j0, if_true)
      exact hx (by omega)
    · wide_open with (decide_eq_false j0, if_true)
      refine ⟨n, _, _, h2, chF_rows, ?_⟩
      wide_open with (if_true, if_true)
      refine ⟨nr, _, h5, ?_⟩
      wide_open with (List.length_map, if_true)
      by_cases j1 : (js.length : Int) ≤ j
      · rw [decide_eq_true j1, if_pos rfl]
        exact hx (by omega)
      · rw [decide_eq_false j1, if_neg (by simp)]
        exact h (by omega)
  · exact h.elim
/-- slots: 0 self -/
def w_Chain_joints : PX1 :=
  (xL (wRet (wFn fListA (wCons (wFld "Chain" "rows" (wVar 0)) wNil))))
def sp_Chain_joints : SpW := fun rs S W _ => match rs with
  | [.ad c] => ∃ (q : Nat → Nat) (v : Nat) (js : Js) (bs as : List Js), ChQ q v S c js bs as ∧ W (.loc S.length) (S ++ [.lst (jsD js)])
  | _ => False
theorem rd_Chain_joints : ∀ rs S W XW, rs.length = 1 → sp_Chain_joints rs S W XW → w_Chain_joints { n := { nx := fun _ S1 => W (.d .non) S1, rt := W }, ex := fun x _ S1 => XW x S1 } (start1 1 rs) S := by
  intro rs S W XW _ h
  unfold sp_Chain_joints at h
  split at h
  · rename_i c _
    obtain ⟨q, v, js, bs, as, ch, h⟩ := h
    obtain ⟨n, nb, na, a, b, d, ps, qs, o1, o2, o3, o4, h2, h3, h4, ⟨nr, nq, h5⟩, h6, h7⟩ := id ch.ex
    unfold w_Chain_joints
    wide_open with (if_true, if_true)
    refine ⟨n, _, _, h2, chF_rows, ?_⟩
    wide_open with (if_true, if_true)
    refine ⟨nr, jsD js, h5, ?_⟩
    wide_open with (if_true, if_true)
    exact h
  · exact h.elim
/-- slots: 0 self -/
def w_Chain_back : PX1 :=
  (xSeq (xIf (wTest (wBin pEmA (wFld "Chain" "behind" (wVar 0)) (wLst wNil))) (xRaise (PySem.Str.ofString "NoDeed")) xNext)
  (xSeq (xL (wDrop (wAppA (wFld "Chain" "ahead" (wVar 0)) (wFld "Chain" "rows" (wVar 0)))))
  (xL (wStF "Chain" "rows" (wVar 0) (wPopA (wFld "Chain" "behind" (wVar 0)))))))
def sp_Chain_back : SpW := fun rs S W XW => match rs with
  | [.ad c] => ∃ (q : Nat → Nat) (v : Nat) (js : Js) (bs as : List Js), v ≠ 9 ∧ ChQ q v S c js bs as ∧ as.length ≤ 10000 ∧ (bs = [] → XW (PySem.Str.ofString "NoDeed") S) ∧
      ∀ (bs' : List Js) (js' : Js), bs = bs' ++ [js'] → ∀ S' : Sto, FrQ q v S S' → ChQ q v S' c js' bs' (as ++ [js]) → W (.d .non) S'
  | _ => False
theorem rd_Chain_back : ∀ rs S W XW, rs.length = 1 → sp_Chain_back rs S W XW → w_Chain_back { n := { nx := fun _ S1 => W (.d .non) S1, rt := W }, ex := fun x _ S1 => XW x S1 } (start1 1 rs) S := by
  intro rs S W XW _ h
  unfold sp_Chain_back at h
  split at h
  · rename_i c _
    obtain ⟨q, v, s, bs, as, v9, ch, hl, hx, h⟩ := h
    obtain ⟨n, nb, na, a, b, d, ps, qs, o1, o2, o3, o4, h2, h3, h4, h5, h6, h7⟩ := id ch.ex
    have ql : qs.length = as.length := h7.length
    have nn : nb ≠ n := fun z => by subst z; rw [h3] at h2; cases h2
    have na_n : na ≠ n := fun z => by subst z; rw [h4] at h2; cases h2
    have fr : FrQ q v S S := FrQ.refl
    unfold w_Chain_back
    refine xseqI fun P hP => ?_
    wide_open with (if_true, if_true)
    refine ⟨n, _, _, h2, chF_behind, ?_⟩
    wide_open with (if_true, if_true)
    refine ⟨nb, _, h3, ?_⟩
    rcases List.eq_nil_or_concat bs with rfl | ⟨bs', s', rfl⟩
    · cases h6
      wide_open with (if_true, if_true)
      exact hx rfl
    · rw [List.concat_eq_append] at *
      obtain ⟨ps', p', e1, h6', e3⟩ := lasq_split h6
      subst e1
      have en : ((ps' ++ [p']).map R.ad).isEmpty = false := by simp
      rw [en]
      wide_open with (if_true, if_true)
      refine hP _ _ ?_; clear hP
      refine xseqI fun P hP => ?_
      wide_open with (if_true, if_true)
      refine ⟨n, _, _, h2, chF_ahead, ?_⟩
      wide_open with (if_true, if_true)
      refine ⟨⟨na, _, h4⟩, n, _, _, h2, chF_rows, ?_⟩
      wide_open with (if_true, if_true)
      refine ⟨na, _, h4, by rw [List.length_map]; omega, ?_⟩
      refine hP _ _ ?_; clear hP
      have en : qs.map R.ad ++ [R.ad a] = (qs ++ [a]).map R.ad := by simp
      rw [en]
      have fr := fr.set (.inl o3) (.la d ((qs ++ [a]).map R.ad))
      have h2 := gset (x := .la d ((qs ++ [a]).map R.ad)) h2 na_n
      have h3 := gset (x := .la d ((qs ++ [a]).map R.ad)) h3 o4.symm
      have h4 := gput (x := .la d ((qs ++ [a]).map R.ad)) h4
      generalize S.set na (.la d ((qs ++ [a]).map R.ad)) = S1 at *
      wide_open with (if_true, if_true)
      refine ⟨n, _, _, h2, chF_behind, ?_⟩
      wide_open with (if_true, if_true)
      have el : ((ps' ++ [p']).map R.ad)[((ps' ++ [p']).map R.ad).length - 1]? = some (.ad p') := by simp
      have ed : ((ps' ++ [p']).map R.ad).dropLast = ps'.map R.ad := by simp
      refine ⟨nb, _, _, h3, el, ?_⟩
      rw [ed]
      have fr := fr.set (.inl o2) (.la b (ps'.map R.ad))
      have h2 := gset (x := .la b (ps'.map R.ad)) h2 nn
      have h4 := gset (x := .la b (ps'.map R.ad)) h4 o4
      have h3 := gput (x := .la b (ps'.map R.ad)) h3
      generalize S1.set nb (.la b (ps'.map R.ad)) = S2 at *
      wide_open with (if_true, if_true)
      refine ⟨n, _, h2, (by rw [chF_len]; decide), ?_⟩
      rw [putR_rows]
      have fr := fr.set (.inl o1) (.ob c "Chain" (chF p' b d))
      have h4 := gset (x := .ob c "Chain" (chF p' b d)) h4 na_n.symm
      have h3 := gset (x := .ob c "Chain" (chF p' b d)) h3 nn.symm
      have h2 := gput (x := .ob c "Chain" (chF p' b d)) h2
      exact h bs' s' rfl _ fr ⟨⟨n, nb, na, p', b, d, ps', qs ++ [a], o1, o2, o3, o4, h2, h3, h4, e3.fr fr v9, LasQ.fr h6' fr v9, Paired.snoc (LasQ.fr h7 fr v9) (h5.fr fr v9)⟩⟩
  · exact h.elim
/-- slots: 0 self -/
def w_Chain_again : PX1 :=
  (xSeq (xIf (wTest (wBin pEmA (wFld "Chain" "ahead" (wVar 0)) (wLst wNil))) (xRaise (PySem.Str.ofString "NoDeed")) xNext)
  (xSeq (xL (wDrop (wAppA (wFld "Chain" "behind" (wVar 0)) (wFld "Chain" "rows" (wVar 0)))))
  (xL (wStF "Chain" "rows" (wVar 0) (wPopA (wFld "Chain" "ahead" (wVar 0)))))))
def sp_Chain_again : SpW := fun rs S W XW => match rs with
  | [.ad c] => ∃ (q : Nat → Nat) (v : Nat) (js : Js) (bs as : List Js), v ≠ 9 ∧ ChQ q v S c js bs as ∧ bs.length ≤ 10000 ∧ (as = [] → XW (PySem.Str.ofString "NoDeed") S) ∧
      ∀ (as' : List Js) (js' : Js), as = as' ++ [js'] → ∀ S' : Sto, FrQ q v S S' → ChQ q v S' c js' (bs ++ [js]) as' → W (.d .non) S'
  | _ => False
theorem rd_Chain_again : ∀ rs S W XW, rs.length = 1 → sp_Chain_again rs S W XW → w_Chain_again { n := { nx := fun _ S1 => W (.d .non) S1, rt := W }, ex := fun x _ S1 => XW x S1 } (start1 1 rs) S := by
  intro rs S W XW _ h
  unfold sp_Chain_again at h
  split at h
  · rename_i c _
    obtain ⟨q, v, s, as, bs, v9, ch, hl, hx, h⟩ := h
    obtain ⟨n, na, nb, a, d, b, qs, ps, o1, o3, o2, o4', h2, h4, h3, h5, h7, h6⟩ := id ch.ex
    have o4 := o4'.symm
    have ql : qs.length = as.length := h7.length
    have nn : nb ≠ n := fun z => by subst z; rw [h3] at h2; cases h2
    have na_n : na ≠ n := fun z => by subst z; rw [h4] at h2; cases h2
    have fr : FrQ q v S S := FrQ.refl
    unfold w_Chain_again
    refine xseqI fun P hP => ?_
    wide_open with (if_true, if_true)
    refine ⟨n, _, _, h2, chF_ahead, ?_⟩
    wide_open with (if_true, if_true)
    refine ⟨nb, _, h3, ?_⟩
    rcases List.eq_nil_or_concat bs with rfl | ⟨bs', s', rfl⟩
    · cases h6
      wide_open with (if_true, if_true)
      exact hx rfl
    · rw [List.concat_eq_append] at *
      obtain ⟨ps', p', e1, h6', e3⟩ := lasq_split h6
      subst e1
      have en : ((ps' ++ [p']).map R.ad).isEmpty = false := by simp
      rw [en]
      wide_open with (if_true, if_true)
      refine hP _ _ ?_; clear hP
      refine xseqI fun P hP => ?_
      wide_open with (if_true, if_true)
      refine ⟨n, _, _, h2, chF_behind, ?_⟩
      wide_open with (if_true, if_true)
      refine ⟨⟨na, _, h4⟩, n, _, _, h2, chF_rows, ?_⟩
      wide_open with (if_true, if_true)
      refine ⟨na, _, h4, by rw [List.length_map]; omega, ?_⟩
      refine hP _ _ ?_; clear hP
      have en : qs.map R.ad ++ [R.ad a] = (qs ++ [a]).map R.ad := by simp
      rw [en]
      have fr := fr.set (.inl o3) (.la d ((qs ++ [a]).map R.ad))
      have h2 := gset (x := .la d ((qs ++ [a]).map R.ad)) h2 na_n
      have h3 := gset (x := .la d ((qs ++ [a]).map R.ad)) h3 o4.symm
      have h4 := gput (x := .la d ((qs ++ [a]).map R.ad)) h4
      generalize S.set na (.la d ((qs ++ [a]).map R.ad)) = S1 at *
      wide_open with (if_true, if_true)
      refine ⟨n, _, _, h2, chF_ahead, ?_⟩
      wide_open with (if_true, if_true)
      have el : ((ps' ++ [p']).map R.ad)[((ps' ++ [p']).map R.ad).length - 1]? = some (.ad p') := by simp
      have ed : ((ps' ++ [p']).map R.ad).dropLast = ps'.map R.ad := by simp
      refine ⟨nb, _, _, h3, el, ?_⟩
      rw [ed]
      have fr := fr.set (.inl o2) (.la b (ps'.map R.ad))
      have h2 := gset (x := .la b (ps'.map R.ad)) h2 nn
      have h4 := gset (x := .la b (ps'.map R.ad)) h4 o4
      have h3 := gput (x := .la b (ps'.map R.ad)) h3
      generalize S1.set nb (.la b (ps'.map R.ad)) = S2 at *
      wide_open with (if_true, if_true)
      refine ⟨n, _, h2, (by rw [chF_len]; decide), ?_⟩
      rw [putR_rows]
      have fr := fr.set (.inl o1) (.ob c "Chain" (chF p' d b))
      have h4 := gset (x := .ob c "Chain" (chF p' d b)) h4 na_n.symm
      have h3 := gset (x := .ob c "Chain" (chF p' d b)) h3 nn.symm
      have h2 := gput (x := .ob c "Chain" (chF p' d b)) h2
      exact h bs' s' rfl _ fr ⟨⟨n, na, nb, p', d, b, qs ++ [a], ps', o1, o3, o2, o4', h2, h4, h3, e3.fr fr v9, Paired.snoc (LasQ.fr h7 fr v9) (h5.fr fr v9), LasQ.fr h6' fr v9⟩⟩
  · exact h.elim
/-- slots: 0 numbers, 1 found, 2 number -/
def w_divisor_of : PS1 :=
  (wSeq (wSet 1 (wC (.int 0)))
  (wSeq (wFor (wIt (wVar 0)) (fNm 2) (wSet 1 (wCall sp_divisor 2 (wCons (wVar 1) (wCons (wVar 2) wNil)))))
  (wRet (wVar 1))))
def sp_divisor_of : SpZ := fun rs S W => match rs with
  | [.d (.tup xs)] => ∃ ns : List Int, xs = ns.map D.int ∧ W (.d (.int (gl ns))) S
  | _ => False
theorem rd_divisor_of : ∀ rs S W, rs.length = 1 → sp_divisor_of rs S W → w_divisor_of { nx := fun _ S1 => retN S.length W (.d .non) S1, rt := retN S.length W } (start1 3 rs) S := by
  intro rs S W _ h
  unfold sp_divisor_of at h
  split at h
  · obtain ⟨ns, rfl, h⟩ := h
    wide_open with (w_divisor_of, if_true)
    refine forL_ix (fun i r S1 => S1 = S ∧ ∃ z, r = [some (.d (.tup (ns.map D.int))), some (.d (.int ((ns.take i).foldl (fun g x => Nat.gcd g x.natAbs) 0 : Nat))), z]) ?_ ?_ ⟨rfl, _, rfl⟩
    · rintro i x hx r S1 ⟨rfl, z, rfl⟩ M hM
      rw [List.getElem?_map, List.getElem?_map, Option.map_eq_some_iff] at hx
      obtain ⟨d, hd, rfl⟩ := hx
      rw [Option.map_eq_some_iff] at hd
      obtain ⟨n, hn, rfl⟩ := hd
      wide_open with (sp_divisor, spGcd)
      refine ⟨_, _, Cut.refl, hM _ _ ⟨rfl, some (.d (.int n)), ?_⟩⟩
      rw [List.take_add_one, hn]
      simp only [Option.toList_some, List.foldl_append, List.foldl_cons, List.foldl_nil]
      rfl
    · rintro r S1 ⟨rfl, z, rfl⟩
      wide_open with (if_true, if_true)
      have e : (ns.take ((ns.map D.int).map R.d).length).foldl (fun g x => Nat.gcd g x.natAbs) 0 = gl ns := by
        rw [List.length_map, List.length_map, List.take_length, gl_fold, Nat.gcd_zero_left]
      rw [e]
      exact h
  · exact h.elim
/-- slots: 0 top, 1 bottom, 2 by -/
def w_made : PS1 :=
  (wSeq (wSet 2 (wCall sp_divisor 2 (wCons (wVar 0) (wCons (wVar 1) wNil))))
  (wSeq (wIf (wTest (wBin pLt (wVar 1) (wC (.int 0)))) (wSet 2 (wUn pNeg (wVar 2))) wNext)
  (wRet (wTup (wCons (wBin pDiv (wVar 0) (wVar 2)) (wCons (wBin pDiv (wVar 1) (wVar 2)) wNil))))))
def sp_made : SpZ := spMade
theorem rd_made : ∀ rs S W, rs.length = 2 → sp_made rs S W → w_made { nx := fun _ S1 => retN S.length W (.d .non) S1, rt := retN S.length W } (start1 3 rs) S := by
  intro rs S W _ h
  unfold sp_made spMade at h
  split at h
  · rename_i t b _
    obtain ⟨hb, h1, h⟩ := h
    wide_open with (w_made, sp_divisor, spGcd)
    by_cases hn : b < 0
    · rw [frD_neg hn] at h
      wide_open with (decide_eq_true hn, if_true)
      exact ⟨(gcd_cdv hb h1 t).2, (gcd_cdv hb h1 b).2, h⟩
    · rw [frD_pos (by omega)] at h
      wide_open with (decide_eq_false hn, if_true)
      exact ⟨(gcd_cdv hb h1 t).1, (gcd_cdv hb h1 b).1, h⟩
  · exact h.elim
/-- slots: 0 _law_script, 1 _law_cells, 2 _law_number_here, 3 _law_k -/
def w_l_purse : PS1 :=
  (wSeq (wSet 1 (wBin pCat (wSl (wVar 0) wNo (wSome (wC (.int 63)))) (wLst (wCons (wC (.int 0)) wNil))))
  (wSeq (wSet 2 (wC (.int 1)))
  (wSeq (wFor (wRng1 (wCons (wC (.int 150)) wNil)) (fNm 3) (wSet 2 (wBin pAddI (wBin pMulI (wVar 2) (wC (.int 2147483587))) (wCall sp_l_mixed 2 (wCons (wBin pIx (wVar 1) (wBin pMod (wVar 3) (wFn fLen (wCons (wVar 1) wNil)))) (wCons (wVar 3) wNil))))))
  (wSeq (wIf (wTest (wBin pGe (wBin pIx (wVar 1) (wC (.int 0))) (wBin pPow (wC (.int 10)) (wC (.int 18))))) (wRet (wLst (wCons (wBin pDiv (wBin pIx (wVar 1) (wC (.int 0))) (wBin pPow (wC (.int 10)) (wC (.int 18)))) (wCons (wVar 2) wNil)))) wNext)
  (wRet (wLst (wCons (wVar 2) (wCons (wVar 2) wNil))))))))
def sp_l_purse : SpZ := fun rs S W => match rs, S with
  | [.ro xs], [] => ∃ ns : List Int, xs = ns.map D.int ∧ Script ns ∧ ∀ a b : Int, W (.loc 0) [.lst [.int a, .int b]]
  | _, _ => False
theorem rd_l_purse : ∀ rs S W, rs.length = 1 → sp_l_purse rs S W → w_l_purse { nx := fun _ S1 => retN S.length W (.d .non) S1, rt := retN S.length W } (start1 4 rs) S := by
  intro rs S W _ h
  unfold sp_l_purse at h
  split at h
  · obtain ⟨ns, rfl, hs, h⟩ := h
    wide_open with (w_l_purse, if_true)
    have e1 : cutD (ns.map D.int) none (some 63) = (ns.take 63).map D.int := by
      rw [show (63 : Int) = ((63 : Nat) : Int) from rfl, cutD_take, List.map_take]
    have e2 : cutD (ns.map D.int) none (some 63) ++ [D.int 0] = (ns.take 63 ++ [0]).map D.int := by rw [e1]; simp
    have hb : ∀ c ∈ ns.take 63 ++ [0], Bd SB c := fun c hc => by
      rcases List.mem_append.mp hc with q | q
      · exact Bd.lit (hs.2 c (List.mem_of_mem_take q))
      · simp at q; subst q; exact Bd.zero
    have hl : (ns.take 63 ++ [0]).length ≤ 64 := by simp; omega
    have hl0 : 0 < (ns.take 63 ++ [0]).length := by simp
    rw [e2]
    refine ⟨by rw [e1]; simp; omega, ?_⟩
    generalize ns.take 63 ++ [0] = cs at *
    refine forL_ix (fun i r S1 => S1 = [.lst (cs.map D.int)] ∧ ∃ v z, r = [some (.ro (ns.map D.int)), some (.loc 0), some (.d (.int v)), z]) ?_ ?_ ⟨rfl, _, _, rfl⟩
    · rintro i x hx r S1 ⟨rfl, v, z, rfl⟩ M hM
      obtain ⟨hi, rfl⟩ := rgR_get hx
      wide_open with (sp_l_mixed, if_true)
      have hm1 : 0 ≤ ((0 : Int) + (i : Nat)).fmod ((cs.map D.int).length : Nat) := by rw [fmod_pos (by simp; omega)]; exact Int.emod_nonneg _ (by simp only [List.length_map]; omega)
      have hm2 : ((0 : Int) + (i : Nat)).fmod ((cs.map D.int).length : Nat) < cs.length := by rw [fmod_pos (by simp; omega)]; simpa using Int.emod_lt_of_pos ((0 : Int) + (i : Nat)) (show (0 : Int) < ((cs.map D.int).length : Nat) by simp; omega)
      obtain ⟨c, hc, hm⟩ := getI_ints hm1 hm2
      rw [hc]
      wide_open with (if_true, if_true)
      refine ⟨mulOk_r (by decide), by simp only [List.length_map]; omega, hb c hm, by omega, fun y => ⟨_, _, Cut.refl, hM _ _ ⟨rfl, _, _, rfl⟩⟩⟩
    · rintro r S1 ⟨rfl, v, z, rfl⟩
      obtain ⟨c, cs', rfl⟩ := List.exists_cons_of_length_pos hl0
      wide_open with (if_true, if_true)
      refine ⟨⟨by decide, by decide, .inl (by decide)⟩, ?_⟩
      split
      · exact ⟨⟨by decide, by decide, .inl (by decide)⟩, cdv_small (by decide) (by decide), h _ _⟩
      · exact h _ _
  · exact h.elim
/-- slots: 0 _law_purse_here -/
def w_l_number : PS1 :=
  (wSeq (wIf (wTest (wBin pEq (wCall sp_l_draw 2 (wCons (wVar 0) (wCons (wC (.int 16)) wNil))) (wC (.int 1)))) (wRet (wBin pAddI (wBin pSub (wCall sp_l_draw 2 (wCons (wVar 0) (wCons (wBin pSub (wBin pMulI (wC (.int 2)) (wBin pPow (wC (.int 10)) (wC (.int 24)))) (wC (.int 1))) wNil))) (wBin pPow (wC (.int 10)) (wC (.int 24)))) (wC (.int 1)))) wNext)
  (wRet (wBin pIx (wLst (wCons (wC (.int 0)) (wCons (wC (.int 0)) (wCons (wC (.int 1)) (wCons (wUn pNeg (wC (.int 1))) (wCons (wC (.int 2)) (wCons (wUn pNeg (wC (.int 2))) (wCons (wBin pSub (wCall sp_l_draw 2 (wCons (wVar 0) (wCons (wC (.int 19)) wNil))) (wC (.int 9))) (wCons (wBin pSub (wCall sp_l_draw 2 (wCons (wVar 0) (wCons (wC (.int 199)) wNil))) (wC (.int 99))) wNil))))))))) (wCall sp_l_draw 2 (wCons (wVar 0) (wCons (wC (.int 8)) wNil))))))
def sp_l_number : SpZ := fun rs S W => match rs, S with
  | [.loc 0], [.lst [.int _, .int _]] => ∀ v a b : Int, Bd 80 v → W (.d (.int v)) [.lst [.int a, .int b]]
  | _, _ => False
theorem rd_l_number : ∀ rs S W, rs.length = 1 → sp_l_number rs S W → w_l_number { nx := fun _ S1 => retN S.length W (.d .non) S1, rt := retN S.length W } (start1 1 rs) S := by
  intro rs S W _ h
  unfold sp_l_number at h
  split at h
  · rename_i a b _
    unfold w_l_number
    refine seqI fun P hP => ?_
    wide_open with (sp_l_draw, if_true)
    intro v a b v0 v1
    cases (v == 1) with
    | true =>
      wide_open with (sp_l_draw, if_true)
      exact ⟨⟨by decide, by decide, .inl (by decide)⟩, mulOk_l (by decide), fun u a b u0 u1 => ⟨⟨by decide, by decide, .inl (by decide)⟩, h _ _ _ (Bd.of_le (b := 1000000000000000000000000) (by omega) (by omega) (by decide))⟩⟩
    | false =>
      wide_open with (if_true, if_true)
      refine hP _ _ ?_; clear hP
      wide_open with (sp_l_draw, if_true)
      intro x x0 x1 y y0 y1 u a b u0 u1
      obtain ⟨z, hz, hm⟩ := getI_ints (ns := [0, 0, 1, -1, 2, -2, x - 9, y - 99]) u0 (by simpa using u1)
      have hz' : getI [D.int 0, D.int 0, D.int 1, D.int (-1), D.int 2, D.int (-2), D.int (x - 9), D.int (y - 99)] u = some (.int z) := hz
      wide_open with (hz', if_true)
      refine h _ _ _ (Bd.of_le (b := 200) ?_ ?_ (by decide))
      all_goals
        simp only [List.mem_cons, List.not_mem_nil, or_false] at hm
        omega
  · exact h.elim
/-- slots: 0 _law_top, 1 _law_bottom, 2 _law_by -/
def w_l_lowest : PS1 :=
  (wSeq (wSet 2 (wCall sp_l_divisor 2 (wCons (wVar 0) (wCons (wVar 1) wNil))))
  (wRet (wTup (wCons (wBin pDiv (wVar 0) (wVar 2)) (wCons (wBin pDiv (wVar 1) (wVar 2)) wNil)))))
def sp_l_lowest : SpZ := fun rs S W => match rs with
  | [.d (.int t), .d (.int b)] => 0 < b ∧ Bd 9000 b ∧ W (.d (frD ((t : Rat) / (b : Rat)))) S
  | _ => False
theorem rd_l_lowest : ∀ rs S W, rs.length = 2 → sp_l_lowest rs S W → w_l_lowest { nx := fun _ S1 => retN S.length W (.d .non) S1, rt := retN S.length W } (start1 3 rs) S := by
  intro rs S W _ h
  unfold sp_l_lowest at h
  split at h
  · rename_i t b _
    obtain ⟨hb, h1, h⟩ := h
    rw [frD_pos hb] at h
    unfold w_l_lowest
    refine seqI fun P hP => ?_
    wide_open with (sp_l_divisor, spGcd)
    refine hP _ _ ?_; clear hP
    wide_open with (if_true, if_true)
    exact ⟨(gcd_cdv (by omega) h1 t).1, (gcd_cdv (by omega) h1 b).1, h⟩
  · exact h.elim
/-- slots: 0 _law_purse_here, 1 _law_letters, 2 _law_base, 3 _law_stem, 4 _law_names_here, 5 _law_k -/
def w_l_names : PS1 :=
  (wSeq (wSet 1 (wC (.str (PySem.Str.ofString "abcdefghijklmnopqrstuvwxyz"))))
  (wSeq (wSet 2 (wCall sp_l_draw 2 (wCons (wVar 0) (wCons (wC (.int 26)) wNil))))
  (wSeq (wSet 3 (wBin pSMul (wBin pSIx (wVar 1) (wCall sp_l_draw 2 (wCons (wVar 0) (wCons (wC (.int 26)) wNil)))) (wCall sp_l_draw 2 (wCons (wVar 0) (wCons (wC (.int 7)) wNil)))))
  (wSeq (wSet 4 (wLst wNil))
  (wSeq (wFor (wRng1 (wCons (wC (.int 4)) wNil)) (fNm 5) (wDrop (wApp (wVar 4) (wBin pSCat (wVar 3) (wBin pSIx (wVar 1) (wBin pMod (wBin pAddI (wVar 2) (wBin pMulI (wC (.int 7)) (wVar 5))) (wC (.int 26))))))))
  (wSeq (wIf (wTest (wBin pEq (wCall sp_l_draw 2 (wCons (wVar 0) (wCons (wC (.int 4)) wNil))) (wC (.int 0)))) (wSet 4 (wLst (wCons (wBin pSCat (wVar 3) (wC (.str (PySem.Str.ofString "a")))) (wCons (wBin pSCat (wVar 3) (wC (.str (PySem.Str.ofString "ab")))) (wCons (wBin pSCat (wVar 3) (wC (.str (PySem.Str.ofString "b")))) (wCons (wC (.str (PySem.Str.ofString "zz"))) wNil)))))) wNext)
  (wRet (wVar 4))))))))
def sp_l_names : SpZ := fun rs S W => match rs, S with
  | [.loc 0], [.lst [.int _, .int _]] => ∀ (l1 l2 l3 l4 : List Nat) (a b : Int), nameL l1 = true → nameL l2 = true → nameL l3 = true → nameL l4 = true → [l1, l2, l3, l4].Nodup → W (.loc 1) [.lst [.int a, .int b], .lst [.str (Tx l1), .str (Tx l2), .str (Tx l3), .str (Tx l4)]]
  | _, _ => False
theorem rd_l_names : ∀ rs S W, rs.length = 1 → sp_l_names rs S W → w_l_names { nx := fun _ S1 => retN S.length W (.d .non) S1, rt := retN S.length W } (start1 6 rs) S := by
  intro rs S W _ h
  unfold sp_l_names at h
  split at h
  · unfold w_l_names
    refine seqI fun P hP => ?_
    wide_open with (if_true, if_true)
    refine hP _ _ ?_; clear hP
    refine seqI fun P hP => ?_
    wide_open with (sp_l_draw, if_true)
    intro u a b u0 u1
    refine hP _ _ ?_; clear hP
    refine seqI fun P hP => ?_
    wide_open with (sp_l_draw, if_true)
    intro v v0 v1
    obtain ⟨i, rfl, i1⟩ : ∃ i : Nat, v = (i : Int) ∧ i < 26 := ⟨v.toNat, by omega, by omega⟩
    have g1 := abc_at i1
    wide_open with (abc_len, g1)
    refine ⟨⟨by omega, by omega, by omega⟩, fun w a b w0 w1 => ?_⟩
    have e1 : (⟨#[97 + i]⟩ : Str) = Tx [97 + i] := rfl
    have e2 := txt_mul [97 + i] w
    have e3 : (List.replicate w.toNat [97 + i]).flatten = List.replicate w.toNat (97 + i) := by
      generalize w.toNat = n
      induction n with
      | zero => rfl
      | succ n ih => rw [List.replicate_succ, List.flatten_cons, ih, List.replicate_succ]; rfl
    rw [e1, e2, e3]
    refine ⟨⟨w0, by omega, by rw [tx_len]; simp⟩, ?_⟩
    have sl : (List.replicate w.toNat (97 + i)).length ≤ 6 := by rw [List.length_replicate]; omega
    have sa : (List.replicate w.toNat (97 + i)).all (fun c => decide (97 ≤ c) && decide (c ≤ 122)) = true := by
      rw [List.all_eq_true]
      intro c hc
      rw [List.eq_of_mem_replicate hc]
      simp; omega
    generalize List.replicate w.toNat (97 + i) = st at *
    clear e1 e2 e3 g1
    refine hP _ _ ?_; clear hP
    refine seqI fun P hP => ?_
    wide_open with (if_true, if_true)
    refine hP _ _ ?_; clear hP
    have ab1 : (PySem.Str.ofString "a") = Tx [97] := by decide +kernel
    have ab2 : (PySem.Str.ofString "ab") = Tx [97, 98] := by decide +kernel
    have ab3 : (PySem.Str.ofString "b") = Tx [98] := by decide +kernel
    have ab4 : (PySem.Str.ofString "zz") = Tx [122, 122] := by decide +kernel
    have at7 : ∀ m : Int, ∃ j : Nat, j < 26 ∧ (u + m).fmod 26 = (j : Int) ∧ (j : Int) = (u + m) % 26 := fun m => by
      have e : (u + m).fmod 26 = (u + m) % 26 := fmod_pos (by decide)
      have m0 := Int.emod_nonneg (u + m) (show (26 : Int) ≠ 0 by decide)
      have m1 := Int.emod_lt_of_pos (u + m) (show (0 : Int) < 26 by decide)
      exact ⟨((u + m) % 26).toNat, by omega, by omega, by omega⟩
    obtain ⟨j0, j0l, j0e, j0m⟩ := at7 0
    obtain ⟨j1, j1l, j1e, j1m⟩ := at7 7
    obtain ⟨j2, j2l, j2e, j2m⟩ := at7 14
    obtain ⟨j3, j3l, j3e, j3m⟩ := at7 21
    have one : ∀ j : Nat, (⟨#[97 + j]⟩ : Str) = Tx [97 + j] := fun j => rfl
    refine seqI fun P hP => ?_
    have len1 : ∀ j : Nat, (Tx [97 + j]).length = 1 := fun j => rfl
    have i26 : ∀ j : Nat, j < 26 → (0 : Int) ≤ (j : Int) ∧ (j : Int) < 16777216 ∧ (j : Int) < 26 := fun j hj => ⟨by omega, by omega, by omega⟩
    wide_open with (rgR_succ, rgR_zero)
    refine forL_cons trivial ?_
    wide_open with (j0e, abc_at j0l, abc_len, one, tx_app, tx_len, len1)
    refine ⟨mulOk_l (by decide), by decide, i26 _ j0l, by omega, _, _, Cut.refl, forL_cons trivial ?_⟩
    wide_open with (j1e, abc_at j1l, abc_len, one, tx_app, tx_len, len1)
    refine ⟨mulOk_l (by decide), by decide, i26 _ j1l, by omega, _, _, Cut.refl, forL_cons trivial ?_⟩
    wide_open with (j2e, abc_at j2l, abc_len, one, tx_app, tx_len, len1)
    refine ⟨mulOk_l (by decide), by decide, i26 _ j2l, by omega, _, _, Cut.refl, forL_cons trivial ?_⟩
    wide_open with (j3e, abc_at j3l, abc_len, one, tx_app, tx_len, len1)
    refine ⟨mulOk_l (by decide), by decide, i26 _ j3l, by omega, _, _, Cut.refl, forL_nil trivial ?_⟩
    show P _ _
    refine hP _ _ ?_; clear hP
    refine seqI fun P hP => ?_
    wide_open with (sp_l_draw, if_true)
    intro z a b z0 z1
    have ok1 : ∀ j : Nat, j < 26 → nameL (st ++ [97 + j]) = true := fun j hj => name_app sl sa (by simp) (by simp) (by simp; omega)
    cases (z == 0) with
    | false =>
      wide_open with (if_true, if_true)
      refine hP _ _ ?_; clear hP
      wide_open with (if_true, if_true)
      refine h _ _ _ _ _ _ (ok1 j0 j0l) (ok1 j1 j1l) (ok1 j2 j2l) (ok1 j3 j3l) ?_
      simp only [List.nodup_cons, List.mem_cons, List.not_mem_nil, or_false, not_or, List.nodup_nil, and_true, not_false_eq_true]
      exact ⟨⟨last_ne (by omega), last_ne (by omega), last_ne (by omega)⟩, ⟨last_ne (by omega), last_ne (by omega)⟩, last_ne (by omega)⟩
    | true =>
      rw [ab1, ab2, ab3, ab4]
      wide_open with (tx_len, tx_app)
      refine ⟨by omega, by omega, by omega, ?_⟩
      refine hP _ _ ?_; clear hP
      wide_open with (if_true, if_true)
      refine h _ _ _ _ _ _ (name_app sl sa (by simp) (by simp) (by decide)) (name_app sl sa (by simp) (by simp) (by decide)) (name_app sl sa (by simp) (by simp) (by decide)) (by decide) ?_
      have ln : ∀ t u : List Nat, t.getLast? ≠ u.getLast? → t ≠ u := fun t u h e => h (by rw [e])
      have l1 : (st ++ [97]).getLast? = some 97 := by simp
      have l2 : (st ++ [97, 98]).getLast? = some 98 := by rw [show st ++ [97, 98] = (st ++ [97]) ++ [98] by simp]; simp
      have l3 : (st ++ [98]).getLast? = some 98 := by simp
      have l4 : ([122, 122] : List Nat).getLast? = some 122 := rfl
      simp only [List.nodup_cons, List.mem_cons, List.not_mem_nil, or_false, not_or, List.nodup_nil, and_true, not_false_eq_true]
      refine ⟨⟨ln _ _ (by rw [l1, l2]; decide), ln _ _ (by rw [l1, l3]; decide), ln _ _ (by rw [l1, l4]; decide)⟩, ⟨fun e => ?_, ln _ _ (by rw [l2, l4]; decide)⟩, ln _ _ (by rw [l3, l4]; decide)⟩
      have := congrArg List.length e
      simp at this
  · exact h.elim
/-- slots: 0 _law_thing, 1 _law_again, 2 _law_refused -/
def w_l_no_deed_Body : PX1 :=
  (xSeq (xL (wSet 2 (wC (.bl false))))
  (xSeq (xL (wTryN [PySem.Str.ofString "NoDeed"] (xIf (wTest (wVar 1)) (xDrop (wxMeth "Body" "again" sp_Body_again 1 (wVar 0) wNil)) (xDrop (wxMeth "Body" "back" sp_Body_back 1 (wVar 0) wNil))) (wSet 2 (wC (.bl true)))))
  (xL (wRet (wVar 2)))))
def sp_l_no_deed_Body : SpW := fun rs S W _ => match rs with
  | [.ad c, .d (.bl g)] => ∃ (own : List Nat) (s : Bs) (bs as : List Bs), BodyAt own S c s bs as ∧ as.length ≤ 10000 ∧ bs.length ≤ 10000 ∧ ((if g = true then as else bs) = [] → W (.d (.bl true)) S) ∧ (g = true → ∀ (as' : List Bs) (s' : Bs), as = as' ++ [s'] → ∀ S' : Sto, FrB own S S' → BodyAt own S' c s' (bs ++ [s]) as' → W (.d (.bl false)) S') ∧ (g = false → bs = [])
  | _ => False
theorem rd_l_no_deed_Body : ∀ rs S W XW, rs.length = 2 → sp_l_no_deed_Body rs S W XW → w_l_no_deed_Body { n := { nx := fun _ S1 => W (.d .non) S1, rt := W }, ex := fun x _ S1 => XW x S1 } (start1 3 rs) S := by
  intro rs S W XW _ h
  unfold sp_l_no_deed_Body at h
  split at h
  · rename_i c g _
    obtain ⟨own, s, bs, as, bd, al, bl, h0, h1, h2⟩ := h
    unfold w_l_no_deed_Body
    refine xseqI fun P hP => ?_
    wide_open with (if_true, if_true)
    refine hP _ _ ?_; clear hP
    refine xseqI fun P hP => ?_
    cases g with
    | true =>
      wide_open with (sp_Body_again, if_true)
      refine ⟨bd.meth (by decide +kernel) (by decide +kernel) (by decide +kernel) (by decide +kernel), own, s, bs, as, bd, bl, fun e => ?_, fun as' s' e S' fr bd' => ?_⟩
      · refine hP _ _ ?_; clear hP
        wide_open with (if_true, if_true)
        exact h0 e
      · refine hP _ _ ?_; clear hP
        wide_open with (if_true, if_true)
        exact h1 rfl as' s' e S' fr bd'
    | false =>
      wide_open with (sp_Body_back, if_true)
      refine ⟨bd.meth (by decide +kernel) (by decide +kernel) (by decide +kernel) (by decide +kernel), own, s, bs, as, bd, al, fun e => ?_, fun bs' s' e => by rw [h2 rfl] at e; simp at e⟩
      refine hP _ _ ?_; clear hP
      wide_open with (if_true, if_true)
      exact h0 e
  · exact h.elim
/-- slots: 0 _law_thing, 1 _law_again, 2 _law_refused -/
def w_l_no_deed_Chain : PX1 :=
  (xSeq (xL (wSet 2 (wC (.bl false))))
  (xSeq (xL (wTryN [PySem.Str.ofString "NoDeed"] (xIf (wTest (wVar 1)) (xDrop (wxMeth "Chain" "again" sp_Chain_again 1 (wVar 0) wNil)) (xDrop (wxMeth "Chain" "back" sp_Chain_back 1 (wVar 0) wNil))) (wSet 2 (wC (.bl true)))))
  (xL (wRet (wVar 2)))))
def sp_l_no_deed_Chain : SpW := fun rs S W _ => match rs with
  | [.ad c, .d (.bl g)] => ∃ (q : Nat → Nat) (x : Nat) (js : Js) (bs as : List Js), x ≠ 9 ∧ ChQ q x S c js bs as ∧ as.length ≤ 10000 ∧ bs.length ≤ 10000 ∧ (if g = true then as else bs) = [] ∧ W (.d (.bl true)) S
  | _ => False
theorem rd_l_no_deed_Chain : ∀ rs S W XW, rs.length = 2 → sp_l_no_deed_Chain rs S W XW → w_l_no_deed_Chain { n := { nx := fun _ S1 => W (.d .non) S1, rt := W }, ex := fun x _ S1 => XW x S1 } (start1 3 rs) S := by
  intro rs S W XW _ h
  unfold sp_l_no_deed_Chain at h
  split at h
  · rename_i c g _
    obtain ⟨q, x, js, bs, as, x9, ch, al, bl, h0, h⟩ := h
    unfold w_l_no_deed_Chain
    refine xseqI fun P hP => ?_
    wide_open with (if_true, if_true)
    refine hP _ _ ?_; clear hP
    refine xseqI fun P hP => ?_
    cases g with
    | true =>
      have h0 : as = [] := h0
      wide_open with (sp_Chain_again, if_true)
      refine ⟨ch.meth (by decide +kernel) (by decide +kernel) (by decide +kernel), q, x, js, bs, as, x9, ch, bl, fun _ => ?_, fun as' s' e => by rw [h0] at e; simp at e⟩
      refine hP _ _ ?_; clear hP
      wide_open with (if_true, if_true)
      exact h
    | false =>
      have h0 : bs = [] := h0
      wide_open with (sp_Chain_back, if_true)
      refine ⟨ch.meth (by decide +kernel) (by decide +kernel) (by decide +kernel), q, x, js, bs, as, x9, ch, al, fun _ => ?_, fun bs' s' e => by rw [h0] at e; simp at e⟩
      refine hP _ _ ?_; clear hP
      wide_open with (if_true, if_true)
      exact h
  · exact h.elim
/-- slots: 0 self, 1 name, 2 kept -/
def w_Body_mark : PX1 :=
  (xSeq (xIf (wNotT (wTest (wCall sp_is_name 1 (wCons (wVar 1) wNil)))) (xRaise (PySem.Str.ofString "NoName")) xNext)
  (xSeq (xL (wSet 2 (wCpDa (wFld "Body" "kept" (wVar 0)))))
  (xSeq (xL (wPutDa (wVar 2) (wVar 1) (wFld "Body" "here" (wVar 0))))
  (xL (wDrop (wwMeth "Body" "come_to" sp_Body_come_to 3 (wVar 0) (wCons (wFld "Body" "here" (wVar 0)) (wCons (wVar 2) wNil))))))))
def sp_Body_mark : SpW := fun rs S W XW => match rs with
  | [.ad c, .d (.str x)] => ∃ (l : List Nat) (own : List Nat) (s : Bs) (bs as : List Bs), x = Tx l ∧ l.length ≤ 16777000 ∧ BodyAt own S c s bs as ∧ bs.length ≤ 10000 ∧ s.2.length ≤ 10000 ∧ (nameL l = false → XW (PySem.Str.ofString "NoName") S) ∧
      (nameL l = true → ∀ (own' : List Nat) (S' : Sto), OwnX own own' S → FrB own S S' → BodyAt own' S' c (s.1, putKp s.2 x s.1) (bs ++ [s]) [] → W (.d .non) S')
  | _ => False
theorem rd_Body_mark : ∀ rs S W XW, rs.length = 2 → sp_Body_mark rs S W XW → w_Body_mark { n := { nx := fun _ S1 => W (.d .non) S1, rt := W }, ex := fun x _ S1 => XW x S1 } (start1 3 rs) S := by
  intro rs S W XW _ h
  unfold sp_Body_mark at h
  split at h
  · rename_i c x _
    obtain ⟨l, own, s, bs, as, rfl, ll, bd, hl, hk, hx, h⟩ := h
    obtain ⟨n, nb, na, k0, b, d, ps, qs, o1, o2, o3, o4, h2, h3, h4, ⟨nk, h5⟩, h6, h7⟩ := id bd.ex
    unfold w_Body_mark
    refine xseqI fun P hP => ?_
    wide_open with (sp_is_name, if_true)
    refine ⟨l, rfl, ll, ?_⟩
    by_cases e : nameL l = true
    rotate_left
    · have e : nameL l = false := Bool.eq_false_iff.mpr e
      rw [e]
      wide_open with (if_true, if_true)
      exact hx e
    · replace h := h e
      rw [e]
      wide_open with (if_true, if_true)
      refine hP _ _ ?_; clear hP
      refine xseqI fun P hP => ?_
      wide_open with (if_true, if_true)
      refine ⟨n, _, _, h2, bdF_kept, ?_⟩
      wide_open with (if_true, if_true)
      refine ⟨nk, _, h5, fun p => ?_⟩
      refine hP _ _ ?_; clear hP
      have h2' := gapp (Y := [O.da p (kpR s.2)]) h2
      have h8 : (S ++ [O.da p (kpR s.2)])[S.length]? = some (.da p (kpR s.2)) := List.getElem?_concat_length
      have n1 := get_len h2
      have fr := FrB.refl (own := own) (S := S) |>.app [O.da p (kpR s.2)]
      have bd' := bd.app [O.da p (kpR s.2)]
      generalize hS1 : S ++ [O.da p (kpR s.2)] = S1 at *
      refine xseqI fun P hP => ?_
      wide_open with (if_true, if_true)
      refine ⟨n, _, _, h2', bdF_here, ?_⟩
      wide_open with (if_true, if_true)
      refine ⟨S.length, _, .inr (Tx l), h8, rfl, by rw [List.length_map]; omega, ?_⟩
      rw [putKp_R]
      refine hP _ _ ?_; clear hP
      have ln : S.length ∉ own := fun q => by have := bd.low _ q; omega
      have bd2 : BodyAt own (S1.set S.length (.da p (kpR (putKp s.2 (Tx l) s.1)))) c s bs as := by
        refine (bd.app [O.da p (kpR (putKp s.2 (Tx l) s.1))]).cast ?_
        rw [← hS1]; simp
      have fr2 : FrB own S (S1.set S.length (.da p (kpR (putKp s.2 (Tx l) s.1)))) := by
        rw [← hS1]
        have : (S ++ [O.da p (kpR s.2)]).set S.length (.da p (kpR (putKp s.2 (Tx l) s.1))) = S ++ [O.da p (kpR (putKp s.2 (Tx l) s.1))] := by simp
        rw [this]
        exact FrB.refl.app _
      have h9 := gput (x := .da p (kpR (putKp s.2 (Tx l) s.1))) h8
      have h2' := gset (x := .da p (kpR (putKp s.2 (Tx l) s.1))) h2' (show S.length ≠ n by omega)
      generalize S1.set S.length (.da p (kpR (putKp s.2 (Tx l) s.1))) = S2 at *
      wide_open with (if_true, if_true)
      refine ⟨⟨n, _, h2', bdF_no (by decide +kernel) (by decide +kernel) (by decide +kernel) (by decide +kernel)⟩, n, _, _, h2', bdF_here, ?_⟩
      wide_open with (sp_Body_come_to, if_true)
      exact ⟨own, s, (s.1, putKp s.2 (Tx l) s.1), bs, as, rfl, bd2, ⟨_, h9⟩, hl, fun own' S' x1 f1 b1 => h own' S' (fun i hi => (x1 i hi).imp id fun q => Nat.le_trans fr2.1 q) (fr2.trans f1 OwnX.refl) b1⟩
  · exact h.elim
/-- slots: 0 self, 1 name -/
def w_Body_marked : PX1 :=
  (xSeq (xIf (wNotT (wTest (wCall sp_is_name 1 (wCons (wVar 1) wNil)))) (xRaise (PySem.Str.ofString "NoName")) xNext)
  (xSeq (xIf (wTest (wBin (pInDa true) (wVar 1) (wFld "Body" "kept" (wVar 0)))) (xRaise (PySem.Str.ofString "NoMark")) xNext)
  (xL (wRet (wBin pIxDa (wFld "Body" "kept" (wVar 0)) (wVar 1))))))
def sp_Body_marked : SpW := fun rs S W XW => match rs with
  | [.ad c, .d (.str x)] => ∃ (l : List Nat) (own : List Nat) (s : Bs) (bs as : List Bs), x = Tx l ∧ l.length ≤ 16777000 ∧ BodyAt own S c s bs as ∧ (nameL l = false → XW (PySem.Str.ofString "NoName") S) ∧ (nameL l = true → getKp s.2 x = none → XW (PySem.Str.ofString "NoMark") S) ∧
      (nameL l = true → ∀ f, getKp s.2 x = some f → W (.d (foD f)) S)
  | _ => False
theorem rd_Body_marked : ∀ rs S W XW, rs.length = 2 → sp_Body_marked rs S W XW → w_Body_marked { n := { nx := fun _ S1 => W (.d .non) S1, rt := W }, ex := fun x _ S1 => XW x S1 } (start1 2 rs) S := by
  intro rs S W XW _ h
  unfold sp_Body_marked at h
  split at h
  · rename_i c x _
    obtain ⟨l, own, s, bs, as, rfl, ll, bd, hx, hm, h⟩ := h
    obtain ⟨n, nb, na, k0, b, d, ps, qs, o1, o2, o3, o4, h2, h3, h4, ⟨nk, h5⟩, h6, h7⟩ := id bd.ex
    unfold w_Body_marked
    refine xseqI fun P hP => ?_
    wide_open with (sp_is_name, if_true)
    refine ⟨l, rfl, ll, ?_⟩
    by_cases e : nameL l = true
    rotate_left
    · have e : nameL l = false := Bool.eq_false_iff.mpr e
      rw [e]
      wide_open with (if_true, if_true)
      exact hx e
    · replace h := h e
      rw [e]
      wide_open with (if_true, if_true)
      refine hP _ _ ?_; clear hP
      refine xseqI fun P hP => ?_
      wide_open with (if_true, if_true)
      refine ⟨n, _, _, h2, bdF_kept, ?_⟩
      wide_open with (if_true, if_true)
      refine ⟨nk, _, .inr (Tx l), h5, rfl, ?_⟩
      have g := getKp_R s.2 (Tx l)
      cases q : getKp s.2 (Tx l) with
      | none =>
        rw [q] at g
        rw [g]
        wide_open with (Option.isSome_none, if_true)
        exact hm e q
      | some f =>
        rw [q] at g
        have g : getA (kpR s.2) (.inr (Tx l)) = some (.d (foD f)) := g
        rw [g]
        wide_open with (Option.isSome_some, if_true)
        refine hP _ _ ?_; clear hP
        wide_open with (if_true, if_true)
        refine ⟨n, _, _, h2, bdF_kept, ?_⟩
        wide_open with (if_true, if_true)
        exact ⟨nk, _, .inr (Tx l), _, h5, rfl, g, h f q⟩
  · exact h.elim
/-- slots: 0 self -/
def w_Chain_off : PX1 :=
  (xSeq (xL (wDrop (wwMeth "Chain" "look_at" sp_Chain_look_at 2 (wVar 0) (wCons (wBin pSub (wFn fLenA (wCons (wFld "Chain" "rows" (wVar 0)) wNil)) (wC (.int 1))) wNil))))
  (xL (wDrop (wwMeth "Chain" "come_to" sp_Chain_come_to 2 (wVar 0) (wCons (wAtL (wSlA (wFld "Chain" "rows" (wVar 0)) wNo (wSome (wUn pNeg (wC (.int 1)))))) wNil)))))
def sp_Chain_off : SpW := fun rs S W _ => match rs with
  | [.ad c] => ∃ (q : Nat → Nat) (v : Nat) (js : Js) (bs as : List Js), v ≠ 9 ∧ ChQ q v S c js bs as ∧ js.length ≤ 6 ∧ bs.length ≤ 10000 ∧ js ≠ [] ∧ (∀ (q' : Nat → Nat) (S' : Sto), ExQ S q q' → FrQ q v S S' → ChQ q' v S' c js.dropLast (bs ++ [js]) [] → W (.d .non) S')
  | _ => False
theorem rd_Chain_off : ∀ rs S W XW, rs.length = 1 → sp_Chain_off rs S W XW → w_Chain_off { n := { nx := fun _ S1 => W (.d .non) S1, rt := W }, ex := fun x _ S1 => XW x S1 } (start1 1 rs) S := by
  intro rs S W XW _ h
  unfold sp_Chain_off at h
  split at h
  · rename_i c _
    obtain ⟨q, v, js, bs, as, v9, ch, hl, hm, ne, h⟩ := h
    obtain ⟨n, nb, na, a, b, d, ps, qs, o1, o2, o3, o4, h2, h3, h4, ⟨nr, nq, h5⟩, h6, h7⟩ := id ch.ex
    unfold w_Chain_off
    refine xseqI fun P hP => ?_
    wide_open with (if_true, if_true)
    refine ⟨⟨n, _, h2, chF_no (by decide +kernel) (by decide +kernel) (by decide +kernel)⟩, n, _, _, h2, chF_rows, ?_⟩
    wide_open with (if_true, if_true)
    refine ⟨nr, _, h5, ?_⟩
    wide_open with (List.length_map, sp_Chain_look_at)
    have lp := List.length_pos_iff.mpr ne
    refine ⟨q, v, js, bs, as, ch, fun _ => ?_, fun k => absurd ⟨by omega, by omega⟩ k⟩
    refine hP _ _ ?_; clear hP
    wide_open with (if_true, if_true)
    refine ⟨⟨n, _, h2, chF_no (by decide +kernel) (by decide +kernel) (by decide +kernel)⟩, n, _, _, h2, chF_rows, ?_⟩
    wide_open with (if_true, if_true)
    obtain ⟨m, em⟩ : ∃ m, js.length = m + 1 := ⟨js.length - 1, by have := List.length_pos_iff.mpr ne; omega⟩
    have c1 : cutD (jsD js) none (some (-1)) = jsD js.dropLast := by
      rw [cutD_init (m := m) (by rw [List.length_map]; exact em), List.dropLast_eq_take, em]
      simp [jsD, List.map_take]
    refine ⟨nr, jsD js, h5, ?_⟩
    rw [c1]
    intro r
    wide_open with (sp_Chain_come_to, if_true)
    have ex := ex_colN S 9 q
    exact ⟨colN S.length 9 q, v, js, js.dropLast, bs, as, v9, (ch.ext ex).app _, ⟨S.length, colN_ge (Nat.le_refl _), by simp⟩, hm, fun q' S' e f ch' => h q' S' (ex.trans e (by simp)) (((FrQ.refl (x := v)).app _).trans f ex) ch'⟩
  · exact h.elim
/-- slots: 0 one, 1 other -/
def w_added : PS1 :=
  (wRet (wCall sp_made 2 (wCons (wBin pAddI (wBin pMulI (wBin pIx (wVar 0) (wC (.int 0))) (wBin pIx (wVar 1) (wC (.int 1)))) (wBin pMulI (wBin pIx (wVar 1) (wC (.int 0))) (wBin pIx (wVar 0) (wC (.int 1))))) (wCons (wBin pMulI (wBin pIx (wVar 0) (wC (.int 1))) (wBin pIx (wVar 1) (wC (.int 1)))) wNil))))
def sp_added : SpZ := spAdd
theorem rd_added : ∀ rs S W, rs.length = 2 → sp_added rs S W → w_added { nx := fun _ S1 => retN S.length W (.d .non) S1, rt := retN S.length W } (start1 2 rs) S := by
  intro rs S W _ h
  unfold sp_added spAdd at h
  split at h
  · obtain ⟨p, q, m, n, rfl, rfl, ⟨a1, a2⟩, ⟨b1, b2⟩, hmn, h⟩ := h
    have e1 : frD p = .tup [.int p.num, .int (p.den : Int)] := rfl
    have e2 : frD q = .tup [.int q.num, .int (q.den : Int)] := rfl
    rw [e1, e2]
    wide_open with (w_added, sp_made, spMade, add_made)
    exact ⟨mulOk a1 b2 (by omega), mulOk b1 a2 (by omega), mulOk a2 b2 (by omega), made_ne, (a2.mul b2).mono hmn, h⟩
  · exact h.elim
/-- slots: 0 numbers, 1 by, 2 number -/
def w_plain_row : PS1 :=
  (wSeq (wSet 1 (wCall sp_divisor_of 1 (wCons (wVar 0) wNil)))
  (wRet (wFn fTup (wCons (wLc (wIt (wVar 0)) (fNm 2) wYes (wBin pDiv (wVar 2) (wVar 1)) [2]) wNil))))
def sp_plain_row : SpZ := fun rs S W => match rs with
  | [.d (.tup xs)] => ∃ ns : List Int, xs = ns.map D.int ∧ (∃ n ∈ ns, n ≠ 0) ∧ (∀ n ∈ ns, Bd 9000 n) ∧ ns.length ≤ 1000 ∧ W (.d (.tup ((prow ns).map D.int))) S
  | _ => False
theorem rd_plain_row : ∀ rs S W, rs.length = 1 → sp_plain_row rs S W → w_plain_row { nx := fun _ S1 => retN S.length W (.d .non) S1, rt := retN S.length W } (start1 3 rs) S := by
  intro rs S W _ h
  unfold sp_plain_row at h
  split at h
  · obtain ⟨ns, rfl, hz, hb, hl, h⟩ := h
    wide_open with (w_plain_row, sp_divisor_of)
    have hg := gl_pos hz
    have hc : ∀ n : Int, CDv n (gl ns) := fun n => by
      obtain ⟨x, hx, h0⟩ := hz
      exact cdv (n := 9000) (by omega) (by
        have h1 := hb x hx
        have h2 := gl_le hx h0
        simp only [bd_iff] at *
        simp only [Int.natAbs_natCast]
        omega) (Nat.le_refl _)
    refine ⟨ns, rfl, by simp; omega, lcL_ints (fun n => n / (gl ns : Int)) (by simp) trivial (fun n hn => ⟨_, rfl, fun W1 h => h, fun W1 h => ?_⟩) ?_⟩
    · wide_open with (if_true, if_true)
      exact ⟨hc n, by rw [fdiv_pos (by omega)]; exact h⟩
    · wide_open with (if_true, if_true)
      exact h
  · exact h.elim
/-- slots: 0 four, 1 point, 2 bottom, 3 top, 4 part, 5 tops, 6 found, 7 row, 8 k -/
def w_turned : PS1 :=
  (wSeq (wSet 2 (wC (.int 1)))
  (wSeq (wFor (wIt (wVar 1)) (fTp 2 (fCons (fNm 3) (fCons (fNm 4) fNil))) (wSet 2 (wBin pMulI (wVar 2) (wBin pDiv (wVar 4) (wCall sp_divisor 2 (wCons (wVar 2) (wCons (wVar 4) wNil)))))))
  (wSeq (wSet 5 (wLc (wIt (wVar 1)) (fTp 2 (fCons (fNm 3) (fCons (fNm 4) fNil))) wYes (wBin pMulI (wVar 3) (wBin pDiv (wVar 2) (wVar 4))) [3, 4]))
  (wSeq (wSet 6 (wLst wNil))
  (wSeq (wFor (wIt (wCall sp_rows_of 1 (wCons (wVar 0) wNil))) (fNm 7) (wDrop (wApp (wVar 6) (wCall sp_made 2 (wCons (wFn fSum (wCons (wLc (wRng1 (wCons (wC (.int 3)) wNil)) (fNm 8) wYes (wBin pMulI (wBin pIx (wVar 7) (wVar 8)) (wBin pIx (wVar 5) (wVar 8))) [8]) wNil)) (wCons (wBin pMulI (wCall sp_size 1 (wCons (wVar 0) wNil)) (wVar 2)) wNil))))))
  (wRet (wFn fTup (wCons (wVar 6) wNil))))))))
def sp_turned : SpZ := spTurn
theorem rd_turned : ∀ rs S W, rs.length = 2 → sp_turned rs S W → w_turned { nx := fun _ S1 => retN S.length W (.d .non) S1, rt := retN S.length W } (start1 9 rs) S := by
  intro rs S W _ h
  unfold sp_turned spTurn at h
  split at h
  · obtain ⟨a, p, rfl, ha, hz, ⟨m, n, hmn, hb, hp⟩, rfl, h⟩ := h
    obtain ⟨L, hL, hLb, hq⟩ := hp
    have hq' : ∀ q ∈ qsOf p, q.den ∣ L ∧ Bd n (q.num * ((L / q.den : Nat) : Int)) := fun q hm => hq q (by simpa [qsOf] using hm)
    have dB : ∀ {b : Nat}, b ∣ L → Bd n (b : Int) := fun {b} hd => by
      have := Nat.le_of_dvd hL hd
      simp only [bd_iff, Int.natAbs_natCast] at *
      omega
    wide_open with (w_turned, ptD_qs)
    refine forL_ix (fun i r S1 => S1 = S ∧ ∃ (B : Nat) (z z' : Option R), 0 < B ∧ B ∣ L ∧ (∀ q ∈ (qsOf p).take i, q.den ∣ B) ∧ r = [some (.d (.tup (a.map D.int))), some (.d (.tup ((qsOf p).map frD))), some (.d (.int (B : Int))), z, z', none, none, none, none]) ?_ ?_ ⟨rfl, 1, _, _, by decide, Nat.one_dvd _, by simp, rfl⟩
    · rintro i x hx r S1 ⟨rfl, B, z, z', hB, hBL, hd, rfl⟩ M hM
      rw [List.map_map] at hx
      obtain ⟨q, hq, rfl⟩ := item_enc hx
      have hqq := hq' q (mem_of_at hq)
      wide_open with (frD, Function.comp, sp_divisor, spGcd, gcd_nat, fdiv_nat)
      have hg : 0 < B.gcd q.den := Nat.gcd_pos_of_pos_left _ hB
      refine ⟨cdv (by omega) (dB (Nat.dvd_trans (Nat.gcd_dvd_left _ _) hBL)) (by omega), mulOk (dB hBL) (dB (Nat.dvd_trans (Nat.div_dvd_of_dvd (Nat.gcd_dvd_right _ _)) hqq.1)) (by omega), _, _, Cut.refl, hM _ _ ⟨rfl, lcmS B q.den, _, _, lcmS_pos hB q.den_pos, lcmS_dvd hBL hqq.1, fun q' hm => ?_, rfl⟩⟩
      rcases mem_take_one hq hm with hm | rfl
      · exact Nat.dvd_trans (hd q' hm) (lcmS_l _ _)
      · exact lcmS_r _ _
    · rintro r S1 ⟨rfl, B, z, z', hB, hBL, hd, rfl⟩
      have hd' : ∀ q ∈ qsOf p, q.den ∣ B := fun q hm => hd q (by rw [List.length_map, List.length_map, List.take_length]; exact hm)
      have tb : ∀ q ∈ qsOf p, Bd n (topOf B q) := fun q hm => topOf_bd hL (hd' q hm) hBL (hq' q hm).2
      have nb : Bd (m + m + 2) (nrmI a) := nrmI_bd hb
      have nz := nrmI_ne ha hz
      wide_open with (if_true, if_true)
      rw [List.map_map]
      refine ⟨by rw [List.length_map]; simp [qsOf], lcL_enc _ (fun q => .int (topOf B q)) (by simp) trivial (fun q hm => ⟨_, rfl, fun W1 h => h, fun W1 h => ?_⟩) ?_⟩
      · have e : (q.num : Int) * ((B / q.den : Nat) : Int) = topOf B q := rfl
        wide_open with (fdiv_nat, e)
        exact ⟨cdv (fr_den q) (dB (Nat.dvd_trans (hd' q hm) hBL)) (by omega), mulOk (hq q (by simpa [qsOf] using hm) |> fun _ => (PtB.bq ⟨L, hL, hLb, hq⟩ (by simpa [qsOf] using hm)).1) (dB (Nat.dvd_trans (Nat.div_dvd_of_dvd (hd' q hm)) hBL)) (by omega), h⟩
      · wide_open with (sp_rows_of, if_true)
        refine ⟨a, rfl, ha, fun x hx => (hb x hx).mono (by omega), ?_⟩
        wide_open with (if_true, if_true)
        refine forL_ix (fun i r S2 => S2 = S1 ++ [.lst ((qsOf p).map fun q => .int (topOf B q)), .lst (((rowsI a).take i).map fun row => frD ((dotI row B p : Rat) / ((nrmI a * (B : Int) : Int) : Rat)))] ∧ ∃ (y y' : Option R), r = [some (.d (.tup (a.map D.int))), some (.d (.tup ((qsOf p).map frD))), some (.d (.int (B : Int))), z, z', some (.loc S1.length), some (.loc (S1.length + 1)), y, y']) ?_ ?_ ⟨rfl, _, _, rfl⟩
        · rintro i x hx r S2 ⟨rfl, y, y', rfl⟩ M hM
          rw [List.map_map] at hx
          obtain ⟨row, hrow, rfl⟩ := item_enc hx
          have rb := rowsI_bd hb row (mem_of_at hrow)
          obtain ⟨r1, r2, r3, rfl⟩ := rowsI_three (mem_of_at hrow)
          simp only [List.mem_cons, List.not_mem_nil, or_false, forall_eq_or_imp, forall_eq] at rb
          obtain ⟨b1, b2, b3⟩ := rb
          have c1 := tb p.1 (by simp [qsOf])
          have c2 := tb p.2.1 (by simp [qsOf])
          have c3 := tb p.2.2 (by simp [qsOf])
          wide_open with (Function.comp, rowD, rgR_succ, rgR_zero, lcL, qsOf, sp_size, spSize, sp_made, spMade)
          refine ⟨mulOk b1 c1 (by omega), mulOk b2 c2 (by omega), mulOk b3 c3 (by omega), a, rfl, fun x hx => (hb x hx).mono (by omega), by omega, ?_⟩
          wide_open with (sqs_four ha, if_true)
          refine ⟨mulOk nb (dB hBL) (by omega), ?_, (nb.mul (dB hBL)).mono (by omega), ?_, _, _, Cut.refl, hM _ _ ⟨?_, _, _, rfl⟩⟩
          · exact Int.mul_ne_zero nz (by omega)
          · simp only [List.length_map]; have := rowsI_len a; rw [List.length_take]; omega
          · rw [take_one hrow]
            simp only [dotI, qsOf, List.map_cons, List.map_nil, List.sum_cons, List.sum_nil, Int.add_zero, Int.add_assoc]
        · rintro r S2 ⟨rfl, y, y', rfl⟩
          wide_open with (if_true, if_true)
          rw [rot_rows ha hz hB (hd' p.1 (by simp [qsOf])) (hd' p.2.1 (by simp [qsOf])) (hd' p.2.2 (by simp [qsOf]))] at h
          rw [List.length_map, List.length_map, List.take_length]
          exact h
  · exact h.elim
/-- slots: 0 _law_purse_here, 1 _law_many, 2 _law_row_here, 3 _law_k -/
def w_l_row : PS1 :=
  (wSeq (wSet 2 (wFn fTup (wCons (wLc (wRng1 (wCons (wVar 1) wNil)) (fNm 3) wYes (wCall sp_l_number 1 (wCons (wVar 0) wNil)) [3]) wNil)))
  (wSeq (wIf (wTest (wBin pEq (wVar 2) (wBin pRepY (wTup (wCons (wC (.int 0)) wNil)) (wVar 1)))) (wRet (wBin pAddI (wTup (wCons (wC (.int 1)) wNil)) (wBin pRepY (wTup (wCons (wC (.int 0)) wNil)) (wBin pSub (wVar 1) (wC (.int 1)))))) wNext)
  (wRet (wVar 2))))
def sp_l_row : SpZ := fun rs S W => match rs, S with
  | [.loc 0, .d (.int n)], [.lst [.int _, .int _]] => (n = 3 ∧ ∀ (f : List Int) (a b : Int), f.length = 3 → (∃ x ∈ f, x ≠ 0) → (∀ x ∈ f, Bd 80 x) → W (.d (.tup (f.map D.int))) [.lst [.int a, .int b]]) ∨ (n = 4 ∧ ∀ (f : List Int) (a b : Int), f.length = 4 → (∃ x ∈ f, x ≠ 0) → (∀ x ∈ f, Bd 80 x) → W (.d (.tup (f.map D.int))) [.lst [.int a, .int b]])
  | _, _ => False
theorem rd_l_row : ∀ rs S W, rs.length = 2 → sp_l_row rs S W → w_l_row { nx := fun _ S1 => retN S.length W (.d .non) S1, rt := retN S.length W } (start1 4 rs) S := by
  intro rs S W _ h
  unfold sp_l_row at h
  split at h
  · rename_i n a b _
    rcases h with ⟨rfl, h⟩ | ⟨rfl, h⟩
    · unfold w_l_row
      refine seqI fun P hP => ?_
      wide_open with (rgR_succ, rgR_zero, lcL, sp_l_number)
      intro v1 b1 v2 b2 v3 a b b3
      refine hP _ _ ?_; clear hP
      have e0 : (v1 == 0 && (v2 == 0 && v3 == 0)) = decide ([v1, v2, v3] = [0, 0, 0]) := by
        simp only [List.cons.injEq, and_true, Bool.decide_and]; rfl
      have r3 : (List.replicate (3 : Int).toNat [D.int 0]).flatten = [.int 0, .int 0, .int 0] := rfl
      have r2 : (List.replicate (2 : Int).toNat [D.int 0]).flatten = [.int 0, .int 0] := rfl
      refine seqI fun P hP => ?_
      wide_open with (e0, List.flatten_cons, List.flatten_nil, or_true, true_or)
      by_cases hz : [v1, v2, v3] = [0, 0, 0]
      · wide_open with (decide_eq_true hz, List.flatten_cons, List.flatten_nil, or_true, true_or)
        exact h [1, 0, 0] a b rfl ⟨1, by simp, by decide⟩ (fun x hx => by
          simp only [List.mem_cons, List.not_mem_nil, or_false] at hx
          rcases hx with rfl | rfl | rfl
          · exact Bd.lit (by decide)
          all_goals exact Bd.zero)
      · wide_open with (decide_eq_false hz, or_true, true_or)
        refine hP _ _ ?_; clear hP
        wide_open with (if_true, if_true)
        refine h [v1, v2, v3] a b rfl ?_ (by simp only [List.mem_cons, List.not_mem_nil, or_false, forall_eq_or_imp, forall_eq]; exact ⟨b1, b2, b3⟩)
        refine Classical.byContradiction fun z => hz ?_
        simp only [List.mem_cons, List.not_mem_nil, or_false, not_exists, not_and, Classical.not_not] at z
        rw [z v1 (by simp), z v2 (by simp), z v3 (by simp)]
    · unfold w_l_row
      refine seqI fun P hP => ?_
      wide_open with (rgR_succ, rgR_zero, lcL, sp_l_number)
      intro v1 b1 v2 b2 v3 b3 v4 a b b4
      refine hP _ _ ?_; clear hP
      have e0 : (v1 == 0 && (v2 == 0 && (v3 == 0 && v4 == 0))) = decide ([v1, v2, v3, v4] = [0, 0, 0, 0]) := by
        simp only [List.cons.injEq, and_true, Bool.decide_and]; rfl
      refine seqI fun P hP => ?_
      wide_open with (e0, List.flatten_cons, List.flatten_nil, or_true, true_or)
      by_cases hz : [v1, v2, v3, v4] = [0, 0, 0, 0]
      · wide_open with (decide_eq_true hz, List.flatten_cons, List.flatten_nil, or_true, true_or)
        exact h [1, 0, 0, 0] a b rfl ⟨1, by simp, by decide⟩ (fun x hx => by
          simp only [List.mem_cons, List.not_mem_nil, or_false] at hx
          rcases hx with rfl | rfl | rfl | rfl
          · exact Bd.lit (by decide)
          all_goals exact Bd.zero)
      · wide_open with (decide_eq_false hz, or_true, true_or)
        refine hP _ _ ?_; clear hP
        wide_open with (if_true, if_true)
        refine h [v1, v2, v3, v4] a b rfl ?_ (by simp only [List.mem_cons, List.not_mem_nil, or_false, forall_eq_or_imp, forall_eq]; exact ⟨b1, b2, b3, b4⟩)
        refine Classical.byContradiction fun z => hz ?_
        simp only [List.mem_cons, List.not_mem_nil, or_false, not_exists, not_and, Classical.not_not] at z
        rw [z v1 (by simp), z v2 (by simp), z v3 (by simp), z v4 (by simp)]
  · exact h.elim
/-- slots: 0 _law_purse_here, 1 _law_k -/
def w_l_point : PS1 :=
  (wRet (wFn fTup (wCons (wLc (wRng1 (wCons (wC (.int 3)) wNil)) (fNm 1) wYes (wCall sp_l_lowest 2 (wCons (wBin pSub (wCall sp_l_draw 2 (wCons (wVar 0) (wCons (wC (.int 19)) wNil))) (wC (.int 9))) (wCons (wBin pAddI (wC (.int 1)) (wCall sp_l_draw 2 (wCons (wVar 0) (wCons (wC (.int 5)) wNil)))) wNil))) [1]) wNil)))
def sp_l_point : SpZ := fun rs S W => match rs, S with
  | [.loc 0], [.lst [.int _, .int _]] => ∀ (p : Pt) (a b : Int), (∀ q ∈ qsOf p, Bd 40 q.num ∧ Bd 7 (q.den : Int)) → W (.d (ptD p)) [.lst [.int a, .int b]]
  | _, _ => False
theorem rd_l_point : ∀ rs S W, rs.length = 1 → sp_l_point rs S W → w_l_point { nx := fun _ S1 => retN S.length W (.d .non) S1, rt := retN S.length W } (start1 2 rs) S := by
  intro rs S W _ h
  unfold sp_l_point at h
  split at h
  · rename_i a b _
    unfold w_l_point
    wide_open with (if_true, if_true)
    rw [show rgR 0 3 = [.d (.int 0), .d (.int 1), .d (.int 2)] from rfl]
    wide_open with (lcL, sp_l_draw, sp_l_lowest)
    have bb : ∀ {n : Nat} {v : Int}, 7 ≤ n → -20 ≤ v → v ≤ 20 → Bd n v := fun {n v} hn h1 h2 => (Bd.of_le (n := 7) (b := 20) (by omega) h2 (by decide)).mono hn
    have one : ∀ {u v : Int}, 0 ≤ u → u < 19 → 0 ≤ v → v < 5 → Bd 40 ((((u - 9 : Int) : Rat) / ((1 + v : Int) : Rat)).num) ∧ Bd 7 (((((u - 9 : Int) : Rat) / ((1 + v : Int) : Rat)).den : Nat) : Int) := fun {u v} u0 u1 v0 v1 => BQ.parts (by omega) (show Bd 20 (u - 9) from bb (by decide) (by omega) (by omega)) (show Bd 7 (1 + v) from bb (by decide) (by omega) (by omega))
    refine fun u1 h1 h2 v1 h3 h4 => ⟨by omega, bb (by decide) (by omega) (by omega), fun u2 h5 h6 v2 h7 h8 => ⟨by omega, bb (by decide) (by omega) (by omega), fun u3 h9 h10 v3 a b h11 h12 => ⟨by omega, bb (by decide) (by omega) (by omega), ?_⟩⟩⟩
    refine h (_, _, _) a b fun q hq => ?_
    simp only [qsOf, List.mem_cons, List.not_mem_nil, or_false] at hq
    rcases hq with rfl | rfl | rfl
    · exact one h1 h2 h3 h4
    · exact one h5 h6 h7 h8
    · exact one h9 h10 h11 h12
  · exact h.elim
/-- slots: 0 self, 1 name -/
def w_Body_to : PX1 :=
  (xL (wDrop (wwMeth "Body" "come_to" sp_Body_come_to 3 (wVar 0) (wCons (wwMeth "Body" "marked" sp_Body_marked 2 (wVar 0) (wCons (wVar 1) wNil)) (wCons (wFld "Body" "kept" (wVar 0)) wNil)))))
def sp_Body_to : SpW := fun rs S W _ => match rs with
  | [.ad c, .d (.str x)] => ∃ (l : List Nat) (own : List Nat) (s : Bs) (bs as : List Bs) (f : List Int), x = Tx l ∧ l.length ≤ 16777000 ∧ BodyAt own S c s bs as ∧ bs.length ≤ 10000 ∧ nameL l = true ∧ getKp s.2 x = some f ∧ ∀ (own' : List Nat) (S' : Sto), OwnX own own' S → FrB own S S' → BodyAt own' S' c (f, s.2) (bs ++ [s]) [] → W (.d .non) S'
  | _ => False
theorem rd_Body_to : ∀ rs S W XW, rs.length = 2 → sp_Body_to rs S W XW → w_Body_to { n := { nx := fun _ S1 => W (.d .non) S1, rt := W }, ex := fun x _ S1 => XW x S1 } (start1 2 rs) S := by
  intro rs S W XW _ h
  unfold sp_Body_to at h
  split at h
  · rename_i c x _
    obtain ⟨l, own, s, bs, as, f, rfl, ll, bd, bl, nm, gk, h⟩ := h
    obtain ⟨n, nb, na, k, b, d, ps, qs, o1, o2, o3, o4, h2, h3, h4, h5, h6, h7⟩ := id bd.ex
    unfold w_Body_to
    wide_open with (sp_Body_marked, if_true)
    refine ⟨bd.meth (by decide +kernel) (by decide +kernel) (by decide +kernel) (by decide +kernel), bd.meth (by decide +kernel) (by decide +kernel) (by decide +kernel) (by decide +kernel), l, own, s, bs, as, rfl, ll, bd, fun e => (by rw [nm] at e; cases e), fun _ e => (by rw [gk] at e; cases e), fun _ g e => ?_⟩
    rw [gk] at e
    cases e
    wide_open with (if_true, if_true)
    refine ⟨n, _, _, h2, bdF_kept, ?_⟩
    wide_open with (sp_Body_come_to, if_true)
    exact ⟨own, s, (f, s.2), bs, as, rfl, bd, h5, bl, h⟩
  · exact h.elim
/-- slots: 0 self, 1 other -/
def w_Body_twin : PX1 :=
  (xSeq (xL (wSet 1 (wMk0 "Body" sp_Body___init__)))
  (xSeq (xL (wStF "Body" "here" (wVar 1) (wFld "Body" "here" (wVar 0))))
  (xSeq (xL (wStF "Body" "kept" (wVar 1) (wFld "Body" "kept" (wVar 0))))
  (xSeq (xL (wStF "Body" "behind" (wVar 1) (wFn fCpLa (wCons (wFld "Body" "behind" (wVar 0)) wNil))))
  (xSeq (xL (wStF "Body" "ahead" (wVar 1) (wFn fCpLa (wCons (wFld "Body" "ahead" (wVar 0)) wNil))))
  (xL (wRet (wVar 1))))))))
def sp_Body_twin : SpW := fun rs S W _ => match rs with
  | [.ad c] => ∃ (own : List Nat) (s : Bs) (bs as : List Bs), BodyAt own S c s bs as ∧ ∀ (c2 : Addr) (own2 : List Nat) (S' : Sto), OwnX [] own2 S → FrB [] S S' → BodyAt own2 S' c2 s bs as → W (.ad c2) S'
  | _ => False
theorem rd_Body_twin : ∀ rs S W XW, rs.length = 1 → sp_Body_twin rs S W XW → w_Body_twin { n := { nx := fun _ S1 => W (.d .non) S1, rt := W }, ex := fun x _ S1 => XW x S1 } (start1 2 rs) S := by
  intro rs S W XW _ h
  unfold sp_Body_twin at h
  split at h
  · rename_i c _
    obtain ⟨own, s, bs, as, bd, h⟩ := h
    obtain ⟨n, nb, na, k0, b, d, ps, qs, o1, o2, o3, o4, h2, h3, h4, h5, h6, h7⟩ := id bd.ex
    unfold w_Body_twin
    refine xseqI fun P hP => ?_
    wide_open with (sp_Body___init__, if_true)
    refine fun c2 => ⟨S, rfl, fun S1 pr bd2 => ?_⟩
    have fr0 : FrB [] S S1 := ⟨by have := congrArg List.length pr; rw [List.length_take] at this; omega, fun i o e _ => gpre pr e⟩
    obtain ⟨m, mb, ma, k2, b2, d2, ps2, qs2, u1, u2, u3, u4, g2, g3, g4, g5, g6, g7⟩ := bd2.ex
    have hm : S.length ≤ m := by simp only [List.mem_cons, List.not_mem_nil, or_false] at u1; omega
    clear bd2 u1 u2 u3 u4 g3 g4 g5 g6 g7 pr
    refine hP _ _ ?_; clear hP
    have ml := get_len g2
    -- here
    refine xseqI fun P hP => ?_
    wide_open with (if_true, if_true)
    refine ⟨n, _, _, fr0.2 _ _ h2 (.inl (by simp)), bdF_here, ?_⟩
    wide_open with (if_true, if_true)
    refine ⟨m, _, g2, (by rw [bdF_len]; decide), ?_⟩
    rw [putB_here]
    refine hP _ _ ?_; clear hP
    have fr0 := fr0.set (.inr hm) g2 (by simp) (.ob c2 "Body" (bdF (foD s.1) k2 b2 d2))
    have g2 := gput (x := O.ob c2 "Body" (bdF (foD s.1) k2 b2 d2)) g2
    generalize S1.set m (.ob c2 "Body" (bdF (foD s.1) k2 b2 d2)) = S1 at *
    -- kept
    refine xseqI fun P hP => ?_
    wide_open with (if_true, if_true)
    refine ⟨n, _, _, fr0.2 _ _ h2 (.inl (by simp)), bdF_kept, ?_⟩
    wide_open with (if_true, if_true)
    refine ⟨m, _, g2, (by rw [bdF_len]; decide), ?_⟩
    rw [putB_kept]
    refine hP _ _ ?_; clear hP
    have fr1 := fr0.set (.inr hm) g2 (by simp) (.ob c2 "Body" (bdF (foD s.1) k0 b2 d2))
    have g2 := gput (x := O.ob c2 "Body" (bdF (foD s.1) k0 b2 d2)) g2
    generalize S1.set m (.ob c2 "Body" (bdF (foD s.1) k0 b2 d2)) = S2 at *
    -- behind
    refine xseqI fun P hP => ?_
    wide_open with (if_true, if_true)
    refine ⟨n, _, _, fr1.2 _ _ h2 (.inl (by simp)), bdF_behind, ?_⟩
    wide_open with (if_true, if_true)
    refine ⟨nb, _, fr1.2 _ _ h3 (.inl (by simp)), fun b3 => ⟨m, _, gapp g2, (by rw [bdF_len]; decide), ?_⟩⟩
    rw [putB_behind]
    refine hP _ _ ?_; clear hP
    have ml2 := get_len g2
    have fr2 := (fr1.app [O.la b3 (psR ps)]).set (.inr hm) (gapp g2) (by simp) (.ob c2 "Body" (bdF (foD s.1) k0 b3 d2))
    have eb : ((S2 ++ [O.la b3 (psR ps)]).set m (.ob c2 "Body" (bdF (foD s.1) k0 b3 d2)))[S2.length]? = some (.la b3 (psR ps)) := gset List.getElem?_concat_length (by omega)
    have g2 := gput (x := O.ob c2 "Body" (bdF (foD s.1) k0 b3 d2)) (gapp (Y := [O.la b3 (psR ps)]) g2)
    have lb1 := fr1.1
    generalize hkb : S2.length = kb at *
    have lb2 := get_len eb
    generalize (S2 ++ [O.la b3 (psR ps)]).set m (.ob c2 "Body" (bdF (foD s.1) k0 b3 d2)) = S3 at *
    -- ahead
    refine xseqI fun P hP => ?_
    wide_open with (if_true, if_true)
    refine ⟨n, _, _, fr2.2 _ _ h2 (.inl (by simp)), bdF_ahead, ?_⟩
    wide_open with (if_true, if_true)
    refine ⟨na, _, fr2.2 _ _ h4 (.inl (by simp)), fun d3 => ⟨m, _, gapp g2, (by rw [bdF_len]; decide), ?_⟩⟩
    rw [putB_ahead]
    refine hP _ _ ?_; clear hP
    have ml3 := get_len g2
    have fr3 := (fr2.app [O.la d3 (psR qs)]).set (.inr hm) (gapp g2) (by simp) (.ob c2 "Body" (bdF (foD s.1) k0 b3 d3))
    have ed : ((S3 ++ [O.la d3 (psR qs)]).set m (.ob c2 "Body" (bdF (foD s.1) k0 b3 d3)))[S3.length]? = some (.la d3 (psR qs)) := gset List.getElem?_concat_length (by omega)
    have eb := gset (x := O.ob c2 "Body" (bdF (foD s.1) k0 b3 d3)) (gapp (Y := [O.la d3 (psR qs)]) eb) (show m ≠ kb by omega)
    have g2 := gput (x := O.ob c2 "Body" (bdF (foD s.1) k0 b3 d3)) (gapp (Y := [O.la d3 (psR qs)]) g2)
    have ld1 := fr2.1
    generalize hkd : S3.length = kd at *
    have ld2 := get_len ed
    generalize (S3 ++ [O.la d3 (psR qs)]).set m (.ob c2 "Body" (bdF (foD s.1) k0 b3 d3)) = S4 at *
    wide_open with (if_true, if_true)
    refine h c2 [m, kb, kd] S4 (fun i hi => .inr (by simp only [List.mem_cons, List.not_mem_nil, or_false] at hi; omega)) fr3 ⟨⟨m, kb, kd, k0, b3, d3, ps, qs, by simp, by simp, by simp, by omega, g2, eb, ed, h5.fr fr3, h6.fr fr3, h7.fr fr3⟩, fun i hi => ?_⟩
    simp only [List.mem_cons, List.not_mem_nil, or_false] at hi
    rcases hi with rfl | rfl | rfl
    · exact get_len g2
    · exact get_len eb
    · exact get_len ed
  · exact h.elim
/-- slots: 0 self, 1 other -/
def w_Chain_twin : PX1 :=
  (xSeq (xL (wSet 1 (wMk0 "Chain" sp_Chain___init__)))
  (xSeq (xL (wStF "Chain" "rows" (wVar 1) (wAtL (wFn fListA (wCons (wFld "Chain" "rows" (wVar 0)) wNil)))))
  (xSeq (xL (wStF "Chain" "behind" (wVar 1) (wFn fCpLa (wCons (wFld "Chain" "behind" (wVar 0)) wNil))))
  (xSeq (xL (wStF "Chain" "ahead" (wVar 1) (wFn fCpLa (wCons (wFld "Chain" "ahead" (wVar 0)) wNil))))
  (xL (wRet (wVar 1)))))))
def sp_Chain_twin : SpW := fun rs S W _ => match rs with
  | [.ad c] => ∃ (q : Nat → Nat) (x y : Nat) (js : Js) (bs as : List Js), ChQ q x S c js bs as ∧ ∀ (c2 : Addr) (q' : Nat → Nat) (S' : Sto), ExQ S q q' → FrB [] S S' → ChQ q' y S' c2 js bs as → W (.ad c2) S'
  | _ => False
theorem rd_Chain_twin : ∀ rs S W XW, rs.length = 1 → sp_Chain_twin rs S W XW → w_Chain_twin { n := { nx := fun _ S1 => W (.d .non) S1, rt := W }, ex := fun x _ S1 => XW x S1 } (start1 2 rs) S := by
  intro rs S W XW _ h
  unfold sp_Chain_twin at h
  split at h
  · rename_i c _
    obtain ⟨q, x, y, js, bs, as, ch, h⟩ := h
    obtain ⟨n, nb, na, a, b, d, ps, qs, o1, o2, o3, o4, h2, h3, h4, h5, h6, h7⟩ := id ch.ex
    unfold w_Chain_twin
    refine xseqI fun P hP => ?_
    wide_open with (sp_Chain___init__, if_true)
    refine fun c2 => ⟨S, rfl, fun S1 pr _ ch2 => ?_⟩
    replace ch2 := ch2 (fun i => if i = S.length + 1 then 9 else if S.length ≤ i then 1 else 0) (if_pos rfl) (by simp) (by simp)
    have fr0 : FrB [] S S1 := ⟨by have := congrArg List.length pr; rw [List.length_take] at this; omega, fun i o e _ => gpre pr e⟩
    obtain ⟨m, mb, ma, a2, b2, d2, ps2, qs2, u1, u2, u3, u4, g2, g3, g4, g5, g6, g7⟩ := ch2.ex
    have hm : S.length ≤ m := by
      rcases Nat.lt_or_ge m S.length with l | l
      · exact absurd u1 (by rw [if_neg (by omega), if_neg (by omega), if_neg (by omega), if_pos (Nat.le_refl _)]; decide)
      · exact l
    clear ch2 u1 u2 u3 u4 g3 g4 g5 g6 g7 pr
    refine hP _ _ ?_; clear hP
    have ml := get_len g2
    -- rows
    obtain ⟨nr, nq, h5⟩ := h5
    refine xseqI fun P hP => ?_
    wide_open with (if_true, if_true)
    refine ⟨n, _, _, fr0.2 _ _ h2 (.inl (by simp)), chF_rows, ?_⟩
    wide_open with (if_true, if_true)
    refine ⟨nr, _, fr0.2 _ _ h5 (.inl (by simp)), fun r2 => ⟨m, _, gapp g2, (by rw [chF_len]; decide), ?_⟩⟩
    rw [putR_rows]
    refine hP _ _ ?_; clear hP
    have fr1 := (fr0.app [O.la r2 ((jsD js).map R.d)]).set (.inr hm) (gapp g2) (by simp) (.ob c2 "Chain" (chF r2 b2 d2))
    have er : ((S1 ++ [O.la r2 ((jsD js).map R.d)]).set m (.ob c2 "Chain" (chF r2 b2 d2)))[S1.length]? = some (.la r2 ((jsD js).map R.d)) := gset List.getElem?_concat_length (by omega)
    have g2 := gput (x := O.ob c2 "Chain" (chF r2 b2 d2)) (gapp (Y := [O.la r2 ((jsD js).map R.d)]) g2)
    have lr : S.length ≤ S1.length := fr0.1
    generalize hkr : S1.length = kr at *
    have lr2 := get_len er
    generalize (S1 ++ [O.la r2 ((jsD js).map R.d)]).set m (.ob c2 "Chain" (chF r2 b2 d2)) = S2 at *
    -- behind
    refine xseqI fun P hP => ?_
    wide_open with (if_true, if_true)
    refine ⟨n, _, _, fr1.2 _ _ h2 (.inl (by simp)), chF_behind, ?_⟩
    wide_open with (if_true, if_true)
    refine ⟨nb, _, fr1.2 _ _ h3 (.inl (by simp)), fun b3 => ⟨m, _, gapp g2, (by rw [chF_len]; decide), ?_⟩⟩
    rw [putR_behind]
    refine hP _ _ ?_; clear hP
    have ml2 := get_len g2
    have fr2 := (fr1.app [O.la b3 (ps.map R.ad)]).set (.inr hm) (gapp g2) (by simp) (.ob c2 "Chain" (chF r2 b3 d2))
    have eb : ((S2 ++ [O.la b3 (ps.map R.ad)]).set m (.ob c2 "Chain" (chF r2 b3 d2)))[S2.length]? = some (.la b3 (ps.map R.ad)) := gset List.getElem?_concat_length (by omega)
    have er := gset (x := O.ob c2 "Chain" (chF r2 b3 d2)) (gapp (Y := [O.la b3 (ps.map R.ad)]) er) (show m ≠ kr by omega)
    have g2 := gput (x := O.ob c2 "Chain" (chF r2 b3 d2)) (gapp (Y := [O.la b3 (ps.map R.ad)]) g2)
    generalize hkb : S2.length = kb at *
    have lb2 := get_len eb
    generalize (S2 ++ [O.la b3 (ps.map R.ad)]).set m (.ob c2 "Chain" (chF r2 b3 d2)) = S3 at *
    -- ahead
    refine xseqI fun P hP => ?_
    wide_open with (if_true, if_true)
    refine ⟨n, _, _, fr2.2 _ _ h2 (.inl (by simp)), chF_ahead, ?_⟩
    wide_open with (if_true, if_true)
    refine ⟨na, _, fr2.2 _ _ h4 (.inl (by simp)), fun d3 => ⟨m, _, gapp g2, (by rw [chF_len]; decide), ?_⟩⟩
    rw [putR_ahead]
    refine hP _ _ ?_; clear hP
    have ml3 := get_len g2
    have fr3 := (fr2.app [O.la d3 (qs.map R.ad)]).set (.inr hm) (gapp g2) (by simp) (.ob c2 "Chain" (chF r2 b3 d3))
    have ed : ((S3 ++ [O.la d3 (qs.map R.ad)]).set m (.ob c2 "Chain" (chF r2 b3 d3)))[S3.length]? = some (.la d3 (qs.map R.ad)) := gset List.getElem?_concat_length (by omega)
    have er := gset (x := O.ob c2 "Chain" (chF r2 b3 d3)) (gapp (Y := [O.la d3 (qs.map R.ad)]) er) (show m ≠ kr by omega)
    have eb := gset (x := O.ob c2 "Chain" (chF r2 b3 d3)) (gapp (Y := [O.la d3 (qs.map R.ad)]) eb) (show m ≠ kb by omega)
    have g2 := gput (x := O.ob c2 "Chain" (chF r2 b3 d3)) (gapp (Y := [O.la d3 (qs.map R.ad)]) g2)
    generalize hkd : S3.length = kd at *
    have ld2 := get_len ed
    generalize (S3 ++ [O.la d3 (qs.map R.ad)]).set m (.ob c2 "Chain" (chF r2 b3 d3)) = S4 at *
    obtain ⟨q', ex, qm, qr, qb, qd⟩ : ∃ q' : Nat → Nat, ExQ S q q' ∧ q' m = y ∧ q' kr = 9 ∧ q' kb = y ∧ q' kd = y := ⟨fun i => if i < S.length then q i else if i = kr then 9 else y, fun i hi => if_pos hi, by dsimp only; rw [if_neg (by omega), if_neg (by omega)], by dsimp only; rw [if_neg (by omega), if_pos rfl], by dsimp only; rw [if_neg (by omega), if_neg (by omega)], by dsimp only; rw [if_neg (by omega), if_neg (by omega)]⟩
    have keep : ∀ {a : Addr} {js : Js}, LaQ q S a js → LaQ q' S4 a js := fun {a js} ⟨i, z, e⟩ => ⟨i, (ex i (get_len e)).trans z, fr3.2 _ _ e (.inl (by simp))⟩
    wide_open with (if_true, if_true)
    exact h c2 q' S4 ex fr3 ⟨⟨m, kb, kd, r2, b3, d3, ps, qs, qm, qb, qd, by omega, g2, eb, ed, ⟨kr, qr, er⟩, Paired.mapP h6 fun _ _ z => keep z, Paired.mapP h7 fun _ _ z => keep z⟩⟩
  · exact h.elim
/-- slots: 0 four, 1 found, 2 first, 3 number -/
def w_plain : PS1 :=
  (wSeq (wSet 1 (wCall sp_plain_row 1 (wCons (wVar 0) wNil)))
  (wSeq (wSet 2 (wBin pIx (wLc (wIt (wVar 1)) (fNm 3) (wTest (wBin pNe (wVar 3) (wC (.int 0)))) (wVar 3) [3]) (wC (.int 0))))
  (wSeq (wIf (wTest (wBin pLt (wVar 2) (wC (.int 0)))) (wSet 1 (wFn fTup (wCons (wLc (wIt (wVar 1)) (fNm 3) wYes (wUn pNeg (wVar 3)) [3]) wNil))) wNext)
  (wRet (wVar 1)))))
def sp_plain : SpZ := spPln
theorem rd_plain : ∀ rs S W, rs.length = 1 → sp_plain rs S W → w_plain { nx := fun _ S1 => retN S.length W (.d .non) S1, rt := retN S.length W } (start1 4 rs) S := by
  intro rs S W _ h
  unfold sp_plain spPln at h
  split at h
  · obtain ⟨ns, rfl, hz, hb, hl, h⟩ := h
    wide_open with (w_plain, sp_plain_row)
    refine ⟨ns, rfl, hz, hb, hl, by simp [prow]; omega, lcL_intsF (fun n => !(n == 0)) (by simp) trivial (fun n hn => ⟨_, rfl, fun W1 h => ?_, fun _ W1 h => ?_⟩) ?_⟩
    · wide_open with (if_true, if_true)
      exact h
    · wide_open with (if_true, if_true)
      exact h
    · obtain ⟨y, ys, e, h0, hf⟩ := first_nz (prow_nz hz)
      rw [fs_prow hz] at hf
      rw [e]
      wide_open with (if_true, if_true)
      rw [pln_prow, hf] at h
      by_cases hy : y < 0
      · rw [if_pos hy] at h
        wide_open with (decide_eq_true hy, if_true)
        refine ⟨by simp [prow]; omega, lcL_ints (fun n => -n) (by simp) trivial (fun n hn => ⟨_, rfl, fun W1 h => h, fun W1 h => ?_⟩) ?_⟩
        · wide_open with (if_true, if_true)
          exact h
        · wide_open with (if_true, if_true)
          have e2 : (fun n : Int => -n) = fun n => -1 * n := by funext n; omega
          rw [e2]
          exact h
      · rw [if_neg hy] at h
        wide_open with (decide_eq_false hy, if_true)
        have e2 : (prow ns).map (1 * ·) = prow ns := by simp
        rw [e2] at h
        exact h
  · exact h.elim
/-- slots: 0 k, 1 l, 2 top, 3 bottom -/
def w_plain_setting : PS1 :=
  (wSeq (wUnp (fTp 2 (fCons (fNm 2) (fCons (fNm 3) fNil))) (wCall sp_plain_row 1 (wCons (wTup (wCons (wVar 0) (wCons (wVar 1) wNil))) wNil)))
  (wSeq (wIf (wOrT (wTest (wBin pLt (wVar 3) (wC (.int 0)))) (wAndT (wTest (wBin pEq (wVar 3) (wC (.int 0)))) (wTest (wBin pLt (wVar 2) (wC (.int 0)))))) (wRet (wTup (wCons (wUn pNeg (wVar 2)) (wCons (wUn pNeg (wVar 3)) wNil)))) wNext)
  (wRet (wTup (wCons (wVar 2) (wCons (wVar 3) wNil))))))
def sp_plain_setting : SpZ := spPset
theorem rd_plain_setting : ∀ rs S W, rs.length = 2 → sp_plain_setting rs S W → w_plain_setting { nx := fun _ S1 => retN S.length W (.d .non) S1, rt := retN S.length W } (start1 4 rs) S := by
  intro rs S W _ h
  unfold sp_plain_setting spPset at h
  split at h
  · rename_i k l _
    obtain ⟨hz, bk, bl, h⟩ := h
    unfold w_plain_setting
    refine seqI fun P hP => ?_
    wide_open with (sp_plain_row, if_true)
    refine ⟨[k, l], rfl, hz, by simp only [List.mem_cons, List.not_mem_nil, or_false, forall_eq_or_imp, forall_eq]; exact ⟨bk, bl⟩, by simp, ?_⟩
    have e : (prow [k, l]).map D.int = [.int (k / (gl [k, l] : Int)), .int (l / (gl [k, l] : Int))] := rfl
    rw [e]
    wide_open with (if_true, if_true)
    refine hP _ _ ?_; clear hP
    rw [pset_eq, gl_two] at h
    have g := gl_pos hz
    have dk := gl_dvd (xs := [k, l]) (x := k) (by simp)
    have dl := gl_dvd (xs := [k, l]) (x := l) (by simp)
    have hf : fs [l, k] = if (l / (gl [k, l] : Int)) < 0 ∨ ((l / (gl [k, l] : Int)) = 0 ∧ (k / (gl [k, l] : Int)) < 0) then -1 else 1 := by
      generalize (gl [k, l] : Nat) = g' at *
      obtain ⟨k', rfl⟩ := dk
      obtain ⟨l', rfl⟩ := dl
      rw [Int.mul_ediv_cancel_left _ (by omega), Int.mul_ediv_cancel_left _ (by omega)]
      have e := fs_mul (k := (g' : Int)) (by omega) (xs := [l', k']) (nz_swap (by
        obtain ⟨n, hn, h0⟩ := hz
        simp only [List.mem_cons, List.not_mem_nil, or_false] at hn
        rcases hn with rfl | rfl
        · exact ⟨k', by simp, fun h => by rw [h] at h0; simp at h0⟩
        · exact ⟨l', by simp, fun h => by rw [h] at h0; simp at h0⟩))
      rw [if_neg (by omega), Int.one_mul] at e
      refine e.trans ?_
      simp only [fs]
      by_cases h1 : l' = 0
      · subst h1
        by_cases h2 : k' = 0
        · subst h2; simp
        · simp [h2]
      · simp [h1]
    generalize k / (gl [k, l] : Int) = k' at *
    generalize l / (gl [k, l] : Int) = l' at *
    rw [hf] at h
    wide_open with (if_true, if_true)
    by_cases h1 : l' < 0
    · rw [if_pos (.inl h1)] at h
      wide_open with (decide_eq_true h1, if_true)
      have e : ∀ x : Int, -1 * x = -x := fun x => by omega
      rw [e, e] at h
      exact h
    · wide_open with (decide_eq_false h1, if_true)
      by_cases h2 : l' = 0
      · subst h2
        by_cases h3 : k' < 0
        · rw [if_pos (.inr ⟨rfl, h3⟩)] at h
          wide_open with (decide_eq_true h3, if_true)
          have e : ∀ x : Int, -1 * x = -x := fun x => by omega
          rw [e, e] at h
          exact h
        · rw [if_neg (by omega)] at h
          wide_open with (decide_eq_false h3, if_true)
          rw [Int.one_mul, Int.one_mul] at h
          exact h
      · rw [if_neg (by omega)] at h
        have e : (l' == 0) = false := by simpa using h2
        wide_open with (e, if_true)
        rw [Int.one_mul, Int.one_mul] at h
        exact h
  · exact h.elim
/-- slots: 0 point, 1 other, 2 a, 3 b -/
def w_put_on : PS1 :=
  (wRet (wFn fTup (wCons (wLc (wZip (wCons (wVar 0) (wCons (wVar 1) wNil))) (fTp 2 (fCons (fNm 2) (fCons (fNm 3) fNil))) wYes (wCall sp_added 2 (wCons (wVar 2) (wCons (wVar 3) wNil))) [2, 3]) wNil)))
def sp_put_on : SpZ := fun rs S W => match rs with
  | [.d x, .d y] => ∃ p q : Pt, x = ptD p ∧ y = ptD q ∧ (∀ z ∈ qsOf p, BQ 4500 z) ∧ (∀ z ∈ qsOf q, BQ 4500 z) ∧ W (.d (ptD (padd p q))) S
  | _ => False
theorem rd_put_on : ∀ rs S W, rs.length = 2 → sp_put_on rs S W → w_put_on { nx := fun _ S1 => retN S.length W (.d .non) S1, rt := retN S.length W } (start1 4 rs) S := by
  intro rs S W _ h
  unfold sp_put_on at h
  split at h
  · obtain ⟨p, q, rfl, rfl, hp, hq, h⟩ := h
    simp only [qsOf, List.mem_cons, List.not_mem_nil, or_false, forall_eq_or_imp, forall_eq] at hp hq
    unfold w_put_on
    have tw : ∀ (x y : Pt), ptD x = .tup [frD x.1, frD x.2.1, frD x.2.2] := fun _ _ => rfl
    rw [tw p q, tw q p]
    wide_open with (lcL, sp_added, spAdd)
    exact ⟨_, _, 4500, 4500, rfl, rfl, hp.1, hq.1, by decide, _, _, 4500, 4500, rfl, rfl, hp.2.1, hq.2.1, by decide, _, _, 4500, 4500, rfl, rfl, hp.2.2, hq.2.2, by decide, h⟩
  · exact h.elim
/-- slots: 0 one, 1 other -/
def w_then : PS1 :=
  (wRet (wCall sp_plain 1 (wCons (wCall sp_product 2 (wCons (wVar 1) (wCons (wVar 0) wNil))) wNil)))
def sp_then : SpZ := spThen
theorem rd_then : ∀ rs S W, rs.length = 2 → sp_then rs S W → w_then { nx := fun _ S1 => retN S.length W (.d .non) S1, rt := retN S.length W } (start1 2 rs) S := by
  intro rs S W _ h
  unfold sp_then spThen at h
  split at h
  · obtain ⟨a, b, rfl, rfl, ha, hb, za, zb, h1, h2, h⟩ := h
    wide_open with (w_then, sp_product, spProd, sp_plain, spPln)
    refine ⟨b, a, rfl, rfl, hb, ha, fun x hx => (h2 x hx).mono (by decide), fun x hx => (h1 x hx).mono (by decide), qmul b a, rfl, qmul_nz hb ha zb za, fun x hx => (qmul_bd h2 h1 x hx).mono (by decide), by rw [qmul_len hb ha]; decide, h⟩
  · exact h.elim
/-- slots: 0 way, 1 setting, 2 k, 3 l -/
def w_about : PS1 :=
  (wSeq (wUnp (fTp 2 (fCons (fNm 2) (fCons (fNm 3) fNil))) (wVar 1))
  (wRet (wCall sp_plain 1 (wCons (wTup (wCons (wVar 3) (wCons (wBin pMulI (wVar 2) (wBin pIx (wVar 0) (wC (.int 0)))) (wCons (wBin pMulI (wVar 2) (wBin pIx (wVar 0) (wC (.int 1)))) (wCons (wBin pMulI (wVar 2) (wBin pIx (wVar 0) (wC (.int 2)))) wNil))))) wNil))))
def sp_about : SpZ := spAbout
theorem rd_about : ∀ rs S W, rs.length = 2 → sp_about rs S W → w_about { nx := fun _ S1 => retN S.length W (.d .non) S1, rt := retN S.length W } (start1 4 rs) S := by
  intro rs S W _ h
  unfold sp_about spAbout at h
  split at h
  · obtain ⟨a, k, l, rfl, rfl, la, za, hz, ba, bk, bl, h⟩ := h
    have tb := abt_bd ba bk bl
    have tz := abt_nz za hz
    obtain ⟨p, q, r, rfl⟩ := three_of la
    simp only [List.mem_cons, List.not_mem_nil, or_false, forall_eq_or_imp, forall_eq] at ba
    wide_open with (w_about, sp_plain, spPln)
    exact ⟨mulOk bk ba.1 (by decide), mulOk bk ba.2.1 (by decide), mulOk bk ba.2.2 (by decide), abt [p, q, r] k l, rfl, tz, fun x hx => (tb x hx).mono (by decide), by rw [abt_len la]; decide, h⟩
  · exact h.elim
/-- slots: 0 self -/
def w_Body_stand : PX1 :=
  (xL (wRet (wCall sp_plain 1 (wCons (wFld "Body" "here" (wVar 0)) wNil))))
def sp_Body_stand : SpW := fun rs S W _ => match rs with
  | [.ad c] => ∃ (own : List Nat) (s : Bs) (bs as : List Bs), BodyAt own S c s bs as ∧ OkFr 5000 s.1 ∧ W (.d (foD (pln s.1))) S
  | _ => False
theorem rd_Body_stand : ∀ rs S W XW, rs.length = 1 → sp_Body_stand rs S W XW → w_Body_stand { n := { nx := fun _ S1 => W (.d .non) S1, rt := W }, ex := fun x _ S1 => XW x S1 } (start1 1 rs) S := by
  intro rs S W XW _ h
  unfold sp_Body_stand at h
  split at h
  · rename_i c _
    obtain ⟨own, s, bs, as, bd, f, h⟩ := h
    obtain ⟨n, nb, na, k0, b, d, ps, qs, o1, o2, o3, o4, h2, h3, h4, h5, h6, h7⟩ := id bd.ex
    unfold w_Body_stand
    wide_open with (if_true, if_true)
    refine ⟨n, _, _, h2, bdF_here, ?_⟩
    wide_open with (sp_plain, spPln)
    exact ⟨s.1, rfl, f.nz, fun x hx => (f.bd x hx).mono (by decide), by have := f.len; omega, h⟩
  · exact h.elim
/-- slots: 0 self, 1 way, 2 arm, 3 setting -/
def w_Chain_add : PX1 :=
  (xSeq (xIf (wTest (wBin pEq (wFn fLenA (wCons (wFld "Chain" "rows" (wVar 0)) wNil)) (wC (.int 6)))) (xRaise (PySem.Str.ofString "TooMany")) xNext)
  (xL (wDrop (wwMeth "Chain" "come_to" sp_Chain_come_to 2 (wVar 0) (wCons (wAtL (wBin pCatA (wFld "Chain" "rows" (wVar 0)) (wLst (wCons (wTup (wCons (wVar 1) (wCons (wVar 2) (wCons (wCall sp_plain_setting 2 (wCons (wBin pIx (wVar 3) (wC (.int 0))) (wCons (wBin pIx (wVar 3) (wC (.int 1))) wNil))) wNil)))) wNil)))) wNil)))))
def sp_Chain_add : SpW := fun rs S W XW => match rs with
  | [.ad c, .d x, .d y, .d z] => ∃ (q : Nat → Nat) (v : Nat) (js : Js) (bs as : List Js) (w : List Int) (p : Pt) (k l : Int), x = .tup (w.map D.int) ∧ y = ptD p ∧ z = .tup [.int k, .int l] ∧ v ≠ 9 ∧ ChQ q v S c js bs as ∧ js.length ≤ 6 ∧ bs.length ≤ 10000 ∧ (∃ n ∈ [k, l], n ≠ 0) ∧ Bd 9000 k ∧ Bd 9000 l ∧ (js.length = 6 → XW (PySem.Str.ofString "TooMany") S) ∧ (js.length < 6 → ∀ (q' : Nat → Nat) (S' : Sto), ExQ S q q' → FrQ q v S S' → ChQ q' v S' c (js ++ [(w, p, pset k l)]) (bs ++ [js]) [] → W (.d .non) S')
  | _ => False
theorem rd_Chain_add : ∀ rs S W XW, rs.length = 4 → sp_Chain_add rs S W XW → w_Chain_add { n := { nx := fun _ S1 => W (.d .non) S1, rt := W }, ex := fun x _ S1 => XW x S1 } (start1 4 rs) S := by
  intro rs S W XW _ h
  unfold sp_Chain_add at h
  split at h
  · rename_i c x y z _
    obtain ⟨q, v, js, bs, as, w, p, k, l, rfl, rfl, rfl, v9, ch, hl, hm, nz, bk, bl, hx, h⟩ := h
    obtain ⟨n, nb, na, a, b, d, ps, qs, o1, o2, o3, o4, h2, h3, h4, ⟨nr, nq, h5⟩, h6, h7⟩ := id ch.ex
    unfold w_Chain_add
    refine xseqI fun P hP => ?_
    wide_open with (if_true, if_true)
    refine ⟨n, _, _, h2, chF_rows, ?_⟩
    wide_open with (if_true, if_true)
    refine ⟨nr, _, h5, ?_⟩
    by_cases e6 : js.length = 6
    · wide_open with (List.length_map, e6)
      exact hx e6
    have be : ((js.length : Int) == 6) = false := by simpa using (show (js.length : Int) ≠ 6 by omega)
    wide_open with (List.length_map, be)
    refine hP _ _ ?_; clear hP
    wide_open with (if_true, if_true)
    refine ⟨⟨n, _, h2, chF_no (by decide +kernel) (by decide +kernel) (by decide +kernel)⟩, n, _, _, h2, chF_rows, ?_⟩
    wide_open with (sp_plain_setting, spPset)
    refine ⟨nz, bk, bl, ?_⟩
    wide_open with (if_true, if_true)
    refine ⟨nr, jsD js, h5, by simp; omega, fun r => ?_⟩
    wide_open with (sp_Chain_come_to, if_true)
    have ex := ex_colN S 9 q
    exact ⟨colN S.length 9 q, v, js, js ++ [(w, p, pset k l)], bs, as, v9, (ch.ext ex).app _, ⟨S.length, colN_ge (Nat.le_refl _), by simp [jsD, jtD]⟩, hm, fun q' S' e f ch' => h (by omega) q' S' (ex.trans e (by simp)) (((FrQ.refl (x := v)).app _).trans f ex) ch'⟩
  · exact h.elim
/-- slots: 0 self, 1 joint, 2 setting, 3 way, 4 arm, 5 old, 6 row -/
def w_Chain_bend : PX1 :=
  (xSeq (xL (wDrop (wwMeth "Chain" "look_at" sp_Chain_look_at 2 (wVar 0) (wCons (wVar 1) wNil))))
  (xSeq (xL (wUnp (fTp 3 (fCons (fNm 3) (fCons (fNm 4) (fCons (fNm 5) fNil)))) (wBin pIxA (wFld "Chain" "rows" (wVar 0)) (wVar 1))))
  (xSeq (xL (wSet 6 (wTup (wCons (wVar 3) (wCons (wVar 4) (wCons (wCall sp_plain_setting 2 (wCons (wBin pIx (wVar 2) (wC (.int 0))) (wCons (wBin pIx (wVar 2) (wC (.int 1))) wNil))) wNil))))))
  (xL (wDrop (wwMeth "Chain" "come_to" sp_Chain_come_to 2 (wVar 0) (wCons (wAtL (wBin pCat (wBin pCat (wSlA (wFld "Chain" "rows" (wVar 0)) wNo (wSome (wVar 1))) (wLst (wCons (wVar 6) wNil))) (wSlA (wFld "Chain" "rows" (wVar 0)) (wSome (wBin pAddI (wVar 1) (wC (.int 1)))) wNo))) wNil)))))))
def sp_Chain_bend : SpW := fun rs S W _ => match rs with
  | [.ad c, .d (.int i), .d z] => ∃ (q : Nat → Nat) (v : Nat) (js : Js) (bs as : List Js) (k l : Int), z = .tup [.int k, .int l] ∧ v ≠ 9 ∧ ChQ q v S c js bs as ∧ js.length ≤ 1000 ∧ bs.length ≤ 10000 ∧ (∃ n ∈ [k, l], n ≠ 0) ∧ Bd 9000 k ∧ Bd 9000 l ∧ (0 ≤ i ∧ i < js.length) ∧ (∀ (j : Nat) (w : List Int) (p : Pt) (s0 : List Int), i = (j : Int) → js[j]? = some (w, p, s0) → ∀ (q' : Nat → Nat) (S' : Sto), ExQ S q q' → FrQ q v S S' → ChQ q' v S' c (js.set j (w, p, pset k l)) (bs ++ [js]) [] → W (.d .non) S')
  | _ => False
theorem rd_Chain_bend : ∀ rs S W XW, rs.length = 3 → sp_Chain_bend rs S W XW → w_Chain_bend { n := { nx := fun _ S1 => W (.d .non) S1, rt := W }, ex := fun x _ S1 => XW x S1 } (start1 7 rs) S := by
  intro rs S W XW _ h
  unfold sp_Chain_bend at h
  split at h
  · rename_i c i z _
    obtain ⟨q, v, js, bs, as, k, l, rfl, v9, ch, hl, hm, nz, bk, bl, hx, h⟩ := h
    obtain ⟨n, nb, na, a, b, d, ps, qs, o1, o2, o3, o4, h2, h3, h4, ⟨nr, nq, h5⟩, h6, h7⟩ := id ch.ex
    unfold w_Chain_bend
    refine xseqI fun P hP => ?_
    wide_open with (sp_Chain_look_at, if_true)
    refine ⟨⟨n, _, h2, chF_no (by decide +kernel) (by decide +kernel) (by decide +kernel)⟩, q, v, js, bs, as, ch, fun k0 => ?_, fun k => absurd hx k⟩
    obtain ⟨j, rfl⟩ : ∃ j : Nat, i = (j : Int) := ⟨i.toNat, by omega⟩
    have jl : j < js.length := by omega
    obtain ⟨⟨w, p, s0⟩, hj⟩ : ∃ y, js[j]? = some y := ⟨_, List.getElem?_eq_getElem jl⟩
    replace h := h j w p s0 rfl hj
    refine hP _ _ ?_; clear hP
    refine xseqI fun P hP => ?_
    wide_open with (if_true, if_true)
    refine ⟨n, _, _, h2, chF_rows, ?_⟩
    wide_open with (if_true, if_true)
    have ix : ixR ((jsD js).map R.d) (j : Int) = some (.d (jtD (w, p, s0))) := by
      unfold ixR; rw [if_pos (by omega)]; simp [hj]
    refine ⟨nr, _, _, h5, ix, ?_⟩
    wide_open with (if_true, if_true)
    refine hP _ _ ?_; clear hP
    refine xseqI fun P hP => ?_
    wide_open with (sp_plain_setting, spPset)
    refine ⟨nz, bk, bl, ?_⟩
    wide_open with (if_true, if_true)
    refine hP _ _ ?_; clear hP
    wide_open with (if_true, if_true)
    refine ⟨⟨n, _, h2, chF_no (by decide +kernel) (by decide +kernel) (by decide +kernel)⟩, n, _, _, h2, chF_rows, ?_⟩
    wide_open with (if_true, if_true)
    refine ⟨nr, jsD js, h5, ?_⟩
    have c1 : cutD (jsD js) none (some (j : Int)) = (jsD js).take j := cutD_take j
    have c2 : cutD (jsD js) (some ((j : Int) + 1)) none = (jsD js).drop (j + 1) := by rw [show ((j : Int) + 1) = ((j + 1 : Nat) : Int) by omega]; exact cutD_drop (j + 1)
    rw [c1]
    refine ⟨by simp; omega, n, _, _, h2, chF_rows, ?_⟩
    wide_open with (if_true, if_true)
    refine ⟨nr, jsD js, h5, ?_⟩
    rw [c2]
    refine ⟨by simp; omega, fun r => ?_⟩
    wide_open with (sp_Chain_come_to, if_true)
    have ex := ex_colN S 9 q
    refine ⟨colN S.length 9 q, v, js, js.set j (w, p, pset k l), bs, as, v9, (ch.ext ex).app _, ⟨S.length, colN_ge (Nat.le_refl _), ?_⟩, hm, fun q' S' e f ch' => h q' S' (ex.trans e (by simp)) (((FrQ.refl (x := v)).app _).trans f ex) ch'⟩
    rw [List.set_eq_take_append_cons_drop, if_pos jl]
    simp [jsD, jtD, List.map_take, List.map_drop]
  · exact h.elim
/-- slots: 0 _law_purse_here, 1 _law_chain, 2 _law_way, 3 _law_many -/
def w_l_chain_deed : PX1 :=
  (xSeq (xL (wSet 2 (wCall sp_l_draw 2 (wCons (wVar 0) (wCons (wC (.int 4)) wNil)))))
  (xSeq (xL (wSet 3 (wFn fLen (wCons (wwMeth "Chain" "joints" sp_Chain_joints 1 (wVar 1) wNil) wNil))))
  (xL (wIf (wOrT (wTest (wBin pEq (wVar 3) (wC (.int 0)))) (wAndT (wTest (wBin pLt (wVar 2) (wC (.int 2)))) (wTest (wBin pLt (wVar 3) (wC (.int 6)))))) (wDrop (wwMeth "Chain" "add" sp_Chain_add 4 (wVar 1) (wCons (wCall sp_l_row 2 (wCons (wVar 0) (wCons (wC (.int 3)) wNil))) (wCons (wCall sp_l_point 1 (wCons (wVar 0) wNil)) (wCons (wTup (wCons (wBin pSub (wCall sp_l_draw 2 (wCons (wVar 0) (wCons (wC (.int 9)) wNil))) (wC (.int 4))) (wCons (wBin pAddI (wC (.int 1)) (wCall sp_l_draw 2 (wCons (wVar 0) (wCons (wC (.int 4)) wNil)))) wNil))) wNil))))) (wIf (wTest (wBin pEq (wVar 2) (wC (.int 2)))) (wDrop (wwMeth "Chain" "off" sp_Chain_off 1 (wVar 1) wNil)) (wDrop (wwMeth "Chain" "bend" sp_Chain_bend 3 (wVar 1) (wCons (wCall sp_l_draw 2 (wCons (wVar 0) (wCons (wVar 3) wNil))) (wCons (wTup (wCons (wBin pSub (wCall sp_l_draw 2 (wCons (wVar 0) (wCons (wC (.int 9)) wNil))) (wC (.int 4))) (wCons (wBin pAddI (wC (.int 1)) (wCall sp_l_draw 2 (wCons (wVar 0) (wCons (wC (.int 4)) wNil)))) wNil))) wNil)))))))))
def sp_l_chain_deed : SpW := fun rs S W _ => match rs with
  | [.loc 0, .ad c] => ∃ (q : Nat → Nat) (x : Nat) (t : StC) (a b : Int), S[0]? = some (.lst [.int a, .int b]) ∧ q 0 = 0 ∧ x ≠ 0 ∧ x ≠ 9 ∧ ChS q x S c t ∧ t.as.length ≤ 9000 ∧ t.bs.length ≤ 9000 ∧ OkCw t.js ∧ ∀ (js : Js) (q' : Nat → Nat) (S' : Sto) (a' b' : Int), OkCw js → ExQ S q q' → S'[0]? = some (.lst [.int a', .int b']) → (S.length ≤ S'.length ∧ ∀ (i : Nat) o, S[i]? = some o → i ≠ 0 → q i ≠ x → S'[i]? = some o) → ChS q' x S' c ⟨js, t.bs ++ [t.js], []⟩ → W (.d .non) S'
  | _ => False
theorem rd_l_chain_deed : ∀ rs S W XW, rs.length = 2 → sp_l_chain_deed rs S W XW → w_l_chain_deed { n := { nx := fun _ S1 => W (.d .non) S1, rt := W }, ex := fun x _ S1 => XW x S1 } (start1 4 rs) S := by
  intro rs S W XW _ h
  unfold sp_l_chain_deed at h
  split at h
  · rename_i c _
    obtain ⟨q, x, t, a, b, hp, q0, x0, x9, ch, al, bl, ok, h⟩ := h
    have jl := ok.len
    have st : ∀ (S1 : Sto) (a b : Int), ChS q x S1 c t → ChS q x (S1.set 0 (.lst [.int a, .int b])) c t := fun S1 a b h => h.fr (y := 0) (FrQ.refl.set (.inl q0) _) x0 (by decide)
    have fs : ∀ (S1 : Sto) (a b : Int), (S.length ≤ S1.length ∧ ∀ (i : Nat) o, S[i]? = some o → i ≠ 0 → q i ≠ x → S1[i]? = some o) → (S.length ≤ (S1.set 0 (.lst [.int a, .int b])).length ∧ ∀ (i : Nat) o, S[i]? = some o → i ≠ 0 → q i ≠ x → (S1.set 0 (.lst [.int a, .int b]))[i]? = some o) := fun S1 a b f => ⟨by rw [List.length_set]; exact f.1, fun i o e i0 z => gset (f.2 i o e i0 z) i0.symm⟩
    have mt : ∀ {S : Sto}, ChS q x S c t → ∀ m : Str, m ∈ [("joints" : Str), ("add" : Str), ("off" : Str), ("bend" : Str)] → ∃ (k : Nat) (fs : List (Str × R)), S[k]? = some (O.ob c "Chain" fs) ∧ fs.lookup m = none := fun ch m hm => by
      simp only [List.mem_cons, List.not_mem_nil, or_false] at hm
      rcases hm with rfl | rfl | rfl | rfl <;> exact ch.meth (by decide +kernel) (by decide +kernel) (by decide +kernel)
    have f0 : S.length ≤ S.length ∧ ∀ (i : Nat) o, S[i]? = some o → i ≠ 0 → q i ≠ x → S[i]? = some o := ⟨Nat.le_refl _, fun _ _ e _ _ => e⟩
    have bs31 : ∀ {v : Int}, -20 ≤ v → v ≤ 20 → Bd 31 v := fun {v} h1 h2 => (Bd.of_le (n := 7) (b := 20) (by omega) h2 (by decide)).mono (by decide)
    unfold w_l_chain_deed
    refine xseqI fun P hP => ?_
    wide_open with (sp_l_draw, hp)
    intro v a b v0 v4
    have ch := st _ a b ch
    have f0 := fs _ a b f0
    have hp := gput (x := .lst [.int a, .int b]) hp
    generalize S.set 0 (.lst [.int a, .int b]) = S1 at *
    refine hP _ _ ?_; clear hP
    refine xseqI fun P hP => ?_
    wide_open with (if_true, if_true)
    refine ⟨mt ch _ (by simp), ?_⟩
    unfold sp_Chain_joints
    refine ⟨q, x, t.js, t.bs, t.as, ch, ?_⟩
    wide_open with (if_true, if_true)
    have ch := ch.app [.lst (jsD t.js)]
    have f0 : S.length ≤ (S1 ++ [O.lst (jsD t.js)]).length ∧ ∀ (i : Nat) o, S[i]? = some o → i ≠ 0 → q i ≠ x → (S1 ++ [O.lst (jsD t.js)])[i]? = some o := ⟨by rw [List.length_append]; have := f0.1; omega, fun i o e i0 z => gapp (f0.2 i o e i0 z)⟩
    have hp := gapp (Y := [.lst (jsD t.js)]) hp
    generalize S1 ++ [O.lst (jsD t.js)] = S2 at *
    refine hP _ _ ?_; clear hP
    have lj : (((jsD t.js).length : Nat) : Int) = t.js.length := by rw [List.length_map]
    rw [lj]
    refine ifI fun Pb hb => ?_
    wide_open with (if_true, if_true)
    by_cases cA : t.js.length = 0 ∨ v < 2 ∧ t.js.length < 6
    · have l6 : t.js.length < 6 := by omega
      have goA : Pb true S2 := by
        refine hb _ _ ?_
        clear hb
        rw [if_pos rfl]
        refine dropI fun P0 h0 => methI rfl (mt ch _ (by simp)) fun P1 h1 => consI fun P2 h2 => ?_
        wide_open with (sp_l_row, hp)
        refine .inl fun w a b wl wz wb => ?_
        refine h2 _ _ ?_
        clear h2
        have ch := st _ a b ch
        have f0 := fs _ a b f0
        have hp := gput (x := .lst [.int a, .int b]) hp
        generalize S2.set 0 (.lst [.int a, .int b]) = S3 at *
        refine consI fun P2 h2 => ?_
        wide_open with (sp_l_point, hp)
        refine fun p a b arm => ?_
        refine h2 _ _ ?_
        clear h2
        have ch := st _ a b ch
        have f0 := fs _ a b f0
        have hp := gput (x := .lst [.int a, .int b]) hp
        generalize S3.set 0 (.lst [.int a, .int b]) = S4 at *
        refine consI fun P2 h2 => tupI fun P3 h3 => consI fun P4 h4 => ?_
        wide_open with (sp_l_draw, hp)
        refine fun k a b k0 k1 => ?_
        refine h4 _ _ ?_
        clear h4
        have ch := st _ a b ch
        have f0 := fs _ a b f0
        have hp := gput (x := .lst [.int a, .int b]) hp
        generalize S4.set 0 (.lst [.int a, .int b]) = S5 at *
        wide_open with (sp_l_draw, hp)
        refine fun l a b l0 l1 => ?_
        refine h3 _ _ ?_
        clear h3
        have ch := st _ a b ch
        have f0 := fs _ a b f0
        have hp := gput (x := .lst [.int a, .int b]) hp
        generalize S5.set 0 (.lst [.int a, .int b]) = S6 at *
        wide_open with (if_true, if_true)
        refine h2 _ _ ?_
        clear h2
        wide_open with (if_true, if_true)
        refine h1 _ _ ?_
        clear h1
        wide_open with (if_true, if_true)
        unfold sp_Chain_add
        have nz : ∃ n ∈ [k - 4, 1 + l], n ≠ 0 := ⟨1 + l, by simp, by omega⟩
        have bk : Bd 31 (k - 4) := bs31 (by omega) (by omega)
        have bl' : Bd 31 (1 + l) := bs31 (by omega) (by omega)
        refine ⟨q, x, t.js, t.bs, t.as, w, p, k - 4, 1 + l, rfl, rfl, rfl, x9, ch, jl, by omega, nz, bk.mono (by decide), bl'.mono (by decide), fun e => absurd e (by omega), fun _ q' S' ex fr ch' => ?_⟩
        refine h0 _ _ ?_
        wide_open with (if_true, if_true)
        have hp' := fr.2 _ _ hp (by rw [q0]; exact x0.symm)
        have ls := f0.1
        exact h _ q' S' a b (ok.snoc (okJw_new wl wz wb arm nz bk bl') l6) (fun i hi => ex i (by omega)) hp' ⟨Nat.le_trans f0.1 fr.1, fun i o e i0 z => fr.2 i o (f0.2 i o e i0 z) z⟩ ch'
      by_cases e0 : t.js.length = 0
      · rw [if_pos (beq_iff_eq.mpr (by omega))]
        exact goA
      · rw [if_neg (by rw [beq_iff_eq]; omega)]
        rcases cA with cA | ⟨v2, j6⟩
        · exact absurd cA e0
        rw [if_pos (decide_eq_true v2), decide_eq_true (show (t.js.length : Int) < 6 by omega)]
        exact goA
    · have goB : Pb false S2 := by
        refine hb _ _ ?_
        clear hb
        rw [if_neg (by decide)]
        have ne : t.js ≠ [] := fun e => cA (.inl (by rw [e]; rfl))
        refine ifI fun Pb hb => ?_
        wide_open with (if_true, if_true)
        refine hb _ _ ?_
        clear hb
        by_cases v2 : v = 2
        · rw [if_pos (beq_iff_eq.mpr v2)]
          wide_open with (if_true, if_true)
          refine ⟨mt ch _ (by simp), ?_⟩
          unfold sp_Chain_off
          refine ⟨q, x, t.js, t.bs, t.as, x9, ch, jl, by omega, ne, fun q' S' ex fr ch' => ?_⟩
          wide_open with (if_true, if_true)
          have hp' := fr.2 _ _ hp (by rw [q0]; exact x0.symm)
          have ls := f0.1
          exact h _ q' S' a b ok.drop (fun i hi => ex i (by omega)) hp' ⟨Nat.le_trans f0.1 fr.1, fun i o e i0 z => fr.2 i o (f0.2 i o e i0 z) z⟩ ch'
        · rw [if_neg (by rw [beq_iff_eq]; exact v2)]
          have lp := List.length_pos_iff.mpr ne
          refine dropI fun P0 h0 => methI rfl (mt ch _ (by simp)) fun P1 h1 => consI fun P2 h2 => ?_
          wide_open with (sp_l_draw, hp)
          refine ⟨by omega, fun j a b j0 j1 => ?_⟩
          refine h2 _ _ ?_
          clear h2
          have ch := st _ a b ch
          have f0 := fs _ a b f0
          have hp := gput (x := .lst [.int a, .int b]) hp
          generalize S2.set 0 (.lst [.int a, .int b]) = S4 at *
          refine consI fun P2 h2 => tupI fun P3 h3 => consI fun P4 h4 => ?_
          wide_open with (sp_l_draw, hp)
          refine fun k a b k0 k1 => ?_
          refine h4 _ _ ?_
          clear h4
          have ch := st _ a b ch
          have f0 := fs _ a b f0
          have hp := gput (x := .lst [.int a, .int b]) hp
          generalize S4.set 0 (.lst [.int a, .int b]) = S5 at *
          wide_open with (sp_l_draw, hp)
          refine fun l a b l0 l1 => ?_
          refine h3 _ _ ?_
          clear h3
          have ch := st _ a b ch
          have f0 := fs _ a b f0
          have hp := gput (x := .lst [.int a, .int b]) hp
          generalize S5.set 0 (.lst [.int a, .int b]) = S6 at *
          wide_open with (if_true, if_true)
          refine h2 _ _ ?_
          clear h2
          wide_open with (if_true, if_true)
          refine h1 _ _ ?_
          clear h1
          wide_open with (if_true, if_true)
          unfold sp_Chain_bend
          have nz : ∃ n ∈ [k - 4, 1 + l], n ≠ 0 := ⟨1 + l, by simp, by omega⟩
          have bk : Bd 31 (k - 4) := bs31 (by omega) (by omega)
          have bl' : Bd 31 (1 + l) := bs31 (by omega) (by omega)
          refine ⟨q, x, t.js, t.bs, t.as, k - 4, 1 + l, rfl, x9, ch, by omega, by omega, nz, bk.mono (by decide), bl'.mono (by decide), ⟨j0, j1⟩, fun jn w p s0 ej hj q' S' ex fr ch' => ?_⟩
          refine h0 _ _ ?_
          wide_open with (if_true, if_true)
          have hp' := fr.2 _ _ hp (by rw [q0]; exact x0.symm)
          have ls := f0.1
          have oj := ok.jt _ (List.mem_of_getElem? hj)
          exact h _ q' S' a b (ok.set (okJw_new oj.wl oj.wz oj.wb oj.arm nz bk bl') jn) (fun i hi => ex i (by omega)) hp' ⟨Nat.le_trans f0.1 fr.1, fun i o e i0 z => fr.2 i o (f0.2 i o e i0 z) z⟩ ch'
      rw [if_neg (by rw [beq_iff_eq]; omega)]
      by_cases v2 : v < 2
      · rw [if_pos (decide_eq_true v2), decide_eq_false (show ¬ (t.js.length : Int) < 6 by omega)]
        exact goB
      · rw [if_neg (by rw [decide_eq_false v2]; decide)]
        exact goB
  · exact h.elim
/-- slots: 0 _law_body -/
def w_l_body_told : PX1 :=
  (xL (wRet (wLst (wCons (wwMeth "Body" "stand" sp_Body_stand 1 (wVar 0) wNil) (wCons (wFzL (wwMeth "Body" "path" sp_Body_path 1 (wVar 0) wNil)) (wCons (wFzL (wwMeth "Body" "marks" sp_Body_marks 1 (wVar 0) wNil)) wNil))))))
def sp_l_body_told : SpW := fun rs S W _ => match rs with
  | [.ad c] => ∃ (own : List Nat) (s : Bs) (bs as : List Bs), BodyAt own S c s bs as ∧ OkFr 5000 s.1 ∧ s.2.length < 64 ∧ (s.2.map (·.1)).Nodup ∧ bs.length ≤ 10000 ∧ W (.loc S.length) (S ++ [.lst (bToldL s bs)])
  | _ => False
theorem rd_l_body_told : ∀ rs S W XW, rs.length = 1 → sp_l_body_told rs S W XW → w_l_body_told { n := { nx := fun _ S1 => retN S.length W (.d .non) S1, rt := retN S.length W }, ex := fun x _ S1 => XW x (S1.take S.length) } (start1 1 rs) S := by
  intro rs S W XW _ h
  unfold sp_l_body_told at h
  split at h
  · rename_i c _
    obtain ⟨own, s, bs, as, bd, f, l, nd, bl, h⟩ := h
    have mt : ∀ m : Str, m ∈ [("stand" : Str), ("marks" : Str), ("path" : Str)] → ∃ (k : Nat) (fs : List (Str × R)), S[k]? = some (O.ob c "Body" fs) ∧ fs.lookup m = none := fun m hm => by
      simp only [List.mem_cons, List.not_mem_nil, or_false] at hm
      rcases hm with rfl | rfl | rfl <;> exact bd.meth (by decide +kernel) (by decide +kernel) (by decide +kernel) (by decide +kernel)
    unfold w_l_body_told
    wide_open with (sp_Body_stand, if_true)
    refine ⟨mt _ (by simp), own, s, bs, as, bd, f, ?_⟩
    wide_open with (sp_Body_path, if_true)
    refine ⟨mt _ (by simp), own, s, bs, as, bd, bl, ?_⟩
    wide_open with (sp_Body_marks, if_true)
    refine ⟨mt _ (by simp), own, s, bs, as, bd, l, nd, ?_⟩
    wide_open with (if_true, if_true)
    exact h
  · exact h.elim
/-- slots: 0 self, 1 four -/
def w_Body_room : PX1 :=
  (xL (wDrop (wwMeth "Body" "come_to" sp_Body_come_to 3 (wVar 0) (wCons (wCall sp_then 2 (wCons (wFld "Body" "here" (wVar 0)) (wCons (wVar 1) wNil))) (wCons (wFld "Body" "kept" (wVar 0)) wNil)))))
def sp_Body_room : SpW := fun rs S W _ => match rs with
  | [.ad c, .d x] => ∃ (own : List Nat) (s : Bs) (g : List Int) (bs as : List Bs), x = foD g ∧ BodyAt own S c s bs as ∧ bs.length ≤ 10000 ∧ OkFr 2000 s.1 ∧ OkFr 2000 g ∧ ∀ (own' : List Nat) (S' : Sto), OwnX own own' S → FrB own S S' → BodyAt own' S' c (pln (qmul g s.1), s.2) (bs ++ [s]) [] → W (.d .non) S'
  | _ => False
theorem rd_Body_room : ∀ rs S W XW, rs.length = 2 → sp_Body_room rs S W XW → w_Body_room { n := { nx := fun _ S1 => W (.d .non) S1, rt := W }, ex := fun x _ S1 => XW x S1 } (start1 2 rs) S := by
  intro rs S W XW _ h
  unfold sp_Body_room at h
  split at h
  · rename_i c x _
    obtain ⟨own, s, g, bs, as, rfl, bd, hl, f, o, h⟩ := h
    obtain ⟨n, nb, na, k0, b, d, ps, qs, o1, o2, o3, o4, h2, h3, h4, h5, h6, h7⟩ := id bd.ex
    unfold w_Body_room
    wide_open with (if_true, if_true)
    refine ⟨⟨n, _, h2, bdF_no (by decide +kernel) (by decide +kernel) (by decide +kernel) (by decide +kernel)⟩, n, _, _, h2, bdF_here, ?_⟩
    wide_open with (sp_then, spThen)
    refine ⟨s.1, g, rfl, rfl, f.len, o.len, f.nz, o.nz, fun x hx => (f.bd x hx).mono (by decide), fun x hx => (o.bd x hx).mono (by decide), n, _, _, h2, bdF_kept, ?_⟩
    wide_open with (sp_Body_come_to, if_true)
    exact ⟨own, s, (pln (qmul g s.1), s.2), bs, as, rfl, bd, h5, hl, h⟩
  · exact h.elim
/-- slots: 0 self, 1 four -/
def w_Body_own : PX1 :=
  (xL (wDrop (wwMeth "Body" "come_to" sp_Body_come_to 3 (wVar 0) (wCons (wCall sp_then 2 (wCons (wVar 1) (wCons (wFld "Body" "here" (wVar 0)) wNil))) (wCons (wFld "Body" "kept" (wVar 0)) wNil)))))
def sp_Body_own : SpW := fun rs S W _ => match rs with
  | [.ad c, .d x] => ∃ (own : List Nat) (s : Bs) (g : List Int) (bs as : List Bs), x = foD g ∧ BodyAt own S c s bs as ∧ bs.length ≤ 10000 ∧ OkFr 2000 s.1 ∧ OkFr 2000 g ∧ ∀ (own' : List Nat) (S' : Sto), OwnX own own' S → FrB own S S' → BodyAt own' S' c (pln (qmul s.1 g), s.2) (bs ++ [s]) [] → W (.d .non) S'
  | _ => False
theorem rd_Body_own : ∀ rs S W XW, rs.length = 2 → sp_Body_own rs S W XW → w_Body_own { n := { nx := fun _ S1 => W (.d .non) S1, rt := W }, ex := fun x _ S1 => XW x S1 } (start1 2 rs) S := by
  intro rs S W XW _ h
  unfold sp_Body_own at h
  split at h
  · rename_i c x _
    obtain ⟨own, s, g, bs, as, rfl, bd, hl, f, o, h⟩ := h
    obtain ⟨n, nb, na, k0, b, d, ps, qs, o1, o2, o3, o4, h2, h3, h4, h5, h6, h7⟩ := id bd.ex
    unfold w_Body_own
    wide_open with (if_true, if_true)
    refine ⟨⟨n, _, h2, bdF_no (by decide +kernel) (by decide +kernel) (by decide +kernel) (by decide +kernel)⟩, n, _, _, h2, bdF_here, ?_⟩
    wide_open with (sp_then, spThen)
    refine ⟨g, s.1, rfl, rfl, o.len, f.len, o.nz, f.nz, fun x hx => (o.bd x hx).mono (by decide), fun x hx => (f.bd x hx).mono (by decide), n, _, _, h2, bdF_kept, ?_⟩
    wide_open with (sp_Body_come_to, if_true)
    exact ⟨own, s, (pln (qmul s.1 g), s.2), bs, as, rfl, bd, h5, hl, h⟩
  · exact h.elim
/-- slots: 0 self, 1 many, 2 stands, 3 places, 4 way, 5 arm, 6 setting -/
def w_Chain_frames : PX1 :=
  (xSeq (xL (wSet 2 (wLst (wCons (wC (.tup [.int 1, .int 0, .int 0, .int 0])) wNil))))
  (xSeq (xL (wSet 3 (wLst (wCons (wC (.tup [.tup [.int 0, .int 1], .tup [.int 0, .int 1], .tup [.int 0, .int 1]])) wNil))))
  (xSeq (xL (wFor (wIt (wSlA (wFld "Chain" "rows" (wVar 0)) wNo (wSome (wVar 1)))) (fTp 3 (fCons (fNm 4) (fCons (fNm 5) (fCons (fNm 6) fNil)))) (wSeq (wDrop (wApp (wVar 2) (wCall sp_then 2 (wCons (wCall sp_about 2 (wCons (wVar 4) (wCons (wVar 6) wNil))) (wCons (wBin pIx (wVar 2) (wUn pNeg (wC (.int 1)))) wNil)))))
  (wDrop (wApp (wVar 3) (wCall sp_put_on 2 (wCons (wBin pIx (wVar 3) (wUn pNeg (wC (.int 1)))) (wCons (wCall sp_turned 2 (wCons (wBin pIx (wVar 2) (wUn pNeg (wC (.int 1)))) (wCons (wVar 5) wNil))) wNil))))))))
  (xL (wRet (wTupR (wCons (wVar 2) (wCons (wVar 3) wNil))))))))
def sp_Chain_frames : SpW := fun rs S W _ => match rs with
  | [.ad c, .d (.int n)] => ∃ (m : Nat) (q : Nat → Nat) (v : Nat) (js : Js) (bs as : List Js), n = (m : Int) ∧ ChQ q v S c js bs as ∧ js.length ≤ 6 ∧ FrOk js ∧ W (.tr [.loc S.length, .loc (S.length + 1)]) (S ++ [.lst (stL js (min m js.length + 1)), .lst (plL js (min m js.length + 1))])
  | _ => False
theorem rd_Chain_frames : ∀ rs S W XW, rs.length = 2 → sp_Chain_frames rs S W XW → w_Chain_frames { n := { nx := fun _ S1 => W (.d .non) S1, rt := W }, ex := fun x _ S1 => XW x S1 } (start1 7 rs) S := by
  intro rs S W XW _ h
  unfold sp_Chain_frames at h
  split at h
  · rename_i c nn _
    obtain ⟨m, q, v, js, bs, as, rfl, ch, jl, fo, h⟩ := h
    obtain ⟨n, nb, na, a, b, d, ps, qs, o1, o2, o3, o4, h2, h3, h4, ⟨nr, nq, h5⟩, h6, h7⟩ := id ch.ex
    unfold w_Chain_frames
    refine xseqI fun P hP => ?_
    wide_open with (if_true, if_true)
    refine hP _ _ ?_; clear hP
    refine xseqI fun P hP => ?_
    wide_open with (if_true, if_true)
    refine hP _ _ ?_; clear hP
    refine xseqI fun P hP => ?_
    wide_open with (if_true, if_true)
    refine ⟨n, _, _, gapp h2, chF_rows, ?_⟩
    wide_open with (if_true, if_true)
    refine ⟨nr, jsD js, gapp h5, ?_⟩
    have c6 : cutD (jsD js) none (some (m : Int)) = jsD (js.take m) := by
      rw [cutD_take]; simp [jsD, List.map_take]
    rw [c6]
    rw [show List.map R.d (jsD (js.take m)) = (js.take m).map fun j => R.d (jtD j) by rw [List.map_map]; rfl]
    refine forL_ix (fun i r S1 => ∃ (y4 y5 y6 : Option R), S1 = S ++ [.lst (stL js (i + 1)), .lst (plL js (i + 1))] ∧ r = [some (.ad c), some (.d (.int m)), some (.loc S.length), some (.loc (S.length + 1)), y4, y5, y6]) ?_ ?_ ⟨_, _, _, rfl, rfl⟩
    · rintro i x hx r S1 ⟨y4, y5, y6, rfl, rfl⟩ M hM
      obtain ⟨⟨w, p, s⟩, hj, rfl⟩ := item_enc hx
      replace hj : js[i]? = some (w, p, s) := by
        rw [List.getElem?_take] at hj
        split at hj
        · exact hj
        · cases hj
      have il := (List.getElem?_eq_some_iff.mp hj).1
      obtain ⟨k, l, e, lw, zw, nz, bw, bk, bl, al, az, ab⟩ := fo.st i _ hj
      simp only at e
      subst e
      obtain ⟨t1, t2, t3⟩ := fo.tn i (by omega)
      obtain ⟨u1, u2, u3⟩ := fo.tn (i + 1) (by omega)
      have tb := fo.tb i _ hj
      obtain ⟨p1, p2⟩ := fo.pn i _ hj
      have ts := TN_succ hj
      have ps := PN_succ hj
      have g1 : getI (stL js (i + 1)) (-1) = some (foD (TN js i)) := by rw [stL_succ]; exact getI_lastX
      have g2 : getI (plL js (i + 1)) (-1) = some (ptD (PN js i)) := by rw [plL_succ]; exact getI_lastX
      have g3 : getI (stL js (i + 1) ++ [foD (TN js (i + 1))]) (-1) = some (foD (TN js (i + 1))) := getI_lastX
      have s1 : (stL js (i + 1)).length = i + 1 := by simp [stL]
      have s2 : (plL js (i + 1)).length = i + 1 := by simp [plL]
      have ea : pln (abt w k l) = abJ (w, p, [k, l]) := rfl
      refine ⟨trivial, seqI fun P hP => ?_⟩
      wide_open with (sp_about, spAbout)
      refine ⟨w, k, l, rfl, rfl, lw, zw, nz, bw, bk, bl, ?_⟩
      rw [ea]
      rw [g1]
      wide_open with (sp_then, spThen)
      refine ⟨abJ (w, p, [k, l]), TN js i, rfl, rfl, al, t1, az, t2, ab, t3, by rw [s1]; omega, ?_⟩
      have eT : D.tup (List.map D.int (pln (qmul (TN js i) (abJ (w, p, [k, l]))))) = foD (TN js (i + 1)) := by rw [ts]; rfl
      rw [eT]
      refine hP _ _ ?_; clear hP
      wide_open with (g2, g3, sp_turned, spTurn)
      refine ⟨TN js (i + 1), p, rfl, u1, u2, tb, rfl, ?_⟩
      wide_open with (sp_put_on, if_true)
      refine ⟨PN js i, _, rfl, rfl, p1, p2, ?_⟩
      rw [← ps]
      wide_open with (if_true, if_true)
      refine ⟨by rw [s2]; omega, ?_⟩
      refine ⟨_, _, Cut.refl, hM _ _ ⟨_, _, _, ?_, rfl⟩⟩
      rw [stL_succ js (i + 1), plL_succ js (i + 1)]
    · rintro r S1 ⟨y4, y5, y6, rfl, rfl⟩
      rw [List.length_map, List.length_take]
      refine ⟨trivial, ?_⟩
      show P _ _
      refine hP _ _ ?_; clear hP
      wide_open with (if_true, if_true)
      exact h
  · exact h.elim
/-- slots: 0 _law_purse_here, 1 _law_body, 2 _law_names_here, 3 _law_way, 4 _law_marked, 5 _law_name, 6 _law_four -/
def w_l_body_deed : PX1 :=
  (xSeq (xL (wSet 3 (wCall sp_l_draw 2 (wCons (wVar 0) (wCons (wC (.int 5)) wNil)))))
  (xSeq (xL (wSet 4 (wLc (wIt (wwMeth "Body" "marks" sp_Body_marks 1 (wVar 1) wNil)) (fTp 2 (fCons (fNm 5) (fCons (fNm 6) fNil))) wYes (wVar 5) [5, 6])))
  (xL (wIf (wTest (wBin pLt (wVar 3) (wC (.int 2)))) (wDrop (wwMeth "Body" "room" sp_Body_room 2 (wVar 1) (wCons (wCall sp_l_row 2 (wCons (wVar 0) (wCons (wC (.int 4)) wNil))) wNil))) (wIf (wTest (wBin pEq (wVar 3) (wC (.int 2)))) (wDrop (wwMeth "Body" "own" sp_Body_own 2 (wVar 1) (wCons (wCall sp_l_row 2 (wCons (wVar 0) (wCons (wC (.int 4)) wNil))) wNil))) (wIf (wAndT (wTest (wBin pEq (wVar 3) (wC (.int 3)))) (wTest (wBin pGt (wFn fLen (wCons (wVar 4) wNil)) (wC (.int 0))))) (wDrop (wwMeth "Body" "to" sp_Body_to 2 (wVar 1) (wCons (wBin pIx (wVar 4) (wCall sp_l_draw 2 (wCons (wVar 0) (wCons (wFn fLen (wCons (wVar 4) wNil)) wNil)))) wNil))) (wDrop (wwMeth "Body" "mark" sp_Body_mark 2 (wVar 1) (wCons (wBin pIx (wVar 2) (wCall sp_l_draw 2 (wCons (wVar 0) (wCons (wC (.int 4)) wNil)))) wNil)))))))))
def sp_l_body_deed : SpW := fun rs S W _ => match rs with
  | [.loc 0, .ad c, .loc 1] => ∃ (own : List Nat) (s : Bs) (bs as : List Bs) (NS : List (List Nat)) (n m : Nat) (a b : Int), S[0]? = some (.lst [.int a, .int b]) ∧ S[1]? = some (.lst (NS.map fun l => D.str (Tx l))) ∧ NS.length = 4 ∧ (∀ l ∈ NS, nameL l = true) ∧ 0 ∉ own ∧ 1 ∉ own ∧ BodyAt own S c s bs as ∧ OkS n m s ∧ NmK s ∧ n ≤ 1900 ∧ m < 60 ∧ bs.length ≤ 9000 ∧ ∀ (s' : Bs) (own' : List Nat) (S' : Sto) (a' b' : Int), OkS (n + 83) (m + 1) s' → NmK s' → OwnX own own' S → S'[0]? = some (.lst [.int a', .int b']) → (S.length ≤ S'.length ∧ ∀ (i : Nat) o, S[i]? = some o → i ≠ 0 → (i ∉ own ∨ ∃ a k, o = .da a k) → S'[i]? = some o) → BodyAt own' S' c s' (bs ++ [s]) [] → W (.d .non) S'
  | _ => False
theorem rd_l_body_deed : ∀ rs S W XW, rs.length = 3 → sp_l_body_deed rs S W XW → w_l_body_deed { n := { nx := fun _ S1 => W (.d .non) S1, rt := W }, ex := fun x _ S1 => XW x S1 } (start1 7 rs) S := by
  intro rs S W XW _ h
  unfold sp_l_body_deed at h
  split at h
  · rename_i c _
    obtain ⟨own, s, bs, as, NS, n, m, a, b, hp, hq, nl, ng, o0, o1, bd, ok, nk, n19, m60, bl, h⟩ := h
    have st : ∀ (S1 : Sto) (a b a' b' : Int), S1[0]? = some (.lst [.int a, .int b]) → BodyAt own S1 c s bs as → BodyAt own (S1.set 0 (.lst [.int a', .int b'])) c s bs as := fun S1 a b a' b' e h => h.put o0 e (by simp) _
    have fs : ∀ (S1 : Sto) (a b : Int), (S.length ≤ S1.length ∧ ∀ (i : Nat) o, S[i]? = some o → i ≠ 0 → (i ∉ own ∨ ∃ a k, o = .da a k) → S1[i]? = some o) → (S.length ≤ (S1.set 0 (.lst [.int a, .int b])).length ∧ ∀ (i : Nat) o, S[i]? = some o → i ≠ 0 → (i ∉ own ∨ ∃ a k, o = .da a k) → (S1.set 0 (.lst [.int a, .int b]))[i]? = some o) := fun S1 a b f => ⟨by rw [List.length_set]; exact f.1, fun i o e i0 z => gset (f.2 i o e i0 z) i0.symm⟩
    have mt : ∀ {S : Sto}, BodyAt own S c s bs as → ∀ m : Str, m ∈ [("marks" : Str), ("room" : Str), ("own" : Str), ("to" : Str), ("mark" : Str)] → ∃ (k : Nat) (fs : List (Str × R)), S[k]? = some (O.ob c "Body" fs) ∧ fs.lookup m = none := fun bd m hm => by
      simp only [List.mem_cons, List.not_mem_nil, or_false] at hm
      rcases hm with rfl | rfl | rfl | rfl | rfl <;> exact bd.meth (by decide +kernel) (by decide +kernel) (by decide +kernel) (by decide +kernel)
    have f0 : S.length ≤ S.length ∧ ∀ (i : Nat) o, S[i]? = some o → i ≠ 0 → (i ∉ own ∨ ∃ a k, o = .da a k) → S[i]? = some o := ⟨Nat.le_refl _, fun _ _ e _ _ => e⟩
    have kl := ok.len
    unfold w_l_body_deed
    refine xseqI fun P hP => ?_
    wide_open with (sp_l_draw, hp)
    intro v a b v0 v5
    have bd := st _ _ _ a b hp bd
    have f0 := fs _ a b f0
    have hq := gset (x := .lst [.int a, .int b]) hq (show 0 ≠ 1 by decide)
    have hp := gput (x := .lst [.int a, .int b]) hp
    generalize S.set 0 (.lst [.int a, .int b]) = S1 at *
    refine hP _ _ ?_; clear hP
    refine xseqI fun P hP => ?_
    wide_open with (if_true, if_true)
    refine ⟨mt bd _ (by simp), ?_⟩
    unfold sp_Body_marks
    refine ⟨own, s, bs, as, bd, by omega, ok.nd, ?_⟩
    have sl : (srK s.2).length = s.2.length := (srK_perm s.2).length_eq
    wide_open with (List.length_map, if_true)
    refine ⟨by omega, ?_⟩
    have eE : ((srK s.2).map nkD).map R.d = (srK s.2).map fun p => R.d (nkD p) := by rw [List.map_map]; rfl
    rw [eE]
    refine lcL_enc (xs := srK s.2) (fun p => R.d (nkD p)) (fun p => D.str p.1) (List.take_of_length_le (by simp)) (by simp [eE]) (fun p hp => ⟨_, rfl, fun W1 h => h, fun W1 h => h⟩) ?_
    have bd := bd.app [O.lst ((srK s.2).map nkD), .lst ((srK s.2).map fun p => D.str p.1)]
    have f0 : S.length ≤ (S1 ++ [O.lst ((srK s.2).map nkD), .lst ((srK s.2).map fun p => D.str p.1)]).length ∧ ∀ (i : Nat) o, S[i]? = some o → i ≠ 0 → (i ∉ own ∨ ∃ a k, o = .da a k) → (S1 ++ [O.lst ((srK s.2).map nkD), .lst ((srK s.2).map fun p => D.str p.1)])[i]? = some o := ⟨by rw [List.length_append]; have := f0.1; omega, fun i o e i0 z => gapp (f0.2 i o e i0 z)⟩
    have hq := gapp (Y := [O.lst ((srK s.2).map nkD), .lst ((srK s.2).map fun p => D.str p.1)]) hq
    have hp := gapp (Y := [O.lst ((srK s.2).map nkD), .lst ((srK s.2).map fun p => D.str p.1)]) hp
    have e2 : (S1 ++ [O.lst ((srK s.2).map nkD)] ++ [O.lst ((srK s.2).map fun p => D.str p.1)]) = S1 ++ [O.lst ((srK s.2).map nkD), .lst ((srK s.2).map fun p => D.str p.1)] := by rw [List.append_assoc]; rfl
    have hk : (S1 ++ [O.lst ((srK s.2).map nkD), .lst ((srK s.2).map fun p => D.str p.1)])[(S1 ++ [O.lst ((srK s.2).map nkD)]).length]? = some (.lst ((srK s.2).map fun p => D.str p.1)) := by rw [← e2]; exact List.getElem?_concat_length
    rw [e2]
    have l2 : (S1 ++ [O.lst ((srK s.2).map nkD)]).length ≠ 0 := by simp
    generalize (S1 ++ [O.lst ((srK s.2).map nkD)]).length = kk at *
    clear e2
    generalize (S1 ++ [O.lst ((srK s.2).map nkD), .lst ((srK s.2).map fun p => D.str p.1)]) = S2 at *
    have done : ∀ (s' : Bs) (S3 : Sto) (a b : Int), S3[0]? = some (.lst [.int a, .int b]) → (S.length ≤ S3.length ∧ ∀ (i : Nat) o, S[i]? = some o → i ≠ 0 → (i ∉ own ∨ ∃ a k, o = .da a k) → S3[i]? = some o) → OkS (n + 83) (m + 1) s' → NmK s' → ∀ (own' : List Nat) (S' : Sto), OwnX own own' S3 → FrB own S3 S' → BodyAt own' S' c s' (bs ++ [s]) [] → W (.d .non) S' := fun s' S3 a b hp f0 ok' nk' own' S' ox fr bd' => by
      have hp' := fr.2 _ _ hp (.inl o0)
      exact h s' own' S' a b ok' nk' (fun i hi => (ox i hi).imp id (fun e => Nat.le_trans f0.1 e)) hp' ⟨Nat.le_trans f0.1 fr.1, fun i o e i0 z => fr.2 i o (f0.2 i o e i0 z) z⟩ bd'
    have row : ∀ f : List Int, f.length = 4 → (∃ x ∈ f, x ≠ 0) → (∀ x ∈ f, Bd 80 x) → OkFr 80 f := fun f l z b => ⟨l, z, b⟩
    have os : OkFr 2000 s.1 := ok.ok.mono (by omega)
    refine hP _ _ ?_; clear hP
    refine ifI fun Pb hb => ?_
    wide_open with (if_true, if_true)
    refine hb _ _ ?_
    clear hb
    by_cases c1 : v < 2
    · rw [if_pos (decide_eq_true c1)]
      refine dropI fun P0 h0 => methI rfl (mt bd _ (by simp)) fun P1 h1 => consI fun P2 h2 => ?_
      wide_open with (sp_l_row, hp)
      refine .inr fun f a b fl fz fb => ?_
      refine h2 _ _ ?_
      clear h2
      have bd := st _ _ _ a b hp bd
      have f0 := fs _ a b f0
      have hp := gput (x := .lst [.int a, .int b]) hp
      generalize S2.set 0 (.lst [.int a, .int b]) = S4 at *
      wide_open with (if_true, if_true)
      refine h1 _ _ ?_
      clear h1
      wide_open with (if_true, if_true)
      unfold sp_Body_room
      refine ⟨own, s, f, bs, as, rfl, bd, by omega, os, (row f fl fz fb).mono (by decide), fun own' S' ox fr bd' => ?_⟩
      refine h0 _ _ ?_
      wide_open with (if_true, if_true)
      have g := row f fl fz fb
      exact done _ S4 a b hp f0 ((ok.turn (n' := n + 83) (by omega) ((g.mul ok.ok).mono (by omega)) (pln_pln (qmul_nz g.len ok.ok.len g.nz ok.ok.nz))).mono (Nat.le_refl _) (by omega)) nk own' S' ox fr bd'
    rw [if_neg (by rw [decide_eq_false c1]; decide)]
    refine ifI fun Pb hb => ?_
    wide_open with (if_true, if_true)
    refine hb _ _ ?_
    clear hb
    by_cases c2 : v = 2
    · rw [if_pos (beq_iff_eq.mpr c2)]
      refine dropI fun P0 h0 => methI rfl (mt bd _ (by simp)) fun P1 h1 => consI fun P2 h2 => ?_
      wide_open with (sp_l_row, hp)
      refine .inr fun f a b fl fz fb => ?_
      refine h2 _ _ ?_
      clear h2
      have bd := st _ _ _ a b hp bd
      have f0 := fs _ a b f0
      have hp := gput (x := .lst [.int a, .int b]) hp
      generalize S2.set 0 (.lst [.int a, .int b]) = S4 at *
      wide_open with (if_true, if_true)
      refine h1 _ _ ?_
      clear h1
      wide_open with (if_true, if_true)
      unfold sp_Body_own
      refine ⟨own, s, f, bs, as, rfl, bd, by omega, os, (row f fl fz fb).mono (by decide), fun own' S' ox fr bd' => ?_⟩
      refine h0 _ _ ?_
      wide_open with (if_true, if_true)
      have g := row f fl fz fb
      exact done _ S4 a b hp f0 ((ok.turn (n' := n + 83) (by omega) ((ok.ok.mul g).mono (by omega)) (pln_pln (qmul_nz ok.ok.len g.len ok.ok.nz g.nz))).mono (Nat.le_refl _) (by omega)) nk own' S' ox fr bd'
    rw [if_neg (by rw [beq_iff_eq]; exact c2)]
    refine ifI fun Pb hb => ?_
    wide_open with (hk, if_true)
    have goM : Pb false S2 := by
      refine hb _ _ ?_
      clear hb
      rw [if_neg (by decide)]
      refine dropI fun P0 h0 => methI rfl (mt bd _ (by simp)) fun P1 h1 => consI fun P2 h2 => ?_
      wide_open with (sp_l_draw, hp, hq)
      intro u a b u0 u1
      have bd := st _ _ _ a b hp bd
      have f0 := fs _ a b f0
      have hq := gset (x := .lst [.int a, .int b]) hq (show 0 ≠ 1 by decide)
      have hp := gput (x := .lst [.int a, .int b]) hp
      generalize S2.set 0 (.lst [.int a, .int b]) = S4 at *
      obtain ⟨z, ez, hz⟩ := getI_in (xs := NS.map fun l => D.str (Tx l)) u0 (show u < _ by rw [List.length_map]; omega)
      obtain ⟨l, hl, rfl⟩ := List.mem_map.mp hz
      have gl := ng l hl
      wide_open with (hq, ez)
      refine h2 _ _ ?_
      clear h2
      wide_open with (if_true, if_true)
      refine h1 _ _ ?_
      clear h1
      wide_open with (if_true, if_true)
      unfold sp_Body_mark
      refine ⟨l, own, s, bs, as, rfl, by have := name_len gl; omega, bd, by omega, by omega, fun e => (by rw [gl] at e; cases e), fun _ own' S' ox fr bd' => ?_⟩
      refine h0 _ _ ?_
      wide_open with (if_true, if_true)
      exact done _ S4 a b hp f0 ((ok.mark (Tx l)).mono (by omega) (Nat.le_refl _)) (nk.mark gl) own' S' ox fr bd'
    by_cases c3 : v = 3
    · rw [if_pos (beq_iff_eq.mpr c3)]
      by_cases c4 : 0 < (srK s.2).length
      · have goT : Pb true S2 := by
          refine hb _ _ ?_
          clear hb
          rw [if_pos rfl]
          refine dropI fun P0 h0 => methI rfl (mt bd _ (by simp)) fun P1 h1 => consI fun P2 h2 => ?_
          wide_open with (sp_l_draw, hp, hk)
          refine ⟨⟨by rw [List.length_map]; omega, by rw [List.length_map]; omega⟩, ?_⟩
          intro u a b u0 u1
          have bd := st _ _ _ a b hp bd
          have f0 := fs _ a b f0
          have hk := gset (x := .lst [.int a, .int b]) hk l2.symm
          have hp := gput (x := .lst [.int a, .int b]) hp
          generalize S2.set 0 (.lst [.int a, .int b]) = S4 at *
          obtain ⟨z, ez, hz⟩ := getI_in (xs := (srK s.2).map fun p => D.str p.1) u0 u1
          obtain ⟨p, hl, rfl⟩ := List.mem_map.mp hz
          have hl2 : p ∈ s.2 := (srK_perm s.2).mem_iff.mp hl
          have gl := nk p hl2
          obtain ⟨f, hf⟩ := getKp_mem (k := s.2) (y := p.1) (List.mem_map.mpr ⟨p, hl2, rfl⟩)
          have hf2 : ∃ p ∈ s.2, p.2 = f := by
            unfold getKp at hf
            obtain ⟨q, e1, e2⟩ := Option.map_eq_some_iff.mp hf
            exact ⟨q, List.mem_of_find?_eq_some e1, e2⟩
          obtain ⟨p2, hp2, rfl⟩ := hf2
          obtain ⟨k1, k2⟩ := ok.kp p2 hp2
          wide_open with (hk, ez)
          refine h2 _ _ ?_
          clear h2
          wide_open with (if_true, if_true)
          refine h1 _ _ ?_
          clear h1
          wide_open with (if_true, if_true)
          unfold sp_Body_to
          refine ⟨p.1.cps.toList, own, s, bs, as, p2.2, tx_all p.1, by have := name_len gl; omega, bd, by omega, gl, hf, fun own' S' ox fr bd' => ?_⟩
          refine h0 _ _ ?_
          wide_open with (if_true, if_true)
          exact done _ S4 a b hp f0 ((ok.turn (n' := n + 83) (by omega) (k1.mono (by omega)) k2).mono (Nat.le_refl _) (by omega)) nk own' S' ox fr bd'
        rw [decide_eq_true (show (0 : Int) < ((List.map (fun p : Str × List Int => D.str p.1) (srK s.2)).length : Nat) by rw [List.length_map]; omega)]
        exact goT
      · rw [decide_eq_false (show ¬ (0 : Int) < ((List.map (fun p : Str × List Int => D.str p.1) (srK s.2)).length : Nat) by rw [List.length_map]; omega)]
        exact goM
    · rw [if_neg (by rw [beq_iff_eq]; exact c3)]
      exact goM
  · exact h.elim
/-- slots: 0 _law_thing, 1 _law_told, 2 _law_seen, 3 _law_number_here, 4 _law_many, 5 _law_k, 6 _law_twin, 7 _law_some -/
def w_l_held_Body (fa_l_body_told : Addr) : PX1 :=
  (xSeq (xL (wSet 4 (wBin pMod (wVar 3) (wFn fLen (wCons (wVar 1) wNil)))))
  (xSeq (xL (wFor (wRng1 (wCons (wVar 4) wNil)) (fNm 5) (wSeq (wDrop (wwMeth "Body" "back" sp_Body_back 1 (wVar 0) wNil))
  (wIf (wTest (wBin pNe (wVCall 2 fa_l_body_told sp_l_body_told 1 (wCons (wVar 0) wNil)) (wBin pIx (wVar 1) (wBin pSub (wUn pNeg (wC (.int 2))) (wVar 5))))) (wRet (wC (.bl false))) wNext))))
  (xSeq (xL (wSet 6 (wwMeth "Body" "twin" sp_Body_twin 1 (wVar 0) wNil)))
  (xSeq (xL (wFor (wItA (wLstA (wCons (wVar 6) (wCons (wVar 0) wNil)))) (fNm 7) (wSeq (wFor (wRng1 (wCons (wVar 4) wNil)) (fNm 5) (wSeq (wDrop (wwMeth "Body" "again" sp_Body_again 1 (wVar 7) wNil))
  (wIf (wTest (wBin pNe (wVCall 2 fa_l_body_told sp_l_body_told 1 (wCons (wVar 7) wNil)) (wBin pIx (wVar 1) (wBin pAddI (wBin pSub (wFn fLen (wCons (wVar 1) wNil)) (wVar 4)) (wVar 5))))) (wRet (wC (.bl false))) wNext)))
  (wIf (wNotT (wTest (wwCall sp_l_no_deed_Body 2 (wCons (wVar 7) (wCons (wC (.bl true)) wNil))))) (wRet (wC (.bl false))) wNext))))
  (xSeq (xL (wFor (wRng1 (wCons (wBin pSub (wFn fLen (wCons (wVar 1) wNil)) (wC (.int 1))) wNil)) (fNm 5) (wSeq (wDrop (wwMeth "Body" "back" sp_Body_back 1 (wVar 6) wNil))
  (wIf (wTest (wBin pNe (wVCall 2 fa_l_body_told sp_l_body_told 1 (wCons (wVar 6) wNil)) (wBin pIx (wVar 1) (wBin pSub (wUn pNeg (wC (.int 2))) (wVar 5))))) (wRet (wC (.bl false))) wNext))))
  (xL (wRet (wAndV (wwCall sp_l_no_deed_Body 2 (wCons (wVar 6) (wCons (wC (.bl false)) wNil))) (wBin pEq (wVCall 2 fa_l_body_told sp_l_body_told 1 (wCons (wVar 0) wNil)) (wBin pIx (wVar 1) (wUn pNeg (wC (.int 1)))))))))))))
theorem hb_up (fa : Addr) {E : En} {k t : Nat} {n : Int} {M N : Nat} {y0 y5 y6 y7 : Option R} {c : Addr} {H : List Bs} {S : Sto} {own : List Nat} (hN : H.length = N + 1) (n100 : N ≤ 100) (hM : M ≤ N) (ok : ∀ s ∈ H, OkFr 5000 s.1 ∧ s.2.length < 64 ∧ (s.2.map (·.1)).Nodup) (told : S[t]? = some (.lst (bTolds [] H))) (ht : t ∉ own) (at0 : AtH H own S c (N - M))
    (fin : ∀ (o2 : List Nat) (S2 : Sto) (y5 : Option R), (OwnX own o2 S ∧ FrB own S S2) → AtH H o2 S2 c (N) → E.nx [y0, some (.loc t), some (.ad fa), some (.d (.int n)), some (.d (.int ((M : Nat) : Int))), y5, y6, some (.ad c)] S2) :
    forL k (fun _ => True) (fNm 5) (wSeq (wDrop (wwMeth "Body" "again" sp_Body_again 1 (wVar 7) wNil)) (wIf (wTest (wBin pNe (wVCall 2 fa sp_l_body_told 1 (wCons (wVar 7) wNil)) (wBin pIx (wVar 1) (wBin pAddI (wBin pSub (wFn fLen (wCons (wVar 1) wNil)) (wVar 4)) (wVar 5))))) (wRet (wC (.bl false))) wNext)) E (rgR 0 M) [y0, some (.loc t), some (.ad fa), some (.d (.int n)), some (.d (.int ((M : Nat) : Int))), y5, y6, some (.ad c)] S := by
  have tl := get_len told
  refine forL_ix (fun i r S1 => ∃ (o1 : List Nat) (y5 : Option R), r = [y0, some (.loc t), some (.ad fa), some (.d (.int n)), some (.d (.int ((M : Nat) : Int))), y5, y6, some (.ad c)] ∧ (OwnX own o1 S ∧ FrB own S S1) ∧ AtH H o1 S1 c (N - M + i)) ?_ ?_ ⟨own, _, rfl, ⟨OwnX.refl, FrB.refl⟩, at0⟩
  · rintro i z hz r S1 ⟨o1, y5, rfl, ⟨ox, fr⟩, tt, et, bd⟩ Mx hMx
    obtain ⟨il, rfl⟩ := rgR_get hz
    have t1 : t ∉ o1 := fun e => by
      rcases ox t e with z | z
      · exact ht z
      · omega
    have told1 := fr.2 _ _ told (.inl ht)
    have mt : ∀ {own : List Nat} {S : Sto} {s : Bs} {bs as : List Bs}, BodyAt own S c s bs as → ∀ m : Str, m ∈ [("back" : Str), ("again" : Str)] → ∃ (k : Nat) (fs : List (Str × R)), S[k]? = some (O.ob c "Body" fs) ∧ fs.lookup m = none := fun bd m hm => by
      simp only [List.mem_cons, List.not_mem_nil, or_false] at hm
      rcases hm with rfl | rfl <;> exact bd.meth (by decide +kernel) (by decide +kernel) (by decide +kernel) (by decide +kernel)
    obtain ⟨t2, e2⟩ : ∃ t2, H[N - M + i + 1]? = some t2 := ⟨_, List.getElem?_eq_getElem (by omega)⟩
    rw [hist_next e2] at bd
    have tk := hist_take et
    have ix : getI (bTolds [] H) ((((N + 1 : Nat) : Int) - (M : Int)) + (0 + (i : Int))) = some (.lst (bToldL t2 (H.take (N - M + i + 1)))) := by
      rw [getI_of (by omega) (by rw [bTolds_len]; omega), show ((((N + 1 : Nat) : Int) - (M : Int)) + (0 + (i : Int))).toNat = N - M + i + 1 by omega]
      exact bTolds_get H [] _ _ e2
    have ok2 := ok t2 (List.mem_of_getElem? e2)
    refine ⟨trivial, ?_⟩
    wide_open with (if_true, if_true)
    refine ⟨mt bd _ (by simp), ?_⟩
    unfold sp_Body_again
    refine ⟨o1, tt, _, _, bd, by simp; omega, fun e => by simp at e, fun as' s' e S2 fr2 bd2 => ?_⟩
    obtain ⟨rfl, e4⟩ := List.append_inj' e rfl
    cases e4
    rw [← tk] at bd2
    have told2 := fr2.2 _ _ told1 (.inl t1)
    have at2 : AtH H o1 S2 c (N - M + i + 1) := ⟨t2, e2, bd2⟩
    have fr3 := fr.trans fr2 ox
    wide_open with (if_true, if_true)
    refine ⟨rfl, rfl, ?_⟩
    unfold sp_l_body_told
    refine ⟨o1, t2, _, _, bd2, ok2.1, ok2.2.1, ok2.2.2, by simp; omega, ?_⟩
    have told3 := gapp (Y := [.lst (bToldL t2 (H.take (N - M + i + 1)))]) told2
    have g3 : (S2 ++ [.lst (bToldL t2 (H.take (N - M + i + 1)))])[S2.length]? = some (O.lst (bToldL t2 (H.take (N - M + i + 1)))) := List.getElem?_concat_length
    have at3 := at2.app [.lst (bToldL t2 (H.take (N - M + i + 1)))]
    have fr4 := fr3.app [.lst (bToldL t2 (H.take (N - M + i + 1)))]
    have dd := dp_btold t2 (H.take (N - M + i + 1))
    generalize S2 ++ [.lst (bToldL t2 (H.take (N - M + i + 1)))] = S3 at *
    wide_open with (told3, g3, bTolds_len, hN)
    wide_open with (ix, if_true)
    refine ⟨by omega, ?_⟩
    rw [eqv_pys]
    wide_open with (if_true, if_true)
    exact ⟨_, _, Cut.refl, hMx _ _ ⟨o1, _, rfl, ⟨ox, fr4⟩, at3⟩⟩
  · rintro r S1 ⟨o1, y5, rfl, st, h1⟩
    rw [rgR_len] at h1
    refine ⟨trivial, fin o1 S1 y5 st ?_⟩
    rwa [show N - M + M = N by omega] at h1
theorem hb_dn0 (fa : Addr) {E : En} {k t : Nat} {n : Int} {M N : Nat} {y0 y5 y6 y7 : Option R} {c : Addr} {H : List Bs} {S : Sto} {own : List Nat} (hN : H.length = N + 1) (n100 : N ≤ 100) (T : Nat) (hT : T ≤ N) (ok : ∀ s ∈ H, OkFr 5000 s.1 ∧ s.2.length < 64 ∧ (s.2.map (·.1)).Nodup) (told : S[t]? = some (.lst (bTolds [] H))) (ht : t ∉ own) (at0 : AtH H own S c (N))
    (fin : ∀ (o2 : List Nat) (S2 : Sto) (y5 : Option R), (OwnX own o2 S ∧ FrB own S S2) → AtH H o2 S2 c (N - T) → E.nx [some (.ad c), some (.loc t), some (.ad fa), some (.d (.int n)), some (.d (.int ((M : Nat) : Int))), y5, y6, y7] S2) :
    forL k (fun _ => True) (fNm 5) (wSeq (wDrop (wwMeth "Body" "back" sp_Body_back 1 (wVar 0) wNil)) (wIf (wTest (wBin pNe (wVCall 2 fa sp_l_body_told 1 (wCons (wVar 0) wNil)) (wBin pIx (wVar 1) (wBin pSub (wUn pNeg (wC (.int 2))) (wVar 5))))) (wRet (wC (.bl false))) wNext)) E (rgR 0 T) [some (.ad c), some (.loc t), some (.ad fa), some (.d (.int n)), some (.d (.int ((M : Nat) : Int))), y5, y6, y7] S := by
  have tl := get_len told
  refine forL_ix (fun i r S1 => ∃ (o1 : List Nat) (y5 : Option R), r = [some (.ad c), some (.loc t), some (.ad fa), some (.d (.int n)), some (.d (.int ((M : Nat) : Int))), y5, y6, y7] ∧ (OwnX own o1 S ∧ FrB own S S1) ∧ AtH H o1 S1 c (N - i)) ?_ ?_ ⟨own, _, rfl, ⟨OwnX.refl, FrB.refl⟩, by simpa using at0⟩
  · rintro i z hz r S1 ⟨o1, y5, rfl, ⟨ox, fr⟩, tt, et, bd⟩ Mx hMx
    obtain ⟨il, rfl⟩ := rgR_get hz
    have t1 : t ∉ o1 := fun e => by
      rcases ox t e with z | z
      · exact ht z
      · omega
    have told1 := fr.2 _ _ told (.inl ht)
    have mt : ∀ {own : List Nat} {S : Sto} {s : Bs} {bs as : List Bs}, BodyAt own S c s bs as → ∀ m : Str, m ∈ [("back" : Str), ("again" : Str)] → ∃ (k : Nat) (fs : List (Str × R)), S[k]? = some (O.ob c "Body" fs) ∧ fs.lookup m = none := fun bd m hm => by
      simp only [List.mem_cons, List.not_mem_nil, or_false] at hm
      rcases hm with rfl | rfl <;> exact bd.meth (by decide +kernel) (by decide +kernel) (by decide +kernel) (by decide +kernel)
    obtain ⟨j, ej⟩ : ∃ j, N - i = j + 1 := ⟨N - i - 1, by omega⟩
    rw [ej] at et bd
    obtain ⟨t2, e2⟩ : ∃ t2, H[j]? = some t2 := ⟨_, List.getElem?_eq_getElem (by omega)⟩
    rw [hist_take e2] at bd
    have tk := hist_next et
    have ix : getI (bTolds [] H) (-2 - (0 + (i : Int))) = some (.lst (bToldL t2 (H.take (j)))) := by
      have ll : (bTolds [] H).length = N + 1 := by rw [bTolds_len]; exact hN
      unfold getI
      rw [if_neg (by omega), if_pos (by rw [ll]; omega), ll, show ((-2 - (0 + (i : Int))) + ((N + 1 : Nat) : Int)).toNat = j by omega]
      exact bTolds_get H [] _ _ e2
    have ok2 := ok t2 (List.mem_of_getElem? e2)
    refine ⟨trivial, ?_⟩
    wide_open with (if_true, if_true)
    refine ⟨mt bd _ (by simp), ?_⟩
    unfold sp_Body_back
    refine ⟨o1, tt, _, _, bd, by simp; omega, fun e => by simp at e, fun as' s' e S2 fr2 bd2 => ?_⟩
    obtain ⟨rfl, e4⟩ := List.append_inj' e rfl
    cases e4
    rw [← tk] at bd2
    have told2 := fr2.2 _ _ told1 (.inl t1)
    have at2 : AtH H o1 S2 c (j) := ⟨t2, e2, bd2⟩
    have fr3 := fr.trans fr2 ox
    wide_open with (if_true, if_true)
    refine ⟨rfl, rfl, ?_⟩
    unfold sp_l_body_told
    refine ⟨o1, t2, _, _, bd2, ok2.1, ok2.2.1, ok2.2.2, by simp; omega, ?_⟩
    have told3 := gapp (Y := [.lst (bToldL t2 (H.take (j)))]) told2
    have g3 : (S2 ++ [.lst (bToldL t2 (H.take (j)))])[S2.length]? = some (O.lst (bToldL t2 (H.take (j)))) := List.getElem?_concat_length
    have at3 := at2.app [.lst (bToldL t2 (H.take (j)))]
    have fr4 := fr3.app [.lst (bToldL t2 (H.take (j)))]
    have dd := dp_btold t2 (H.take (j))
    generalize S2 ++ [.lst (bToldL t2 (H.take (j)))] = S3 at *
    wide_open with (told3, g3, bTolds_len, hN)
    wide_open with (ix, if_true)
    refine ⟨by omega, ?_⟩
    rw [eqv_pys]
    wide_open with (if_true, if_true)
    exact ⟨_, _, Cut.refl, hMx _ _ ⟨o1, _, rfl, ⟨ox, fr4⟩, by rw [show N - (i + 1) = j by omega]; exact at3⟩⟩
  · rintro r S1 ⟨o1, y5, rfl, st, h1⟩
    rw [rgR_len] at h1
    refine ⟨trivial, fin o1 S1 y5 st ?_⟩
    exact h1
theorem hb_dn6 (fa : Addr) {E : En} {k t : Nat} {n : Int} {M N : Nat} {y0 y5 y6 y7 : Option R} {c : Addr} {H : List Bs} {S : Sto} {own : List Nat} (hN : H.length = N + 1) (n100 : N ≤ 100) (T : Nat) (hT : T ≤ N) (ok : ∀ s ∈ H, OkFr 5000 s.1 ∧ s.2.length < 64 ∧ (s.2.map (·.1)).Nodup) (told : S[t]? = some (.lst (bTolds [] H))) (ht : t ∉ own) (at0 : AtH H own S c (N))
    (fin : ∀ (o2 : List Nat) (S2 : Sto) (y5 : Option R), (OwnX own o2 S ∧ FrB own S S2) → AtH H o2 S2 c (N - T) → E.nx [y0, some (.loc t), some (.ad fa), some (.d (.int n)), some (.d (.int ((M : Nat) : Int))), y5, some (.ad c), y7] S2) :
    forL k (fun _ => True) (fNm 5) (wSeq (wDrop (wwMeth "Body" "back" sp_Body_back 1 (wVar 6) wNil)) (wIf (wTest (wBin pNe (wVCall 2 fa sp_l_body_told 1 (wCons (wVar 6) wNil)) (wBin pIx (wVar 1) (wBin pSub (wUn pNeg (wC (.int 2))) (wVar 5))))) (wRet (wC (.bl false))) wNext)) E (rgR 0 T) [y0, some (.loc t), some (.ad fa), some (.d (.int n)), some (.d (.int ((M : Nat) : Int))), y5, some (.ad c), y7] S := by
  have tl := get_len told
  refine forL_ix (fun i r S1 => ∃ (o1 : List Nat) (y5 : Option R), r = [y0, some (.loc t), some (.ad fa), some (.d (.int n)), some (.d (.int ((M : Nat) : Int))), y5, some (.ad c), y7] ∧ (OwnX own o1 S ∧ FrB own S S1) ∧ AtH H o1 S1 c (N - i)) ?_ ?_ ⟨own, _, rfl, ⟨OwnX.refl, FrB.refl⟩, by simpa using at0⟩
  · rintro i z hz r S1 ⟨o1, y5, rfl, ⟨ox, fr⟩, tt, et, bd⟩ Mx hMx
    obtain ⟨il, rfl⟩ := rgR_get hz
    have t1 : t ∉ o1 := fun e => by
      rcases ox t e with z | z
      · exact ht z
      · omega
    have told1 := fr.2 _ _ told (.inl ht)
    have mt : ∀ {own : List Nat} {S : Sto} {s : Bs} {bs as : List Bs}, BodyAt own S c s bs as → ∀ m : Str, m ∈ [("back" : Str), ("again" : Str)] → ∃ (k : Nat) (fs : List (Str × R)), S[k]? = some (O.ob c "Body" fs) ∧ fs.lookup m = none := fun bd m hm => by
      simp only [List.mem_cons, List.not_mem_nil, or_false] at hm
      rcases hm with rfl | rfl <;> exact bd.meth (by decide +kernel) (by decide +kernel) (by decide +kernel) (by decide +kernel)
    obtain ⟨j, ej⟩ : ∃ j, N - i = j + 1 := ⟨N - i - 1, by omega⟩
    rw [ej] at et bd
    obtain ⟨t2, e2⟩ : ∃ t2, H[j]? = some t2 := ⟨_, List.getElem?_eq_getElem (by omega)⟩
    rw [hist_take e2] at bd
    have tk := hist_next et
    have ix : getI (bTolds [] H) (-2 - (0 + (i : Int))) = some (.lst (bToldL t2 (H.take (j)))) := by
      have ll : (bTolds [] H).length = N + 1 := by rw [bTolds_len]; exact hN
      unfold getI
      rw [if_neg (by omega), if_pos (by rw [ll]; omega), ll, show ((-2 - (0 + (i : Int))) + ((N + 1 : Nat) : Int)).toNat = j by omega]
      exact bTolds_get H [] _ _ e2
    have ok2 := ok t2 (List.mem_of_getElem? e2)
    refine ⟨trivial, ?_⟩
    wide_open with (if_true, if_true)
    refine ⟨mt bd _ (by simp), ?_⟩
    unfold sp_Body_back
    refine ⟨o1, tt, _, _, bd, by simp; omega, fun e => by simp at e, fun as' s' e S2 fr2 bd2 => ?_⟩
    obtain ⟨rfl, e4⟩ := List.append_inj' e rfl
    cases e4
    rw [← tk] at bd2
    have told2 := fr2.2 _ _ told1 (.inl t1)
    have at2 : AtH H o1 S2 c (j) := ⟨t2, e2, bd2⟩
    have fr3 := fr.trans fr2 ox
    wide_open with (if_true, if_true)
    refine ⟨rfl, rfl, ?_⟩
    unfold sp_l_body_told
    refine ⟨o1, t2, _, _, bd2, ok2.1, ok2.2.1, ok2.2.2, by simp; omega, ?_⟩
    have told3 := gapp (Y := [.lst (bToldL t2 (H.take (j)))]) told2
    have g3 : (S2 ++ [.lst (bToldL t2 (H.take (j)))])[S2.length]? = some (O.lst (bToldL t2 (H.take (j)))) := List.getElem?_concat_length
    have at3 := at2.app [.lst (bToldL t2 (H.take (j)))]
    have fr4 := fr3.app [.lst (bToldL t2 (H.take (j)))]
    have dd := dp_btold t2 (H.take (j))
    generalize S2 ++ [.lst (bToldL t2 (H.take (j)))] = S3 at *
    wide_open with (told3, g3, bTolds_len, hN)
    wide_open with (ix, if_true)
    refine ⟨by omega, ?_⟩
    rw [eqv_pys]
    wide_open with (if_true, if_true)
    exact ⟨_, _, Cut.refl, hMx _ _ ⟨o1, _, rfl, ⟨ox, fr4⟩, by rw [show N - (i + 1) = j by omega]; exact at3⟩⟩
  · rintro r S1 ⟨o1, y5, rfl, st, h1⟩
    rw [rgR_len] at h1
    refine ⟨trivial, fin o1 S1 y5 st ?_⟩
    exact h1
def sp_l_held_Body (fa : Addr) : SpW := fun rs S W _ => match rs with
  | [.ad c, .loc t, .ad f, .d (.int n)] => f = fa ∧ ∃ (H : List Bs) (own : List Nat) (N : Nat), 0 ≤ n ∧ n ≤ 1000 ∧ H.length = N + 1 ∧ N ≤ 100 ∧ AtH H own S c N ∧ S[t]? = some (.lst (bTolds [] H)) ∧ t ∉ own ∧ (∀ s ∈ H, OkFr 5000 s.1 ∧ s.2.length < 64 ∧ (s.2.map (·.1)).Nodup) ∧ ∀ (own2 : List Nat) (S2 : Sto), OwnX own own2 S → FrB own S S2 → AtH H own2 S2 c N → W (.d (.bl true)) S2
  | _ => False
theorem rd_l_held_Body : ∀ fa_l_body_told : Addr, ∀ rs S W XW, rs.length = 4 → (sp_l_held_Body fa_l_body_told) rs S W XW → (w_l_held_Body fa_l_body_told) { n := { nx := fun _ S1 => W (.d .non) S1, rt := W }, ex := fun x _ S1 => XW x S1 } (start1 8 rs) S := by
  intro fa rs S W XW _ h
  unfold sp_l_held_Body at h
  split at h
  · rename_i c t f n _
    obtain ⟨rfl, h⟩ := h
    obtain ⟨H, own, N, n0, n1, hN, n100, at0, told, ht, ok, h⟩ := h
    unfold w_l_held_Body
    have mt : ∀ {own : List Nat} {S : Sto} {s : Bs} {bs as : List Bs} {c : Addr}, BodyAt own S c s bs as → ∀ m : Str, m ∈ [("twin" : Str)] → ∃ (k : Nat) (fs : List (Str × R)), S[k]? = some (O.ob c "Body" fs) ∧ fs.lookup m = none := fun bd m hm => by
      simp only [List.mem_cons, List.not_mem_nil, or_false] at hm
      rcases hm with rfl; exact bd.meth (by decide +kernel) (by decide +kernel) (by decide +kernel) (by decide +kernel)
    refine xseqI fun P hP => ?_
    wide_open with (told, bTolds_len, hN)
    refine ⟨by omega, ?_⟩
    obtain ⟨M, eM, hM⟩ : ∃ M : Nat, n.fmod ((N + 1 : Nat) : Int) = (M : Int) ∧ M ≤ N := ⟨(n % ((N + 1 : Nat) : Int)).toNat, by rw [fmod_pos (by omega)]; have := Int.emod_nonneg n (show ((N + 1 : Nat) : Int) ≠ 0 by omega); omega, by have := Int.emod_lt_of_pos n (show (0 : Int) < ((N + 1 : Nat) : Int) by omega); omega⟩
    rw [eM]
    refine hP _ _ ?_; clear hP
    refine xseqI fun P hP => ?_
    wide_open with (if_true, if_true)
    refine ⟨by omega, by omega, ?_⟩
    rw [Int.toNat_natCast]
    refine hb_dn0 (y0 := none) f hN n100 M hM ok told ht at0 (fun o1 S1 y5 ⟨ox, fr⟩ at1 => ?_)
    have told1 := fr.2 _ _ told (.inl ht)
    have tl := get_len told
    have t1 : t ∉ o1 := fun e => by
      rcases ox t e with z | z
      · exact ht z
      · omega
    refine hP _ _ ?_; clear hP
    refine xseqI fun P hP => ?_
    wide_open with (if_true, if_true)
    obtain ⟨tt, et, bd⟩ := id at1
    refine ⟨mt bd _ (by simp), ?_⟩
    unfold sp_Body_twin
    refine ⟨o1, tt, _, _, bd, fun c2 p1 S2 px pf tw => ?_⟩
    have at2 : AtH H o1 S2 c (N - M) := at1.fr pf (by simp)
    have tw2 : AtH H p1 S2 c2 (N - M) := ⟨tt, et, tw⟩
    have dj : ∀ i ∈ p1, i ∉ o1 := fun i hi e => by
      have l1 := bd.low i e
      rcases px i hi with z | z
      · simp at z
      · omega
    have told2 := pf.2 _ _ told1 (.inl (by simp))
    have fr2 := fr.trans pf (own' := []) (fun i hi => by simp at hi)
    refine hP _ _ ?_; clear hP
    refine xseqI fun P hP => ?_
    wide_open with (if_true, if_true)
    refine fun a => ⟨_, _, List.getElem?_concat_length, ?_⟩
    have hl : (S2 ++ [O.la a [R.ad c2, R.ad c]])[S2.length]? = some (O.la a [R.ad c2, R.ad c]) := List.getElem?_concat_length
    have at3 := at2.app [O.la a [R.ad c2, R.ad c]]
    have tw3 := tw2.app [O.la a [R.ad c2, R.ad c]]
    have told3 := gapp (Y := [O.la a [R.ad c2, R.ad c]]) told2
    have fr3 := fr2.app [O.la a [R.ad c2, R.ad c]]
    have lt2 := get_len told2
    have pn : ∀ i ∈ p1, S.length ≤ i := fun i hi => by
      rcases px i hi with z | z
      · simp at z
      · exact Nat.le_trans fr.1 z
    have lp : ∀ i ∈ p1, i < S2.length := tw.low
    have lo : ∀ i ∈ o1, i < S2.length := fun i hi => Nat.lt_of_lt_of_le (bd.low i hi) pf.1
    have l3 : (S2 ++ [O.la a [R.ad c2, R.ad c]]).length = S2.length + 1 := by simp
    generalize S2 ++ [O.la a [R.ad c2, R.ad c]] = S3 at *
    generalize hk2 : S2.length = k2 at *
    have last0 : (H.drop (N + 1)).reverse = [] := by rw [List.drop_of_length_le (by omega)]; rfl
    refine forL_cons hl (show wSeq _ _ _ _ _ from seqI fun P1 h1 => ?_)
    wide_open with (if_true, if_true)
    refine ⟨by omega, by omega, ?_⟩
    rw [Int.toNat_natCast]
    refine hb_up (y7 := none) f hN n100 hM ok told3 (fun e => by have := pn _ e; omega) tw3 (fun p2 S4 y5 ⟨px2, pf2⟩ tw4 => ?_)
    refine h1 _ _ ?_
    clear h1
    obtain ⟨t4, e4, b4⟩ := id tw4
    rw [last0] at b4
    wide_open with (if_true, if_true)
    unfold sp_l_no_deed_Body
    refine ⟨p2, t4, _, _, b4, by simp, by simp; omega, fun _ => ?_, fun _ as' s' e => by simp at e, fun e => by cases e⟩
    wide_open with (if_true, if_true)
    have pn2 : ∀ i ∈ p2, S.length ≤ i := fun i hi => by
      rcases px2 i hi with z | z
      · exact pn i z
      · have := get_len told; have := get_len told3; have := fr3.1; omega
    have dj2 : ∀ i ∈ p2, i ∉ o1 := fun i hi e => by
      rcases px2 i hi with z | z
      · exact dj i z e
      · have := lo i e; omega
    have at4 : AtH H o1 S4 c (N - M) := at3.fr pf2 (fun i hi e => dj i e hi)
    have hl4 := pf2.2 _ _ hl (.inl fun e => by have := lp _ e; omega)
    have told4 := pf2.2 _ _ told3 (.inl fun e => by have := pn _ e; omega)
    have fr4 : FrB own S S4 := ⟨Nat.le_trans fr3.1 pf2.1, fun i o e z => pf2.2 i o (fr3.2 i o e z) (.inl fun w => by have := pn _ w; have := get_len e; omega)⟩
    refine ⟨_, _, Cut.refl, ?_⟩
    refine forL_cons hl4 (show wSeq _ _ _ _ _ from seqI fun P1 h1 => ?_)
    wide_open with (if_true, if_true)
    refine ⟨by omega, by omega, ?_⟩
    rw [Int.toNat_natCast]
    refine hb_up (y7 := none) f hN n100 hM ok told4 t1 at4 (fun o2 S5 y5 ⟨ox2, of2⟩ at5 => ?_)
    refine h1 _ _ ?_
    clear h1
    obtain ⟨t5, e5, b5⟩ := id at5
    rw [last0] at b5
    wide_open with (if_true, if_true)
    refine ⟨o2, t5, _, _, b5, by simp, by simp; omega, fun _ => ?_, fun as' s' e => by simp at e⟩
    have low4 := b4.low
    have tw5 : AtH H p2 S5 c2 N := tw4.fr of2 dj2
    have hl5 := of2.2 _ _ hl4 (.inl fun e => by have := lo _ e; omega)
    have told5 := of2.2 _ _ told4 (.inl t1)
    have fr5 : FrB own S S5 := fr4.trans of2 ox
    have ox5 : OwnX own o2 S := fun i hi => by
      rcases ox2 i hi with z | z
      · exact ox i z
      · exact .inr (Nat.le_trans fr4.1 z)
    have dj5 : ∀ i ∈ p2, i ∉ o2 := fun i hi e => by
      rcases ox2 i e with z | z
      · exact dj2 i hi z
      · have := low4 i hi; omega
    refine ⟨_, _, Cut.refl, ?_⟩
    refine forL_nil hl5 ?_
    refine hP _ _ ?_; clear hP
    refine xseqI fun P hP => ?_
    wide_open with (told5, bTolds_len, hN)
    refine ⟨by omega, by omega, ?_⟩
    rw [show (((N + 1 : Nat) : Int) - 1).toNat = N by omega]
    refine hb_dn6 (y6 := none) f hN n100 N (Nat.le_refl _) ok told5 (fun e => by have := pn2 _ e; have := get_len told; omega) tw5 (fun p3 S6 y5 ⟨px3, pf3⟩ tw6 => ?_)
    have pn3 : ∀ i ∈ p3, S.length ≤ i := fun i hi => by
      rcases px3 i hi with z | z
      · exact pn2 i z
      · have := fr5.1; omega
    have at6 : AtH H o2 S6 c N := at5.fr pf3 (fun i hi e => dj5 i e hi)
    have told6 := pf3.2 _ _ told5 (.inl fun e => by have := pn2 _ e; have := get_len told; omega)
    have fr6 : FrB own S S6 := ⟨Nat.le_trans fr5.1 pf3.1, fun i o e z => pf3.2 i o (fr5.2 i o e z) (.inl fun w => by have := pn2 _ w; have := get_len e; omega)⟩
    have ox6 := ox5
    obtain ⟨t6, e6, b6⟩ := id tw6
    rw [Nat.sub_self, List.take_zero] at b6
    obtain ⟨t7, e7, b7⟩ := id at6
    refine hP _ _ ?_; clear hP
    wide_open with (if_true, if_true)
    unfold sp_l_no_deed_Body
    refine ⟨p3, t6, _, _, b6, by simp; omega, by simp, fun _ => ?_, fun e => (by cases e), fun _ => rfl⟩
    have ok7 := ok t7 (List.mem_of_getElem? e7)
    wide_open with (if_true, if_true)
    refine ⟨rfl, rfl, ?_⟩
    unfold sp_l_body_told
    refine ⟨o2, t7, _, _, b7, ok7.1, ok7.2.1, ok7.2.2, by simp; omega, ?_⟩
    have at8 := at6.app [.lst (bToldL t7 (H.take N))]
    have told8 := gapp (Y := [.lst (bToldL t7 (H.take N))]) told6
    have fr8 := fr6.app [.lst (bToldL t7 (H.take N))]
    have g8 : (S6 ++ [.lst (bToldL t7 (H.take N))])[S6.length]? = some (O.lst (bToldL t7 (H.take N))) := List.getElem?_concat_length
    have dd := dp_btold t7 (H.take N)
    generalize S6 ++ [.lst (bToldL t7 (H.take N))] = S8 at *
    have ix : getI (bTolds [] H) (-1) = some (.lst (bToldL t7 (H.take N))) := by
      have ll : (bTolds [] H).length = N + 1 := by rw [bTolds_len]; exact hN
      unfold getI
      rw [if_neg (by omega), if_pos (by rw [ll]; omega), ll, show ((-1 : Int) + ((N + 1 : Nat) : Int)).toNat = N by omega]
      exact bTolds_get H [] _ _ e7
    wide_open with (told8, g8)
    wide_open with (ix, if_true)
    refine ⟨by omega, ?_⟩
    rw [eqv_pys]
    exact h o2 S8 ox6 fr8 at8
  · exact h.elim
/-- slots: 0 self -/
def w_Chain_stands : PX1 :=
  (xL (wRet (wSl (wBin pIxT (wwMeth "Chain" "frames" sp_Chain_frames 2 (wVar 0) (wCons (wC (.int 6)) wNil)) (wC (.int 0))) (wSome (wC (.int 1))) wNo)))
def sp_Chain_stands : SpW := fun rs S W _ => match rs with
  | [.ad c] => ∃ (q : Nat → Nat) (v : Nat) (js : Js) (bs as : List Js), ChQ q v S c js bs as ∧ js.length ≤ 6 ∧ FrOk js ∧ W (.loc (S.length + 2)) (S ++ [.lst (stL js (js.length + 1)), .lst (plL js (js.length + 1)), .lst ((stL js (js.length + 1)).drop 1)])
  | _ => False
theorem rd_Chain_stands : ∀ rs S W XW, rs.length = 1 → sp_Chain_stands rs S W XW → w_Chain_stands { n := { nx := fun _ S1 => W (.d .non) S1, rt := W }, ex := fun x _ S1 => XW x S1 } (start1 1 rs) S := by
  intro rs S W XW _ h
  unfold sp_Chain_stands at h
  split at h
  · rename_i c _
    obtain ⟨q, v, js, bs, as, ch, jl, fo, h⟩ := h
    unfold w_Chain_stands
    wide_open with (sp_Chain_frames, if_true)
    refine ⟨ch.meth (by decide +kernel) (by decide +kernel) (by decide +kernel), 6, q, v, js, bs, as, rfl, ch, jl, fo, ?_⟩
    rw [Nat.min_eq_right jl]
    wide_open with (cut_1, if_true)
    exact h
  · exact h.elim
/-- slots: 0 self -/
def w_Chain_places : PX1 :=
  (xL (wRet (wSl (wBin pIxT (wwMeth "Chain" "frames" sp_Chain_frames 2 (wVar 0) (wCons (wC (.int 6)) wNil)) (wC (.int 1))) (wSome (wC (.int 1))) wNo)))
def sp_Chain_places : SpW := fun rs S W _ => match rs with
  | [.ad c] => ∃ (q : Nat → Nat) (v : Nat) (js : Js) (bs as : List Js), ChQ q v S c js bs as ∧ js.length ≤ 6 ∧ FrOk js ∧ W (.loc (S.length + 2)) (S ++ [.lst (stL js (js.length + 1)), .lst (plL js (js.length + 1)), .lst ((plL js (js.length + 1)).drop 1)])
  | _ => False
theorem rd_Chain_places : ∀ rs S W XW, rs.length = 1 → sp_Chain_places rs S W XW → w_Chain_places { n := { nx := fun _ S1 => W (.d .non) S1, rt := W }, ex := fun x _ S1 => XW x S1 } (start1 1 rs) S := by
  intro rs S W XW _ h
  unfold sp_Chain_places at h
  split at h
  · rename_i c _
    obtain ⟨q, v, js, bs, as, ch, jl, fo, h⟩ := h
    unfold w_Chain_places
    wide_open with (sp_Chain_frames, if_true)
    refine ⟨ch.meth (by decide +kernel) (by decide +kernel) (by decide +kernel), 6, q, v, js, bs, as, rfl, ch, jl, fo, ?_⟩
    rw [Nat.min_eq_right jl]
    wide_open with (cut_1, if_true)
    exact h
  · exact h.elim
/-- slots: 0 self -/
def w_Chain_tip : PX1 :=
  (xL (wRet (wBin pIx (wBin pIxT (wwMeth "Chain" "frames" sp_Chain_frames 2 (wVar 0) (wCons (wC (.int 6)) wNil)) (wC (.int 1))) (wUn pNeg (wC (.int 1))))))
def sp_Chain_tip : SpW := fun rs S W _ => match rs with
  | [.ad c] => ∃ (q : Nat → Nat) (v : Nat) (js : Js) (bs as : List Js), ChQ q v S c js bs as ∧ js.length ≤ 6 ∧ FrOk js ∧ W (.d (ptD (PN js js.length))) (S ++ [.lst (stL js (js.length + 1)), .lst (plL js (js.length + 1))])
  | _ => False
theorem rd_Chain_tip : ∀ rs S W XW, rs.length = 1 → sp_Chain_tip rs S W XW → w_Chain_tip { n := { nx := fun _ S1 => W (.d .non) S1, rt := W }, ex := fun x _ S1 => XW x S1 } (start1 1 rs) S := by
  intro rs S W XW _ h
  unfold sp_Chain_tip at h
  split at h
  · rename_i c _
    obtain ⟨q, v, js, bs, as, ch, jl, fo, h⟩ := h
    obtain ⟨n, nb, na, a, b, d, ps, qs, o1, o2, o3, o4, h2, h3, h4, ⟨nr, nq, h5⟩, h6, h7⟩ := id ch.ex
    unfold w_Chain_tip
    wide_open with (sp_Chain_frames, if_true)
    refine ⟨⟨n, _, h2, chF_no (by decide +kernel) (by decide +kernel) (by decide +kernel)⟩, 6, q, v, js, bs, as, rfl, ch, jl, fo, ?_⟩
    rw [Nat.min_eq_right jl]
    have g2 : getI (plL js (js.length + 1)) (-1) = some (ptD (PN js js.length)) := by rw [plL_succ]; exact getI_lastX
    wide_open with (g2, if_true)
    exact h
  · exact h.elim
/-- slots: 0 _law_chain -/
def w_l_chain_told : PX1 :=
  (xL (wRet (wLst (wCons (wFzL (wwMeth "Chain" "joints" sp_Chain_joints 1 (wVar 0) wNil)) (wCons (wFzL (wwMeth "Chain" "stands" sp_Chain_stands 1 (wVar 0) wNil)) (wCons (wFzL (wwMeth "Chain" "places" sp_Chain_places 1 (wVar 0) wNil)) (wCons (wwMeth "Chain" "tip" sp_Chain_tip 1 (wVar 0) wNil) wNil)))))))
def sp_l_chain_told : SpW := fun rs S W _ => match rs with
  | [.ad c] => ∃ (q : Nat → Nat) (v : Nat) (js : Js) (bs as : List Js), ChQ q v S c js bs as ∧ OkCw js ∧ W (.loc S.length) (S ++ [.lst (cToldL js)])
  | _ => False
theorem rd_l_chain_told : ∀ rs S W XW, rs.length = 1 → sp_l_chain_told rs S W XW → w_l_chain_told { n := { nx := fun _ S1 => retN S.length W (.d .non) S1, rt := retN S.length W }, ex := fun x _ S1 => XW x (S1.take S.length) } (start1 1 rs) S := by
  intro rs S W XW _ h
  unfold sp_l_chain_told at h
  split at h
  · rename_i c _
    obtain ⟨q, v, js, bs, as, ch, ok, h⟩ := h
    have jl := ok.len
    have fo := ok.frok
    have mt : ∀ {S : Sto}, ChQ q v S c js bs as → ∀ m : Str, m ∈ [("joints" : Str), ("stands" : Str), ("places" : Str), ("tip" : Str)] → ∃ (k : Nat) (fs : List (Str × R)), S[k]? = some (O.ob c "Chain" fs) ∧ fs.lookup m = none := fun ch m hm => by
      simp only [List.mem_cons, List.not_mem_nil, or_false] at hm
      rcases hm with rfl | rfl | rfl | rfl <;> exact ch.meth (by decide +kernel) (by decide +kernel) (by decide +kernel)
    unfold w_l_chain_told
    wide_open with (sp_Chain_joints, if_true)
    refine ⟨mt ch _ (by simp), q, v, js, bs, as, ch, ?_⟩
    wide_open with (sp_Chain_stands, if_true)
    refine ⟨mt ch _ (by simp), q, v, js, bs, as, ch, jl, fo, by omega, mt (ch.app _) _ (by simp), ?_⟩
    have ch2 := ch.app [O.lst (stL js (js.length + 1)), O.lst (plL js (js.length + 1))]
    have l2 : (S ++ [O.lst (stL js (js.length + 1)), O.lst (plL js (js.length + 1))]).length = S.length + 2 := by rw [List.length_append]; rfl
    have e2 : (S ++ [O.lst (stL js (js.length + 1)), O.lst (plL js (js.length + 1))]).take S.length = S := List.take_left
    generalize S ++ [O.lst (stL js (js.length + 1)), O.lst (plL js (js.length + 1))] = S2 at *
    wide_open with (sp_Chain_places, if_true)
    have ch3 := ch2.app [O.lst (stL js (js.length + 1)), O.lst (plL js (js.length + 1))]
    refine ⟨q, v, js, bs, as, ch2, jl, fo, by omega, mt ch3 _ (by simp), ?_⟩
    have l3 : (S2 ++ [O.lst (stL js (js.length + 1)), O.lst (plL js (js.length + 1))]).length = S2.length + 2 := by rw [List.length_append]; rfl
    have e3 : (S2 ++ [O.lst (stL js (js.length + 1)), O.lst (plL js (js.length + 1))]).take S.length = S := by rw [List.take_append_of_le_length (by omega)]; exact e2
    generalize S2 ++ [O.lst (stL js (js.length + 1)), O.lst (plL js (js.length + 1))] = S3 at *
    wide_open with (sp_Chain_tip, if_true)
    refine ⟨q, v, js, bs, as, ch3, jl, fo, ?_⟩
    wide_open with (dataOf, if_true)
    rw [if_neg (by simp; omega), List.take_append_of_le_length (by omega), e3]
    exact h
  · exact h.elim
/-- slots: 0 _law_thing, 1 _law_told, 2 _law_seen, 3 _law_number_here, 4 _law_many, 5 _law_k, 6 _law_twin, 7 _law_some -/
def w_l_held_Chain (fa_l_chain_told : Addr) : PX1 :=
  (xSeq (xL (wSet 4 (wBin pMod (wVar 3) (wFn fLen (wCons (wVar 1) wNil)))))
  (xSeq (xL (wFor (wRng1 (wCons (wVar 4) wNil)) (fNm 5) (wSeq (wDrop (wwMeth "Chain" "back" sp_Chain_back 1 (wVar 0) wNil))
  (wIf (wTest (wBin pNe (wVCall 2 fa_l_chain_told sp_l_chain_told 1 (wCons (wVar 0) wNil)) (wBin pIx (wVar 1) (wBin pSub (wUn pNeg (wC (.int 2))) (wVar 5))))) (wRet (wC (.bl false))) wNext))))
  (xSeq (xL (wSet 6 (wwMeth "Chain" "twin" sp_Chain_twin 1 (wVar 0) wNil)))
  (xSeq (xL (wFor (wItA (wLstA (wCons (wVar 6) (wCons (wVar 0) wNil)))) (fNm 7) (wSeq (wFor (wRng1 (wCons (wVar 4) wNil)) (fNm 5) (wSeq (wDrop (wwMeth "Chain" "again" sp_Chain_again 1 (wVar 7) wNil))
  (wIf (wTest (wBin pNe (wVCall 2 fa_l_chain_told sp_l_chain_told 1 (wCons (wVar 7) wNil)) (wBin pIx (wVar 1) (wBin pAddI (wBin pSub (wFn fLen (wCons (wVar 1) wNil)) (wVar 4)) (wVar 5))))) (wRet (wC (.bl false))) wNext)))
  (wIf (wNotT (wTest (wwCall sp_l_no_deed_Chain 2 (wCons (wVar 7) (wCons (wC (.bl true)) wNil))))) (wRet (wC (.bl false))) wNext))))
  (xSeq (xL (wFor (wRng1 (wCons (wBin pSub (wFn fLen (wCons (wVar 1) wNil)) (wC (.int 1))) wNil)) (fNm 5) (wSeq (wDrop (wwMeth "Chain" "back" sp_Chain_back 1 (wVar 6) wNil))
  (wIf (wTest (wBin pNe (wVCall 2 fa_l_chain_told sp_l_chain_told 1 (wCons (wVar 6) wNil)) (wBin pIx (wVar 1) (wBin pSub (wUn pNeg (wC (.int 2))) (wVar 5))))) (wRet (wC (.bl false))) wNext))))
  (xL (wRet (wAndV (wwCall sp_l_no_deed_Chain 2 (wCons (wVar 6) (wCons (wC (.bl false)) wNil))) (wBin pEq (wVCall 2 fa_l_chain_told sp_l_chain_told 1 (wCons (wVar 0) wNil)) (wBin pIx (wVar 1) (wUn pNeg (wC (.int 1)))))))))))))
theorem hc_up (fa : Addr) {E : En} {k t : Nat} {n : Int} {M N : Nat} {y0 y5 y6 y7 : Option R} {c : Addr} {H : List Js} {S : Sto} {q : Nat → Nat} {x : Nat} (hN : H.length = N + 1) (n100 : N ≤ 100) (hM : M ≤ N) (ok : ∀ s ∈ H, OkCw s) (told : S[t]? = some (.lst (cTolds H))) (ht : q t ≠ x) (x9 : x ≠ 9) (at0 : AtC H q x S c (N - M))
    (fin : ∀ (o2 : Nat → Nat) (S2 : Sto) (y5 : Option R), (ExQ S q o2 ∧ FrQ q x S S2) → AtC H o2 x S2 c (N) → E.nx [y0, some (.loc t), some (.ad fa), some (.d (.int n)), some (.d (.int ((M : Nat) : Int))), y5, y6, some (.ad c)] S2) :
    forL k (fun _ => True) (fNm 5) (wSeq (wDrop (wwMeth "Chain" "again" sp_Chain_again 1 (wVar 7) wNil)) (wIf (wTest (wBin pNe (wVCall 2 fa sp_l_chain_told 1 (wCons (wVar 7) wNil)) (wBin pIx (wVar 1) (wBin pAddI (wBin pSub (wFn fLen (wCons (wVar 1) wNil)) (wVar 4)) (wVar 5))))) (wRet (wC (.bl false))) wNext)) E (rgR 0 M) [y0, some (.loc t), some (.ad fa), some (.d (.int n)), some (.d (.int ((M : Nat) : Int))), y5, y6, some (.ad c)] S := by
  have tl := get_len told
  refine forL_ix (fun i r S1 => ∃ (o1 : Nat → Nat) (y5 : Option R), r = [y0, some (.loc t), some (.ad fa), some (.d (.int n)), some (.d (.int ((M : Nat) : Int))), y5, y6, some (.ad c)] ∧ (ExQ S q o1 ∧ FrQ q x S S1) ∧ AtC H o1 x S1 c (N - M + i)) ?_ ?_ ⟨q, _, rfl, ⟨ExQ.refl, FrQ.refl⟩, at0⟩
  · rintro i z hz r S1 ⟨o1, y5, rfl, ⟨ox, fr⟩, tt, et, bd⟩ Mx hMx
    obtain ⟨il, rfl⟩ := rgR_get hz
    have t1 : o1 t ≠ x := by rw [ox t tl]; exact ht
    have told1 := fr.2 _ _ told ht
    have mt : ∀ {q : Nat → Nat} {S : Sto} {s : Js} {bs as : List Js}, ChQ q x S c s bs as → ∀ m : Str, m ∈ [("back" : Str), ("again" : Str)] → ∃ (k : Nat) (fs : List (Str × R)), S[k]? = some (O.ob c "Chain" fs) ∧ fs.lookup m = none := fun bd m hm => by
      simp only [List.mem_cons, List.not_mem_nil, or_false] at hm
      rcases hm with rfl | rfl <;> exact bd.meth (by decide +kernel) (by decide +kernel) (by decide +kernel)
    obtain ⟨t2, e2⟩ : ∃ t2, H[N - M + i + 1]? = some t2 := ⟨_, List.getElem?_eq_getElem (by omega)⟩
    rw [hist_next e2] at bd
    have tk := hist_take et
    have ix : getI (cTolds H) ((((N + 1 : Nat) : Int) - (M : Int)) + (0 + (i : Int))) = some (.lst (cToldL t2)) := by
      rw [getI_of (by omega) (by rw [List.length_map]; omega), show ((((N + 1 : Nat) : Int) - (M : Int)) + (0 + (i : Int))).toNat = N - M + i + 1 by omega]
      rw [List.getElem?_map, e2]; rfl
    have ok2 := ok t2 (List.mem_of_getElem? e2)
    refine ⟨trivial, ?_⟩
    wide_open with (if_true, if_true)
    refine ⟨mt bd _ (by simp), ?_⟩
    unfold sp_Chain_again
    refine ⟨o1, x, tt, _, _, x9, bd, by simp; omega, fun e => by simp at e, fun as' s' e S2 fr2 bd2 => ?_⟩
    obtain ⟨rfl, e4⟩ := List.append_inj' e rfl
    cases e4
    rw [← tk] at bd2
    have told2 := fr2.2 _ _ told1 t1
    have at2 : AtC H o1 x S2 c (N - M + i + 1) := ⟨t2, e2, bd2⟩
    have fr3 := fr.trans fr2 ox
    wide_open with (if_true, if_true)
    refine ⟨rfl, rfl, ?_⟩
    unfold sp_l_chain_told
    refine ⟨o1, x, t2, _, _, bd2, ok2, ?_⟩
    have told3 := gapp (Y := [.lst (cToldL t2)]) told2
    have g3 : (S2 ++ [.lst (cToldL t2)])[S2.length]? = some (O.lst (cToldL t2)) := List.getElem?_concat_length
    have at3 := at2.app [.lst (cToldL t2)]
    have fr4 := fr3.app [.lst (cToldL t2)]
    have dd := dp_ctold ok2
    generalize S2 ++ [.lst (cToldL t2)] = S3 at *
    wide_open with (told3, g3, List.length_map, hN)
    wide_open with (ix, if_true)
    refine ⟨by omega, ?_⟩
    rw [eqv_pys]
    wide_open with (if_true, if_true)
    exact ⟨_, _, Cut.refl, hMx _ _ ⟨o1, _, rfl, ⟨ox, fr4⟩, at3⟩⟩
  · rintro r S1 ⟨o1, y5, rfl, st, h1⟩
    rw [rgR_len] at h1
    refine ⟨trivial, fin o1 S1 y5 st ?_⟩
    rwa [show N - M + M = N by omega] at h1
theorem hc_dn0 (fa : Addr) {E : En} {k t : Nat} {n : Int} {M N : Nat} {y0 y5 y6 y7 : Option R} {c : Addr} {H : List Js} {S : Sto} {q : Nat → Nat} {x : Nat} (hN : H.length = N + 1) (n100 : N ≤ 100) (T : Nat) (hT : T ≤ N) (ok : ∀ s ∈ H, OkCw s) (told : S[t]? = some (.lst (cTolds H))) (ht : q t ≠ x) (x9 : x ≠ 9) (at0 : AtC H q x S c (N))
    (fin : ∀ (o2 : Nat → Nat) (S2 : Sto) (y5 : Option R), (ExQ S q o2 ∧ FrQ q x S S2) → AtC H o2 x S2 c (N - T) → E.nx [some (.ad c), some (.loc t), some (.ad fa), some (.d (.int n)), some (.d (.int ((M : Nat) : Int))), y5, y6, y7] S2) :
    forL k (fun _ => True) (fNm 5) (wSeq (wDrop (wwMeth "Chain" "back" sp_Chain_back 1 (wVar 0) wNil)) (wIf (wTest (wBin pNe (wVCall 2 fa sp_l_chain_told 1 (wCons (wVar 0) wNil)) (wBin pIx (wVar 1) (wBin pSub (wUn pNeg (wC (.int 2))) (wVar 5))))) (wRet (wC (.bl false))) wNext)) E (rgR 0 T) [some (.ad c), some (.loc t), some (.ad fa), some (.d (.int n)), some (.d (.int ((M : Nat) : Int))), y5, y6, y7] S := by
  have tl := get_len told
  refine forL_ix (fun i r S1 => ∃ (o1 : Nat → Nat) (y5 : Option R), r = [some (.ad c), some (.loc t), some (.ad fa), some (.d (.int n)), some (.d (.int ((M : Nat) : Int))), y5, y6, y7] ∧ (ExQ S q o1 ∧ FrQ q x S S1) ∧ AtC H o1 x S1 c (N - i)) ?_ ?_ ⟨q, _, rfl, ⟨ExQ.refl, FrQ.refl⟩, by simpa using at0⟩
  · rintro i z hz r S1 ⟨o1, y5, rfl, ⟨ox, fr⟩, tt, et, bd⟩ Mx hMx
    obtain ⟨il, rfl⟩ := rgR_get hz
    have t1 : o1 t ≠ x := by rw [ox t tl]; exact ht
    have told1 := fr.2 _ _ told ht
    have mt : ∀ {q : Nat → Nat} {S : Sto} {s : Js} {bs as : List Js}, ChQ q x S c s bs as → ∀ m : Str, m ∈ [("back" : Str), ("again" : Str)] → ∃ (k : Nat) (fs : List (Str × R)), S[k]? = some (O.ob c "Chain" fs) ∧ fs.lookup m = none := fun bd m hm => by
      simp only [List.mem_cons, List.not_mem_nil, or_false] at hm
      rcases hm with rfl | rfl <;> exact bd.meth (by decide +kernel) (by decide +kernel) (by decide +kernel)
    obtain ⟨j, ej⟩ : ∃ j, N - i = j + 1 := ⟨N - i - 1, by omega⟩
    rw [ej] at et bd
    obtain ⟨t2, e2⟩ : ∃ t2, H[j]? = some t2 := ⟨_, List.getElem?_eq_getElem (by omega)⟩
    rw [hist_take e2] at bd
    have tk := hist_next et
    have ix : getI (cTolds H) (-2 - (0 + (i : Int))) = some (.lst (cToldL t2)) := by
      have ll : (cTolds H).length = N + 1 := by rw [List.length_map]; exact hN
      unfold getI
      rw [if_neg (by omega), if_pos (by rw [ll]; omega), ll, show ((-2 - (0 + (i : Int))) + ((N + 1 : Nat) : Int)).toNat = j by omega]
      rw [List.getElem?_map, e2]; rfl
    have ok2 := ok t2 (List.mem_of_getElem? e2)
    refine ⟨trivial, ?_⟩
    wide_open with (if_true, if_true)
    refine ⟨mt bd _ (by simp), ?_⟩
    unfold sp_Chain_back
    refine ⟨o1, x, tt, _, _, x9, bd, by simp; omega, fun e => by simp at e, fun as' s' e S2 fr2 bd2 => ?_⟩
    obtain ⟨rfl, e4⟩ := List.append_inj' e rfl
    cases e4
    rw [← tk] at bd2
    have told2 := fr2.2 _ _ told1 t1
    have at2 : AtC H o1 x S2 c (j) := ⟨t2, e2, bd2⟩
    have fr3 := fr.trans fr2 ox
    wide_open with (if_true, if_true)
    refine ⟨rfl, rfl, ?_⟩
    unfold sp_l_chain_told
    refine ⟨o1, x, t2, _, _, bd2, ok2, ?_⟩
    have told3 := gapp (Y := [.lst (cToldL t2)]) told2
    have g3 : (S2 ++ [.lst (cToldL t2)])[S2.length]? = some (O.lst (cToldL t2)) := List.getElem?_concat_length
    have at3 := at2.app [.lst (cToldL t2)]
    have fr4 := fr3.app [.lst (cToldL t2)]
    have dd := dp_ctold ok2
    generalize S2 ++ [.lst (cToldL t2)] = S3 at *
    wide_open with (told3, g3, List.length_map, hN)
    wide_open with (ix, if_true)
    refine ⟨by omega, ?_⟩
    rw [eqv_pys]
    wide_open with (if_true, if_true)
    exact ⟨_, _, Cut.refl, hMx _ _ ⟨o1, _, rfl, ⟨ox, fr4⟩, by rw [show N - (i + 1) = j by omega]; exact at3⟩⟩
  · rintro r S1 ⟨o1, y5, rfl, st, h1⟩
    rw [rgR_len] at h1
    refine ⟨trivial, fin o1 S1 y5 st ?_⟩
    exact h1
theorem hc_dn6 (fa : Addr) {E : En} {k t : Nat} {n : Int} {M N : Nat} {y0 y5 y6 y7 : Option R} {c : Addr} {H : List Js} {S : Sto} {q : Nat → Nat} {x : Nat} (hN : H.length = N + 1) (n100 : N ≤ 100) (T : Nat) (hT : T ≤ N) (ok : ∀ s ∈ H, OkCw s) (told : S[t]? = some (.lst (cTolds H))) (ht : q t ≠ x) (x9 : x ≠ 9) (at0 : AtC H q x S c (N))
    (fin : ∀ (o2 : Nat → Nat) (S2 : Sto) (y5 : Option R), (ExQ S q o2 ∧ FrQ q x S S2) → AtC H o2 x S2 c (N - T) → E.nx [y0, some (.loc t), some (.ad fa), some (.d (.int n)), some (.d (.int ((M : Nat) : Int))), y5, some (.ad c), y7] S2) :
    forL k (fun _ => True) (fNm 5) (wSeq (wDrop (wwMeth "Chain" "back" sp_Chain_back 1 (wVar 6) wNil)) (wIf (wTest (wBin pNe (wVCall 2 fa sp_l_chain_told 1 (wCons (wVar 6) wNil)) (wBin pIx (wVar 1) (wBin pSub (wUn pNeg (wC (.int 2))) (wVar 5))))) (wRet (wC (.bl false))) wNext)) E (rgR 0 T) [y0, some (.loc t), some (.ad fa), some (.d (.int n)), some (.d (.int ((M : Nat) : Int))), y5, some (.ad c), y7] S := by
  have tl := get_len told
  refine forL_ix (fun i r S1 => ∃ (o1 : Nat → Nat) (y5 : Option R), r = [y0, some (.loc t), some (.ad fa), some (.d (.int n)), some (.d (.int ((M : Nat) : Int))), y5, some (.ad c), y7] ∧ (ExQ S q o1 ∧ FrQ q x S S1) ∧ AtC H o1 x S1 c (N - i)) ?_ ?_ ⟨q, _, rfl, ⟨ExQ.refl, FrQ.refl⟩, by simpa using at0⟩
  · rintro i z hz r S1 ⟨o1, y5, rfl, ⟨ox, fr⟩, tt, et, bd⟩ Mx hMx
    obtain ⟨il, rfl⟩ := rgR_get hz
    have t1 : o1 t ≠ x := by rw [ox t tl]; exact ht
    have told1 := fr.2 _ _ told ht
    have mt : ∀ {q : Nat → Nat} {S : Sto} {s : Js} {bs as : List Js}, ChQ q x S c s bs as → ∀ m : Str, m ∈ [("back" : Str), ("again" : Str)] → ∃ (k : Nat) (fs : List (Str × R)), S[k]? = some (O.ob c "Chain" fs) ∧ fs.lookup m = none := fun bd m hm => by
      simp only [List.mem_cons, List.not_mem_nil, or_false] at hm
      rcases hm with rfl | rfl <;> exact bd.meth (by decide +kernel) (by decide +kernel) (by decide +kernel)
    obtain ⟨j, ej⟩ : ∃ j, N - i = j + 1 := ⟨N - i - 1, by omega⟩
    rw [ej] at et bd
    obtain ⟨t2, e2⟩ : ∃ t2, H[j]? = some t2 := ⟨_, List.getElem?_eq_getElem (by omega)⟩
    rw [hist_take e2] at bd
    have tk := hist_next et
    have ix : getI (cTolds H) (-2 - (0 + (i : Int))) = some (.lst (cToldL t2)) := by
      have ll : (cTolds H).length = N + 1 := by rw [List.length_map]; exact hN
      unfold getI
      rw [if_neg (by omega), if_pos (by rw [ll]; omega), ll, show ((-2 - (0 + (i : Int))) + ((N + 1 : Nat) : Int)).toNat = j by omega]
      rw [List.getElem?_map, e2]; rfl
    have ok2 := ok t2 (List.mem_of_getElem? e2)
    refine ⟨trivial, ?_⟩
    wide_open with (if_true, if_true)
    refine ⟨mt bd _ (by simp), ?_⟩
    unfold sp_Chain_back
    refine ⟨o1, x, tt, _, _, x9, bd, by simp; omega, fun e => by simp at e, fun as' s' e S2 fr2 bd2 => ?_⟩
    obtain ⟨rfl, e4⟩ := List.append_inj' e rfl
    cases e4
    rw [← tk] at bd2
    have told2 := fr2.2 _ _ told1 t1
    have at2 : AtC H o1 x S2 c (j) := ⟨t2, e2, bd2⟩
    have fr3 := fr.trans fr2 ox
    wide_open with (if_true, if_true)
    refine ⟨rfl, rfl, ?_⟩
    unfold sp_l_chain_told
    refine ⟨o1, x, t2, _, _, bd2, ok2, ?_⟩
    have told3 := gapp (Y := [.lst (cToldL t2)]) told2
    have g3 : (S2 ++ [.lst (cToldL t2)])[S2.length]? = some (O.lst (cToldL t2)) := List.getElem?_concat_length
    have at3 := at2.app [.lst (cToldL t2)]
    have fr4 := fr3.app [.lst (cToldL t2)]
    have dd := dp_ctold ok2
    generalize S2 ++ [.lst (cToldL t2)] = S3 at *
    wide_open with (told3, g3, List.length_map, hN)
    wide_open with (ix, if_true)
    refine ⟨by omega, ?_⟩
    rw [eqv_pys]
    wide_open with (if_true, if_true)
    exact ⟨_, _, Cut.refl, hMx _ _ ⟨o1, _, rfl, ⟨ox, fr4⟩, by rw [show N - (i + 1) = j by omega]; exact at3⟩⟩
  · rintro r S1 ⟨o1, y5, rfl, st, h1⟩
    rw [rgR_len] at h1
    refine ⟨trivial, fin o1 S1 y5 st ?_⟩
    exact h1
def sp_l_held_Chain (fa : Addr) : SpW := fun rs S W _ => match rs with
  | [.ad c, .loc t, .ad f, .d (.int n)] => f = fa ∧ ∃ (H : List Js) (q : Nat → Nat) (x : Nat) (N : Nat), 0 ≤ n ∧ n ≤ 1000 ∧ H.length = N + 1 ∧ N ≤ 100 ∧ 0 < x ∧ x < 9 ∧ AtC H q x S c N ∧ S[t]? = some (.lst (cTolds H)) ∧ q t ≠ x ∧ (∀ s ∈ H, OkCw s) ∧ ∀ (q2 : Nat → Nat) (S2 : Sto), ExQ S q q2 → FrQ q x S S2 → AtC H q2 x S2 c N → W (.d (.bl true)) S2
  | _ => False
theorem rd_l_held_Chain : ∀ fa_l_chain_told : Addr, ∀ rs S W XW, rs.length = 4 → (sp_l_held_Chain fa_l_chain_told) rs S W XW → (w_l_held_Chain fa_l_chain_told) { n := { nx := fun _ S1 => W (.d .non) S1, rt := W }, ex := fun x _ S1 => XW x S1 } (start1 8 rs) S := by
  intro fa rs S W XW _ h
  unfold sp_l_held_Chain at h
  split at h
  · rename_i c t f n _
    obtain ⟨rfl, h⟩ := h
    obtain ⟨H, q0, x, N, n0, n1, hN, n100, x0, x9, at0, told, ht, ok, h⟩ := h
    have cap : ∀ (i y : Nat), 0 < y → capQ q0 i = y → q0 i = y := fun i y y0 e => by
      unfold capQ at e
      split at e
      · exact e
      · omega
    replace at0 : AtC H (capQ q0) x S c N := by
      obtain ⟨t, e, b⟩ := at0
      exact ⟨t, e, KeepQ.recol b (capQ_eq (by omega)) (capQ_eq (by decide))⟩
    replace ht : capQ q0 t ≠ x := fun e => ht (cap t x x0 e)
    replace h : ∀ (q2 : Nat → Nat) (S2 : Sto), ExQ S (capQ q0) q2 → FrQ (capQ q0) x S S2 → AtC H q2 x S2 c N → W (.d (.bl true)) S2 := fun q2 S2 ex fr at2 => h (fun i => if i < S.length then q0 i else q2 i) S2 (fun i hi => if_pos hi) (capQ_fr x0 fr) (by
      obtain ⟨t, e, b⟩ := at2
      have key : ∀ (i y : Nat), 0 < y → q2 i = y → (if i < S.length then q0 i else q2 i) = y := fun i y y0 e => by
        split
        · rename_i hi
          rw [ex i hi] at e
          exact cap i y y0 e
        · exact e
      exact ⟨t, e, KeepQ.recol b (fun i => key i x x0) (fun i => key i 9 (by decide))⟩)
    have q20 := capQ_lt q0
    generalize capQ q0 = q at *
    unfold w_l_held_Chain
    have mt : ∀ {q : Nat → Nat} {x : Nat} {S : Sto} {s : Js} {bs as : List Js} {c : Addr}, ChQ q x S c s bs as → ∀ m : Str, m ∈ [("twin" : Str)] → ∃ (k : Nat) (fs : List (Str × R)), S[k]? = some (O.ob c "Chain" fs) ∧ fs.lookup m = none := fun bd m hm => by
      simp only [List.mem_cons, List.not_mem_nil, or_false] at hm
      rcases hm with rfl; exact bd.meth (by decide +kernel) (by decide +kernel) (by decide +kernel)
    refine xseqI fun P hP => ?_
    wide_open with (told, List.length_map, hN)
    refine ⟨by omega, ?_⟩
    obtain ⟨M, eM, hM⟩ : ∃ M : Nat, n.fmod ((N + 1 : Nat) : Int) = (M : Int) ∧ M ≤ N := ⟨(n % ((N + 1 : Nat) : Int)).toNat, by rw [fmod_pos (by omega)]; have := Int.emod_nonneg n (show ((N + 1 : Nat) : Int) ≠ 0 by omega); omega, by have := Int.emod_lt_of_pos n (show (0 : Int) < ((N + 1 : Nat) : Int) by omega); omega⟩
    rw [eM]
    refine hP _ _ ?_; clear hP
    refine xseqI fun P hP => ?_
    wide_open with (if_true, if_true)
    refine ⟨by omega, by omega, ?_⟩
    rw [Int.toNat_natCast]
    refine hc_dn0 (y0 := none) f hN n100 M hM ok told ht (by omega) at0 (fun o1 S1 y5 ⟨ox, fr⟩ at1 => ?_)
    have told1 := fr.2 _ _ told ht
    have tl := get_len told
    have t1 : o1 t ≠ x := by rw [ox t tl]; exact ht
    refine hP _ _ ?_; clear hP
    refine xseqI fun P hP => ?_
    wide_open with (if_true, if_true)
    obtain ⟨tt, et, bd⟩ := id at1
    refine ⟨mt bd _ (by simp), ?_⟩
    unfold sp_Chain_twin
    refine ⟨o1, x, 20, tt, _, _, bd, fun c2 q2 S2 ex2 pf tw => ?_⟩
    have at2 : AtC H q2 x S2 c (N - M) := ⟨tt, et, (bd.ext ex2).frB pf⟩
    have tw2 : AtC H q2 20 S2 c2 (N - M) := ⟨tt, et, tw⟩
    have told2 := pf.2 _ _ told1 (.inl (by simp))
    have exS2 := ox.trans ex2 fr.1
    have fr2 : FrQ q x S S2 := fr.trans (pf.toQ (q := o1)) ox
    refine hP _ _ ?_; clear hP
    refine xseqI fun P hP => ?_
    wide_open with (if_true, if_true)
    refine fun a => ⟨_, _, List.getElem?_concat_length, ?_⟩
    have e3 := ex_colN S2 30 q2
    have hl : (S2 ++ [O.la a [R.ad c2, R.ad c]])[S2.length]? = some (O.la a [R.ad c2, R.ad c]) := List.getElem?_concat_length
    have at3 := (at2.ext e3).app [O.la a [R.ad c2, R.ad c]]
    have tw3 := (tw2.ext e3).app [O.la a [R.ad c2, R.ad c]]
    have told3 := gapp (Y := [O.la a [R.ad c2, R.ad c]]) told2
    have fr3 := fr2.app [O.la a [R.ad c2, R.ad c]]
    have exS3 := exS2.trans e3 fr2.1
    have qk : colN S2.length 30 q2 S2.length = 30 := colN_ge (Nat.le_refl _)
    have l3 : (S2 ++ [O.la a [R.ad c2, R.ad c]]).length = S2.length + 1 := by simp
    generalize colN S2.length 30 q2 = q3 at *
    generalize S2 ++ [O.la a [R.ad c2, R.ad c]] = S3 at *
    generalize hk2 : S2.length = k2 at *
    have last0 : (H.drop (N + 1)).reverse = [] := by rw [List.drop_of_length_le (by omega)]; rfl
    refine forL_cons hl (show wSeq _ _ _ _ _ from seqI fun P1 h1 => ?_)
    wide_open with (if_true, if_true)
    refine ⟨by omega, by omega, ?_⟩
    rw [Int.toNat_natCast]
    have qt := q20 t
    refine hc_up (y7 := none) f hN n100 hM ok told3 (by rw [exS3 t tl]; omega) (by decide) tw3 (fun p2 S4 y5 ⟨ex4, pf4⟩ tw4 => ?_)
    refine h1 _ _ ?_
    clear h1
    obtain ⟨t4, e4, b4⟩ := id tw4
    rw [last0] at b4
    wide_open with (if_true, if_true)
    unfold sp_l_no_deed_Chain
    refine ⟨p2, 20, t4, _, _, by decide, b4, by simp, by simp; omega, rfl, ?_⟩
    wide_open with (if_true, if_true)
    have at4 : AtC H p2 x S4 c (N - M) := (at3.ext ex4).fr (pf4.ext ex4) (by omega) (by decide)
    have hl4 := pf4.2 _ _ hl (by rw [qk]; decide)
    have told4 := pf4.2 _ _ told3 (by rw [exS3 t tl]; omega)
    have fr4 : FrQ q x S S4 := ⟨Nat.le_trans fr3.1 pf4.1, fun i o e z => pf4.2 i o (fr3.2 i o e z) (by have := q20 i; rw [exS3 i (get_len e)]; omega)⟩
    have exS4 := exS3.trans ex4 fr3.1
    have qk4 : p2 k2 = 30 := (ex4 k2 (by omega)).trans qk
    refine ⟨_, _, Cut.refl, ?_⟩
    refine forL_cons hl4 (show wSeq _ _ _ _ _ from seqI fun P1 h1 => ?_)
    wide_open with (if_true, if_true)
    refine ⟨by omega, by omega, ?_⟩
    rw [Int.toNat_natCast]
    refine hc_up (y7 := none) f hN n100 hM ok told4 (by rw [exS4 t tl]; exact ht) (by omega) at4 (fun o2 S5 y5 ⟨ex5, of5⟩ at5 => ?_)
    refine h1 _ _ ?_
    clear h1
    obtain ⟨t5, e5, b5⟩ := id at5
    rw [last0] at b5
    wide_open with (if_true, if_true)
    refine ⟨o2, x, t5, _, _, by omega, b5, by simp, by simp; omega, rfl, ?_⟩
    have tw5 : AtC H o2 20 S5 c2 N := (tw4.ext ex5).fr (of5.ext ex5) (by omega) (by omega)
    have hl5 := of5.2 _ _ hl4 (by rw [qk4]; omega)
    have told5 := of5.2 _ _ told4 (by rw [exS4 t tl]; exact ht)
    have fr5 : FrQ q x S S5 := fr4.trans of5 exS4
    have exS5 := exS4.trans ex5 fr4.1
    refine ⟨_, _, Cut.refl, ?_⟩
    refine forL_nil hl5 ?_
    refine hP _ _ ?_; clear hP
    refine xseqI fun P hP => ?_
    wide_open with (told5, List.length_map, hN)
    refine ⟨by omega, by omega, ?_⟩
    rw [show (((N + 1 : Nat) : Int) - 1).toNat = N by omega]
    refine hc_dn6 (y6 := none) f hN n100 N (Nat.le_refl _) ok told5 (by rw [exS5 t tl]; omega) (by decide) tw5 (fun p3 S6 y5 ⟨ex6, pf6⟩ tw6 => ?_)
    have at6 : AtC H p3 x S6 c N := (at5.ext ex6).fr (pf6.ext ex6) (by omega) (by decide)
    have told6 := pf6.2 _ _ told5 (by rw [exS5 t tl]; omega)
    have fr6 : FrQ q x S S6 := ⟨Nat.le_trans fr5.1 pf6.1, fun i o e z => pf6.2 i o (fr5.2 i o e z) (by have := q20 i; rw [exS5 i (get_len e)]; omega)⟩
    have exS6 := exS5.trans ex6 fr5.1
    obtain ⟨t6, e6, b6⟩ := id tw6
    rw [Nat.sub_self, List.take_zero] at b6
    obtain ⟨t7, e7, b7⟩ := id at6
    refine hP _ _ ?_; clear hP
    wide_open with (if_true, if_true)
    unfold sp_l_no_deed_Chain
    refine ⟨p3, 20, t6, _, _, by decide, b6, by simp; omega, by simp, rfl, ?_⟩
    have ok7 := ok t7 (List.mem_of_getElem? e7)
    wide_open with (if_true, if_true)
    refine ⟨rfl, rfl, ?_⟩
    unfold sp_l_chain_told
    refine ⟨p3, x, t7, _, _, b7, ok7, ?_⟩
    have at8 := at6.app [.lst (cToldL t7)]
    have told8 := gapp (Y := [.lst (cToldL t7)]) told6
    have fr8 := fr6.app [.lst (cToldL t7)]
    have g8 : (S6 ++ [.lst (cToldL t7)])[S6.length]? = some (O.lst (cToldL t7)) := List.getElem?_concat_length
    have dd := dp_ctold ok7
    generalize S6 ++ [.lst (cToldL t7)] = S8 at *
    have ix : getI (cTolds H) (-1) = some (.lst (cToldL t7)) := by
      have ll : (cTolds H).length = N + 1 := by rw [List.length_map]; exact hN
      unfold getI
      rw [if_neg (by omega), if_pos (by rw [ll]; omega), ll, show ((-1 : Int) + ((N + 1 : Nat) : Int)).toNat = N by omega]
      rw [List.getElem?_map, e7]; rfl
    wide_open with (told8, g8)
    wide_open with (ix, if_true)
    refine ⟨by omega, ?_⟩
    rw [eqv_pys]
    exact h p3 S8 exS6 fr8 at8
  · exact h.elim
/-- slots: 0 _law_script, 1 _law_purse_here, 2 _law_names_here, 3 _law_body, 4 _law_chain, 5 _law_told, 6 _law_k, 7 _law_shown, 8 _law_twin -/
def w_law (fa_l_body_told fa_l_chain_told : Addr) : PS1 :=
  (wSeq (wSet 1 (wCall sp_l_purse 1 (wCons (wVar 0) wNil)))
  (wSeq (wSet 2 (wCall sp_l_names 1 (wCons (wVar 1) wNil)))
  (wSeq (wSet 3 (wMk0 "Body" sp_Body___init__))
  (wSeq (wSet 4 (wMk0 "Chain" sp_Chain___init__))
  (wSeq (wSet 5 (wLst (wCons (wFzL (wwCall sp_l_body_told 1 (wCons (wVar 3) wNil))) wNil)))
  (wSeq (wFor (wRng1 (wCons (wCall sp_l_draw 2 (wCons (wVar 1) (wCons (wC (.int 13)) wNil))) wNil)) (fNm 6) (wSeq (wDrop (wwCall sp_l_body_deed 3 (wCons (wVar 1) (wCons (wVar 3) (wCons (wVar 2) wNil)))))
  (wDrop (wApp (wVar 5) (wFzL (wwCall sp_l_body_told 1 (wCons (wVar 3) wNil)))))))
  (wSeq (wSet 7 (wLst (wCons (wFzL (wwCall sp_l_chain_told 1 (wCons (wVar 4) wNil))) wNil)))
  (wSeq (wFor (wRng1 (wCons (wCall sp_l_draw 2 (wCons (wVar 1) (wCons (wC (.int 11)) wNil))) wNil)) (fNm 6) (wSeq (wDrop (wwCall sp_l_chain_deed 2 (wCons (wVar 1) (wCons (wVar 4) wNil))))
  (wDrop (wApp (wVar 7) (wFzL (wwCall sp_l_chain_told 1 (wCons (wVar 4) wNil)))))))
  (wSeq (wIf (wNotT (wTest (wwCall (sp_l_held_Body fa_l_body_told) 4 (wCons (wVar 3) (wCons (wVar 5) (wCons (wFnV fa_l_body_told) (wCons (wCall sp_l_draw 2 (wCons (wVar 1) (wCons (wC (.int 99)) wNil))) wNil))))))) (wRet (wC (.bl false))) wNext)
  (wSeq (wIf (wNotT (wTest (wwCall (sp_l_held_Chain fa_l_chain_told) 4 (wCons (wVar 4) (wCons (wVar 7) (wCons (wFnV fa_l_chain_told) (wCons (wCall sp_l_draw 2 (wCons (wVar 1) (wCons (wC (.int 99)) wNil))) wNil))))))) (wRet (wC (.bl false))) wNext)
  (wSeq (wDrop (wwMeth "Body" "room" sp_Body_room 2 (wVar 3) (wCons (wTup (wCons (wC (.int 1)) (wCons (wC (.int 1)) (wCons (wC (.int 0)) (wCons (wC (.int 0)) wNil))))) wNil)))
  (wSeq (wDrop (wwMeth "Body" "back" sp_Body_back 1 (wVar 3) wNil))
  (wSeq (wSet 8 (wwMeth "Body" "twin" sp_Body_twin 1 (wVar 3) wNil))
  (wSeq (wDrop (wwMeth "Body" "mark" sp_Body_mark 2 (wVar 8) (wCons (wBin pIx (wVar 2) (wC (.int 0))) wNil)))
  (wSeq (wIf (wOrT (wNotT (wTest (wwCall sp_l_no_deed_Body 2 (wCons (wVar 8) (wCons (wC (.bl true)) wNil))))) (wTest (wwCall sp_l_no_deed_Body 2 (wCons (wVar 3) (wCons (wC (.bl true)) wNil))))) (wRet (wC (.bl false))) wNext)
  (wSeq (wDrop (wwMeth "Body" "back" sp_Body_back 1 (wVar 3) wNil))
  (wRet (wBin pEq (wwCall sp_l_body_told 1 (wCons (wVar 3) wNil)) (wBin pIx (wVar 5) (wUn pNeg (wC (.int 1))))))))))))))))))))))
def sp_law : SpZ := spLaw Script
theorem rd_law : ∀ fa_l_body_told fa_l_chain_told : Addr, ∀ rs S W, rs.length = 1 → sp_law rs S W → (w_law fa_l_body_told fa_l_chain_told) { nx := fun _ S1 => retN S.length W (.d .non) S1, rt := retN S.length W } (start1 9 rs) S := by
  intro fa1 fa2 rs S W _ h
  unfold sp_law spLaw at h
  split at h
  · obtain ⟨ns, rfl, hs, h⟩ := h
    unfold w_law
    refine seqI fun P hP => ?_
    wide_open with (sp_l_purse, if_true)
    refine ⟨ns, rfl, hs, fun a b => ?_⟩
    refine hP _ _ ?_; clear hP
    refine seqI fun P hP => ?_
    wide_open with (sp_l_names, if_true)
    intro l1 l2 l3 l4 a b n1 n2 n3 n4 nd
    obtain ⟨NS, hNS, nl⟩ : ∃ NS : List (List Nat), NS = [l1, l2, l3, l4] ∧ NS.length = 4 := ⟨_, rfl, rfl⟩
    have ng : ∀ l ∈ NS, nameL l = true := fun l hl => by
      rw [hNS] at hl
      simp only [List.mem_cons, List.not_mem_nil, or_false] at hl
      rcases hl with rfl | rfl | rfl | rfl <;> assumption
    have en : [D.str (Tx l1), .str (Tx l2), .str (Tx l3), .str (Tx l4)] = NS.map fun l => D.str (Tx l) := by rw [hNS]; rfl
    have N0 : getI (NS.map fun l => D.str (Tx l)) 0 = some (.str (Tx l1)) := by rw [hNS]; rfl
    rw [en]
    clear en nd n2 n3 n4 hNS
    refine hP _ _ ?_; clear hP
    refine seqI fun P hP => ?_
    wide_open with (sp_Body___init__, if_true)
    refine fun c1 => ⟨[.lst [.int a, .int b], .lst (NS.map fun l => D.str (Tx l))], rfl, fun S1 pr1 bd1 => ?_⟩
    replace bd1 : BodyAt [2, 4, 5] S1 c1 ([1, 0, 0, 0], []) [] [] := bd1
    have hp : S1[0]? = some (.lst [.int a, .int b]) := gpre (S := [.lst [.int a, .int b], .lst (NS.map fun l => D.str (Tx l))]) pr1 rfl
    have hq : S1[1]? = some (.lst (NS.map fun l => D.str (Tx l))) := gpre (S := [.lst [.int a, .int b], .lst (NS.map fun l => D.str (Tx l))]) pr1 rfl
    clear pr1
    refine hP _ _ ?_; clear hP
    refine seqI fun P hP => ?_
    wide_open with (sp_Chain___init__, if_true)
    refine fun c2 => ⟨S1, rfl, fun S2 pr2 l2 ch => ?_⟩
    have low1 := bd1.low
    have l5 : 5 < S1.length := low1 5 (by simp)
    have b1 : BodyAt [2, 4, 5] S2 c1 ([1, 0, 0, 0], []) [] [] := bd1.fr (own := []) ⟨by omega, fun i o e _ => gpre pr2 e⟩ (fun _ _ => by simp)
    have hp := gpre pr2 hp
    have hq := gpre pr2 hq
    obtain ⟨q, e0, e1, e2, e3, qo, q0, q1⟩ : ∃ q : Nat → Nat, q S1.length = 2 ∧ q (S1.length + 1) = 9 ∧ q (S1.length + 2) = 2 ∧ q (S1.length + 3) = 2 ∧ (∀ i ∈ [2, 4, 5], q i ≠ 2 ∧ q i ≠ 9) ∧ q 0 = 0 ∧ q 1 = 0 := ⟨fun i => if i < S1.length then (if i < 2 then 0 else 1) else if i = S1.length + 1 then 9 else 2, by dsimp only; rw [if_neg (by omega), if_neg (by omega)], by dsimp only; rw [if_neg (by omega), if_pos rfl], by dsimp only; rw [if_neg (by omega), if_neg (by omega)], by dsimp only; rw [if_neg (by omega), if_neg (by omega)], fun i hi => by
      simp only [List.mem_cons, List.not_mem_nil, or_false] at hi
      dsimp only
      rw [if_pos (by omega), if_neg (by omega)]
      decide, by dsimp only; rw [if_pos (by omega)]; rfl, by dsimp only; rw [if_pos (by omega)]; rfl⟩
    have ch := ch q e1 (e2.trans e0.symm) (e3.trans e0.symm)
    rw [e0] at ch
    obtain ⟨own, eO, o0, o1⟩ : ∃ own, own = [2, 4, 5] ∧ 0 ∉ own ∧ 1 ∉ own := ⟨_, rfl, by simp, by simp⟩
    rw [← eO] at b1 qo
    clear e0 e1 e2 e3 eO low1 bd1 pr2
    refine hP _ _ ?_; clear hP
    refine seqI fun P hP => ?_
    wide_open with (if_true, if_true)
    unfold sp_l_body_told
    have one : OkS 1 0 ([1, 0, 0, 0], []) := ⟨OkFr.one, by decide +kernel, List.Pairwise.nil, Nat.le_refl _, fun p hp => (by cases hp)⟩
    refine ⟨own, _, _, _, b1, one.ok.mono (by decide), by decide, one.nd, by decide, ?_⟩
    wide_open with (if_true, if_true)
    have hL : (S2 ++ [O.lst (bTolds [] [([1, 0, 0, 0], [])])])[S2.length]? = some (O.lst (bTolds [] [([1, 0, 0, 0], [])])) := List.getElem?_concat_length
    have e3 := ex_colN S2 0 q
    have ch := (ch.ext e3).app [O.lst (bTolds [] [([1, 0, 0, 0], [])])]
    have qo : ∀ i ∈ own, colN S2.length 0 q i ≠ 2 ∧ colN S2.length 0 q i ≠ 9 := fun i hi => by rw [e3 i (b1.low i hi)]; exact qo i hi
    have q0 : colN S2.length 0 q 0 = 0 := (e3 0 (by omega)).trans q0
    have q1 : colN S2.length 0 q 1 = 0 := (e3 1 (by omega)).trans q1
    have qL : colN S2.length 0 q S2.length = 0 := colN_ge (Nat.le_refl _)
    have oL : S2.length ∉ own := fun e => by have := b1.low _ e; omega
    have b1 := b1.app [O.lst (bTolds [] [([1, 0, 0, 0], [])])]
    have hp := gapp (Y := [O.lst (bTolds [] [([1, 0, 0, 0], [])])]) hp
    have hq := gapp (Y := [O.lst (bTolds [] [([1, 0, 0, 0], [])])]) hq
    show P _ (S2 ++ [O.lst (bTolds [] [([1, 0, 0, 0], [])])])
    have L0 : S2.length ≠ 0 ∧ S2.length ≠ 1 := by omega
    generalize colN S2.length 0 q = q at *
    generalize S2 ++ [O.lst (bTolds [] [([1, 0, 0, 0], [])])] = S3 at *
    clear l2 e3
    generalize S2.length = L at *
    refine hP _ _ ?_; clear hP
    refine seqI fun P hP => ?_
    wide_open with (sp_l_draw, hp)
    refine fun v a b v0 v1 => ⟨by omega, by omega, ?_⟩
    have ch : ChQ q 2 (S3.set 0 (.lst [.int a, .int b])) c2 [] [] [] := ch.fr (y := 0) (FrQ.refl.set (.inl q0) _) (by decide) (by decide)
    have b1 : BodyAt own (S3.set 0 (.lst [.int a, .int b])) c1 ([1, 0, 0, 0], []) [] [] := b1.put o0 hp (by simp) _
    have hq := gset (x := .lst [.int a, .int b]) hq (show 0 ≠ 1 by decide)
    have hL := gset (x := .lst [.int a, .int b]) hL L0.1.symm
    have hp := gput (x := .lst [.int a, .int b]) hp
    generalize S3.set 0 (.lst [.int a, .int b]) = S4 at *
    refine forL_ix (fun i r S => ∃ (q : Nat → Nat) (own : List Nat) (H : List Bs) (a b : Int) (y6 : Option R), r = [some (.ro (List.map D.int ns)), some (.loc 0), some (.loc 1), some (.ad c1), some (.ad c2), some (.loc L), y6, none, none] ∧ S[0]? = some (.lst [.int a, .int b]) ∧ S[1]? = some (.lst (NS.map fun l => D.str (Tx l))) ∧ S[L]? = some (.lst (bTolds [] H)) ∧ H.length = i + 1 ∧ AtH H own S c1 i ∧ (∀ s ∈ H, OkS (1 + 83 * i) i s ∧ NmK s) ∧ ChQ q 2 S c2 [] [] [] ∧ (∀ j ∈ own, q j ≠ 2 ∧ q j ≠ 9) ∧ 0 ∉ own ∧ 1 ∉ own ∧ L ∉ own ∧ q 0 = 0 ∧ q 1 = 0 ∧ q L = 0) ?_ ?_ ⟨q, own, [([1, 0, 0, 0], [])], a, b, _, rfl, hp, hq, hL, rfl, ⟨_, rfl, b1⟩, fun s hs => by cases List.mem_singleton.mp hs; exact ⟨one, fun p hp => by cases hp⟩, ch, qo, o0, o1, oL, q0, q1, qL⟩
    · clear hp hq hL b1 ch qo o0 o1 oL q0 q1 qL one
      rintro i z hz r S ⟨q, own, H, a, b, y6, rfl, hp, hq, hL, hl, ⟨s, es, bd⟩, ok, ch, qo, o0, o1, oL, q0, q1, qL⟩ M hM
      obtain ⟨iv, rfl⟩ := rgR_get hz
      have oks := ok s (List.mem_of_getElem? es)
      rw [List.drop_of_length_le (by omega)] at bd
      have bd : BodyAt own S c1 s (H.take i) [] := bd
      have tk := hist_take es
      rw [List.take_of_length_le (by omega)] at tk
      refine ⟨trivial, ?_⟩
      wide_open with (if_true, if_true)
      unfold sp_l_body_deed
      refine ⟨own, s, H.take i, [], NS, 1 + 83 * i, i, a, b, hp, hq, nl, ng, o0, o1, bd, oks.1, oks.2, by omega, by omega, by simp; omega, fun s' own' S' a' b' ok' nk' ox hp' fr bd' => ?_⟩
      have hq' := fr.2 _ _ hq (by decide) (.inl o1)
      have hL' := fr.2 _ _ hL L0.1 (.inl oL)
      have lS := get_len hL
      have lp := get_len hp
      have l1 := get_len hq
      have low := bd.low
      have ch' : ChQ (colN S.length 1 q) 2 S' c2 [] [] [] := KeepQ.frOwn (own := own) (ch.ext (ex_colN S 1 q)) (fun i u e i0 io => fr.2 i u e i0 (.inl io)) (by rw [colN_lt lp, q0]; decide) (fun i hi => by rw [colN_lt (low i hi)]; exact qo i hi)
      have qo' : ∀ j ∈ own', colN S.length 1 q j ≠ 2 ∧ colN S.length 1 q j ≠ 9 := fun j hj => by
        rcases Nat.lt_or_ge j S.length with l | l
        · rcases ox j hj with e | e
          · rw [colN_lt l]; exact qo j e
          · omega
        · rw [colN_ge l]; decide
      have no : ∀ j, j < S.length → j ∉ own → j ∉ own' := fun j l n e => by
        rcases ox j e with z | z
        · exact n z
        · omega
      have o0' := no _ lp o0
      have o1' := no _ l1 o1
      have oL' := no _ lS oL
      have q0' : colN S.length 1 q 0 = 0 := (colN_lt lp).trans q0
      have q1' : colN S.length 1 q 1 = 0 := (colN_lt l1).trans q1
      have qL' : colN S.length 1 q L = 0 := (colN_lt lS).trans qL
      generalize colN S.length 1 q = q' at *
      wide_open with (hL', if_true)
      unfold sp_l_body_told
      refine ⟨own', s', _, _, bd', ok'.ok.mono (by omega), by have := ok'.len; omega, ok'.nd, by simp; omega, ?_⟩
      wide_open with (if_true, if_true)
      rw [← tk] at bd' ⊢
      wide_open with (hL', bTolds_len, hl)
      refine ⟨by omega, ?_⟩
      have et : bTolds [] H ++ [D.lst (bToldL s' H)] = bTolds [] (H ++ [s']) := by rw [bTolds_snoc]; rfl
      rw [et]
      refine ⟨_, _, Cut.refl, hM _ _ ⟨q', own', H ++ [s'], a', b', _, rfl, gset hp' L0.1, gset hq' L0.2, gput hL', by simp [hl], ⟨s', by rw [List.getElem?_append_right (by omega), hl, Nat.sub_self]; rfl, ?_⟩, fun x hx => ?_, ch'.fr (y := 0) (FrQ.refl.set (.inl qL') _) (by decide) (by decide), qo', o0', o1', oL', q0', q1', qL'⟩⟩
      · rw [List.drop_of_length_le (by simp [hl]), List.take_left' hl]
        exact bd'.put oL' hL' (by simp) _
      · rcases List.mem_append.mp hx with hx | hx
        · exact ⟨(ok x hx).1.mono (by omega) (by omega), (ok x hx).2⟩
        · cases List.mem_singleton.mp hx
          exact ⟨ok'.mono (by omega) (by omega), nk'⟩
    clear hp hq hL b1 ch qo o0 o1 oL q0 q1 qL one
    rintro r S ⟨q, own, H, a, b, y6, rfl, hp, hq, hL, hl, at1, ok, ch, qo, o0, o1, oL, q0, q1, qL⟩
    rw [rgR_len] at hl ok at1
    refine ⟨trivial, ?_⟩
    obtain ⟨N, hN⟩ : ∃ N, N = v.toNat := ⟨_, rfl⟩
    rw [← hN] at hl ok at1
    have n12 : N ≤ 12 := by omega
    clear hN v0 v1
    have okH : ∀ s ∈ H, OkFr 5000 s.1 ∧ s.2.length < 64 ∧ (s.2.map (·.1)).Nodup := fun s hs => ⟨(ok s hs).1.ok.mono (by omega), by have := (ok s hs).1.len; omega, (ok s hs).1.nd⟩
    refine hP _ _ ?_; clear hP
    refine seqI fun P hP => ?_
    wide_open with (if_true, if_true)
    unfold sp_l_chain_told
    refine ⟨q, 2, [], [], [], ch, OkCw.nil, ?_⟩
    wide_open with (if_true, if_true)
    show P _ (S ++ [O.lst (cTolds [[]])])
    have hK : (S ++ [O.lst (cTolds [[]])])[S.length]? = some (O.lst (cTolds [[]])) := List.getElem?_concat_length
    have e3 := ex_colN S 0 q
    have lS := get_len hL
    have lp := get_len hp
    have l1 := get_len hq
    have low := at1.choose_spec.2.low
    have ch := ChQ.noD ((ch.ext e3).app [O.lst (cTolds [[]])])
    have qo : ∀ i ∈ own, noD (S ++ [O.lst (cTolds [[]])]) (colN S.length 0 q) i ≠ 2 ∧ noD (S ++ [O.lst (cTolds [[]])]) (colN S.length 0 q) i ≠ 9 := fun i hi => by
      rcases noD_or (S ++ [O.lst (cTolds [[]])]) (colN S.length 0 q) i with e | e
      · rw [e, e3 i (low i hi)]; exact qo i hi
      · rw [e]; decide
    have at1 := at1.app [O.lst (cTolds [[]])]
    have hp := gapp (Y := [O.lst (cTolds [[]])]) hp
    have hq := gapp (Y := [O.lst (cTolds [[]])]) hq
    have hL := gapp (Y := [O.lst (cTolds [[]])]) hL
    have q0 : noD (S ++ [O.lst (cTolds [[]])]) (colN S.length 0 q) 0 = 0 := (noD_ne hp (by simp)).trans ((e3 0 lp).trans q0)
    have q1 : noD (S ++ [O.lst (cTolds [[]])]) (colN S.length 0 q) 1 = 0 := (noD_ne hq (by simp)).trans ((e3 1 l1).trans q1)
    have qL : noD (S ++ [O.lst (cTolds [[]])]) (colN S.length 0 q) L = 0 := (noD_ne hL (by simp)).trans ((e3 L lS).trans qL)
    have qK : noD (S ++ [O.lst (cTolds [[]])]) (colN S.length 0 q) S.length = 0 := (noD_ne hK (by simp)).trans (colN_ge (Nat.le_refl _))
    have ndq : ∀ (i : Nat) a k, (S ++ [O.lst (cTolds [[]])])[i]? = some (.da a k) → noD (S ++ [O.lst (cTolds [[]])]) (colN S.length 0 q) i ≠ 2 := fun i a k e => by rw [noD_da e]; decide
    have oK : S.length ∉ own := fun e => by have := low _ e; omega
    have K0 : S.length ≠ 0 ∧ S.length ≠ 1 ∧ S.length ≠ L := by omega
    generalize noD (S ++ [O.lst (cTolds [[]])]) (colN S.length 0 q) = q at *
    generalize S ++ [O.lst (cTolds [[]])] = S3 at *
    clear e3 lS lp l1 low
    generalize S.length = K at *
    refine hP _ _ ?_; clear hP
    refine seqI fun P hP => ?_
    wide_open with (sp_l_draw, hp)
    refine fun v a b v0 v1 => ⟨by omega, by omega, ?_⟩
    have ch : ChQ q 2 (S3.set 0 (.lst [.int a, .int b])) c2 [] [] [] := ch.fr (y := 0) (FrQ.refl.set (.inl q0) _) (by decide) (by decide)
    have at1 : AtH H own (S3.set 0 (.lst [.int a, .int b])) c1 N := by
      obtain ⟨s, e, b1⟩ := at1
      exact ⟨s, e, b1.put o0 hp (by simp) _⟩
    have ndq : ∀ (i : Nat) a' k, (S3.set 0 (.lst [.int a, .int b]))[i]? = some (.da a' k) → q i ≠ 2 := fun i a' k e => by
      by_cases i0 : i = 0
      · subst i0; rw [q0]; decide
      · rw [List.getElem?_set_ne (Ne.symm i0)] at e
        exact ndq i a' k e
    have hq := gset (x := .lst [.int a, .int b]) hq (show 0 ≠ 1 by decide)
    have hL := gset (x := .lst [.int a, .int b]) hL L0.1.symm
    have hK := gset (x := .lst [.int a, .int b]) hK K0.1.symm
    have hp := gput (x := .lst [.int a, .int b]) hp
    generalize S3.set 0 (.lst [.int a, .int b]) = S4 at *
    refine forL_ix (fun i r S => ∃ (q : Nat → Nat) (J : List Js) (a b : Int) (y6 : Option R), r = [some (.ro (List.map D.int ns)), some (.loc 0), some (.loc 1), some (.ad c1), some (.ad c2), some (.loc L), y6, some (.loc K), none] ∧ S[0]? = some (.lst [.int a, .int b]) ∧ S[1]? = some (.lst (NS.map fun l => D.str (Tx l))) ∧ S[L]? = some (.lst (bTolds [] H)) ∧ S[K]? = some (.lst (cTolds J)) ∧ J.length = i + 1 ∧ AtH H own S c1 N ∧ AtC J q 2 S c2 i ∧ (∀ s ∈ J, OkCw s) ∧ (∀ j ∈ own, q j ≠ 2 ∧ q j ≠ 9) ∧ (∀ (i : Nat) a k, S[i]? = some (.da a k) → q i ≠ 2) ∧ q 0 = 0 ∧ q 1 = 0 ∧ q L = 0 ∧ q K = 0) ?_ ?_ ⟨q, [[]], a, b, _, rfl, hp, hq, hL, hK, rfl, at1, ⟨_, rfl, ch⟩, fun s hs => by cases List.mem_singleton.mp hs; exact OkCw.nil, qo, ndq, q0, q1, qL, qK⟩
    · clear hp hq hL hK at1 ch qo ndq q0 q1 qL qK
      rintro i z hz r S ⟨q, J, a, b, y6, rfl, hp, hq, hL, hK, jl, at1, ⟨s, es, ch⟩, ok, qo, ndq, q0, q1, qL, qK⟩ M hM
      obtain ⟨iv, rfl⟩ := rgR_get hz
      have oks := ok s (List.mem_of_getElem? es)
      rw [List.drop_of_length_le (by omega)] at ch
      have ch : ChQ q 2 S c2 s (J.take i) [] := ch
      have tk := hist_take es
      rw [List.take_of_length_le (by omega)] at tk
      refine ⟨trivial, ?_⟩
      wide_open with (if_true, if_true)
      unfold sp_l_chain_deed
      refine ⟨q, 2, ⟨s, J.take i, []⟩, a, b, hp, q0, by decide, by decide, ch, by simp, by simp; omega, oks, fun js q' S' a' b' okj ex hp' fr ch' => ?_⟩
      have hq' := fr.2 _ _ hq (by decide) (by rw [q1]; decide)
      have hL' := fr.2 _ _ hL L0.1 (by rw [qL]; decide)
      have hK' := fr.2 _ _ hK K0.1 (by rw [qK]; decide)
      have low := at1.choose_spec.2.low
      have bf : FrB (ownQ S q 2) S S' := frB_col fr (fun i a k e => ⟨ndq i a k e, fun z => by subst z; rw [hp] at e; cases e⟩)
      have at2 := at1.fr bf (fun i hi => ownQ_not (fun z => o0 (z ▸ hi)) (qo i hi).1)
      have ch' : ChQ (noD S' q') 2 S' c2 js (J.take i ++ [s]) [] := ChQ.noD ch'
      have qo' : ∀ j ∈ own, noD S' q' j ≠ 2 ∧ noD S' q' j ≠ 9 := fun j hj => by
        rcases noD_or S' q' j with e | e
        · rw [e, ex j (low j hj)]; exact qo j hj
        · rw [e]; decide
      have q0' : noD S' q' 0 = 0 := (noD_ne hp' (by simp)).trans ((ex 0 (get_len hp)).trans q0)
      have q1' : noD S' q' 1 = 0 := (noD_ne hq' (by simp)).trans ((ex 1 (get_len hq)).trans q1)
      have qL' : noD S' q' L = 0 := (noD_ne hL' (by simp)).trans ((ex L (get_len hL)).trans qL)
      have qK' : noD S' q' K = 0 := (noD_ne hK' (by simp)).trans ((ex K (get_len hK)).trans qK)
      have ndq' : ∀ (i : Nat) a k, S'[i]? = some (.da a k) → noD S' q' i ≠ 2 := fun i a k e => by rw [noD_da e]; decide
      generalize noD S' q' = q' at *
      wide_open with (hK', if_true)
      unfold sp_l_chain_told
      refine ⟨q', 2, js, _, _, ch', okj, ?_⟩
      wide_open with (if_true, if_true)
      rw [← tk] at ch'
      wide_open with (hK', List.length_map, jl)
      refine ⟨by omega, ?_⟩
      have et : cTolds J ++ [D.lst (cToldL js)] = cTolds (J ++ [js]) := by rw [cTolds, cTolds, List.map_append]; rfl
      rw [et]
      refine ⟨_, _, Cut.refl, hM _ _ ⟨q', J ++ [js], a', b', _, rfl, gset hp' K0.1, gset hq' K0.2.1, gset hL' K0.2.2, gput hK', by simp [jl], ?_, ⟨js, by rw [List.getElem?_append_right (by omega), jl, Nat.sub_self]; rfl, ?_⟩, fun x hx => ?_, qo', fun i a k e => ?_, q0', q1', qL', qK'⟩⟩
      · obtain ⟨s, e, b1⟩ := at2
        exact ⟨s, e, b1.put oK hK' (by simp) _⟩
      · rw [List.drop_of_length_le (by simp [jl]), List.take_left' jl]
        exact ch'.fr (y := 0) (FrQ.refl.set (.inl qK') _) (by decide) (by decide)
      · rcases List.mem_append.mp hx with hx | hx
        · exact ok x hx
        · cases List.mem_singleton.mp hx
          exact okj
      · by_cases i0 : i = K
        · subst i0; rw [qK']; decide
        · rw [List.getElem?_set_ne (Ne.symm i0)] at e
          exact ndq' i a k e
    clear hp hq hL hK at1 ch qo ndq q0 q1 qL qK
    rintro r S ⟨q, J, a, b, y6, rfl, hp, hq, hL, hK, jl, at1, atc, okJ, qo, ndq, q0, q1, qL, qK⟩
    rw [rgR_len] at jl atc
    refine ⟨trivial, ?_⟩
    obtain ⟨N2, hN2⟩ : ∃ N, N = v.toNat := ⟨_, rfl⟩
    rw [← hN2] at jl atc
    have n11 : N2 ≤ 11 := by omega
    clear hN2 v0 v1
    refine hP _ _ ?_; clear hP
    refine seqI fun P hP => ?_
    wide_open with (sp_l_draw, hp)
    intro v a b v0 v1
    have pur : ∀ (S : Sto) (q : Nat → Nat) (a b a' b' : Int), S[0]? = some (.lst [.int a, .int b]) → q 0 = 0 → (∀ (i : Nat) a' k, S[i]? = some (.da a' k) → q i ≠ 2) → ∀ (i : Nat) a'' k, (S.set 0 (.lst [.int a', .int b']))[i]? = some (.da a'' k) → q i ≠ 2 := fun S q a b a' b' e q0 n i a'' k e2 => by
      by_cases i0 : i = 0
      · subst i0; rw [q0]; decide
      · rw [List.getElem?_set_ne (Ne.symm i0)] at e2
        exact n i a'' k e2
    have atc : AtC J q 2 (S.set 0 (.lst [.int a, .int b])) c2 N2 := atc.fr (y := 0) (FrQ.refl.set (.inl q0) _) (by decide) (by decide)
    have at1 : AtH H own (S.set 0 (.lst [.int a, .int b])) c1 N := by
      obtain ⟨s, e, b1⟩ := at1
      exact ⟨s, e, b1.put o0 hp (by simp) _⟩
    have ndq := pur _ _ _ _ a b hp q0 ndq
    have hq := gset (x := .lst [.int a, .int b]) hq (show 0 ≠ 1 by decide)
    have hL := gset (x := .lst [.int a, .int b]) hL L0.1.symm
    have hK := gset (x := .lst [.int a, .int b]) hK K0.1.symm
    have hp := gput (x := .lst [.int a, .int b]) hp
    generalize S.set 0 (.lst [.int a, .int b]) = S5 at *
    unfold sp_l_held_Body
    refine ⟨rfl, H, own, N, v0, by omega, hl, by omega, at1, hL, oL, okH, fun own2 S6 ox fr at2 => ?_⟩
    have lowE := at1.choose_spec.2.low
    have no : ∀ j, j < S5.length → j ∉ own → j ∉ own2 := fun j l n e => by
      rcases ox j e with z | z
      · exact n z
      · omega
    have o0 := no 0 (get_len hp) o0
    have o1 := no 1 (get_len hq) o1
    have oLn := no L (get_len hL) oL
    have oKn := no K (get_len hK) oK
    have ch6 : AtC J (colN S5.length 1 q) 2 S6 c2 N2 := by
      obtain ⟨s, e, b⟩ := atc
      exact ⟨s, e, KeepQ.frOwn (own := own) (b.ext (ex_colN S5 1 q)) (fun i u e _ io => fr.2 i u e (.inl io)) (by rw [colN_lt (get_len hp), q0]; decide) (fun i hi => by rw [colN_lt (lowE i hi)]; exact qo i hi)⟩
    have qo6 : ∀ j ∈ own2, colN S5.length 1 q j ≠ 2 ∧ colN S5.length 1 q j ≠ 9 := fun j hj => by
      rcases Nat.lt_or_ge j S5.length with l | l
      · rcases ox j hj with e | e
        · rw [colN_lt l]; exact qo j e
        · omega
      · rw [colN_ge l]; decide
    have q0 : colN S5.length 1 q 0 = 0 := (colN_lt (get_len hp)).trans q0
    have q1 : colN S5.length 1 q 1 = 0 := (colN_lt (get_len hq)).trans q1
    have qL : colN S5.length 1 q L = 0 := (colN_lt (get_len hL)).trans qL
    have qK : colN S5.length 1 q K = 0 := (colN_lt (get_len hK)).trans qK
    generalize colN S5.length 1 q = q' at *
    have hp := fr.2 _ _ hp (.inl ‹0 ∉ own›)
    have hq := fr.2 _ _ hq (.inl ‹1 ∉ own›)
    have hL := fr.2 _ _ hL (.inl oL)
    have hK := fr.2 _ _ hK (.inl oK)
    have ch6 : AtC J (noD S6 q') 2 S6 c2 N2 := by
      obtain ⟨s, e, b⟩ := ch6
      exact ⟨s, e, ChQ.noD b⟩
    have qo6 : ∀ j ∈ own2, noD S6 q' j ≠ 2 ∧ noD S6 q' j ≠ 9 := fun j hj => by
      rcases noD_or S6 q' j with e | e
      · rw [e]; exact qo6 j hj
      · rw [e]; decide
    have q0 : noD S6 q' 0 = 0 := (noD_ne hp (by simp)).trans q0
    have q1 : noD S6 q' 1 = 0 := (noD_ne hq (by simp)).trans q1
    have qL : noD S6 q' L = 0 := (noD_ne hL (by simp)).trans qL
    have qK : noD S6 q' K = 0 := (noD_ne hK (by simp)).trans qK
    have ndq : ∀ (i : Nat) a k, S6[i]? = some (.da a k) → noD S6 q' i ≠ 2 := fun i a k e => by rw [noD_da e]; decide
    generalize noD S6 q' = q6 at *
    clear atc at1 qo fr ox
    wide_open with (if_true, if_true)
    refine hP _ _ ?_; clear hP
    refine seqI fun P hP => ?_
    wide_open with (sp_l_draw, hp)
    intro v a b v0 v1
    have ch6 : AtC J q6 2 (S6.set 0 (.lst [.int a, .int b])) c2 N2 := ch6.fr (y := 0) (FrQ.refl.set (.inl q0) _) (by decide) (by decide)
    have at2 : AtH H own2 (S6.set 0 (.lst [.int a, .int b])) c1 N := by
      obtain ⟨s, e, b1⟩ := at2
      exact ⟨s, e, b1.put ‹0 ∉ own2› hp (by simp) _⟩
    have ndq := pur _ _ _ _ a b hp q0 ndq
    have hq := gset (x := .lst [.int a, .int b]) hq (show 0 ≠ 1 by decide)
    have hL := gset (x := .lst [.int a, .int b]) hL L0.1.symm
    have hK := gset (x := .lst [.int a, .int b]) hK K0.1.symm
    have hp := gput (x := .lst [.int a, .int b]) hp
    generalize S6.set 0 (.lst [.int a, .int b]) = S7 at *
    unfold sp_l_held_Chain
    refine ⟨rfl, J, q6, 2, N2, v0, by omega, jl, by omega, by decide, by decide, ch6, hK, by rw [qK]; decide, okJ, fun q8 S8 ex8 fr8 at8 => ?_⟩
    have bf : FrB (ownQ S7 q6 2) S7 S8 := frB_col ⟨fr8.1, fun i u e _ z => fr8.2 i u e z⟩ (fun i a k e => ⟨ndq i a k e, fun z => by subst z; rw [hp] at e; cases e⟩)
    have at3 := at2.fr bf (fun i hi => ownQ_not (fun z => o0 (z ▸ hi)) (qo6 i hi).1)
    have hq := fr8.2 _ _ hq (by rw [q1]; decide)
    have hL := fr8.2 _ _ hL (by rw [qL]; decide)
    clear at8 bf fr8 ex8 ch6 at2 ndq q0 q1 qL qK qo6 hp hK pur
    wide_open with (if_true, if_true)
    obtain ⟨s, es, bd⟩ := at3
    have oks := ok s (List.mem_of_getElem? es)
    rw [List.drop_of_length_le (by omega)] at bd
    have bd : BodyAt own2 S8 c1 s (H.take N) [] := bd
    have mt : ∀ {own : List Nat} {S : Sto} {s : Bs} {bs as : List Bs} {c : Addr}, BodyAt own S c s bs as → ∀ m : Str, m ∈ [("room" : Str), ("back" : Str), ("twin" : Str), ("mark" : Str)] → ∃ (k : Nat) (fs : List (Str × R)), S[k]? = some (O.ob c "Body" fs) ∧ fs.lookup m = none := fun bd m hm => by
      simp only [List.mem_cons, List.not_mem_nil, or_false] at hm
      rcases hm with rfl | rfl | rfl | rfl <;> exact bd.meth (by decide +kernel) (by decide +kernel) (by decide +kernel) (by decide +kernel)
    have ht : (H.take N).length ≤ 12 := by rw [List.length_take]; omega
    have okI : OkFr 80 [1, 1, 0, 0] := ⟨rfl, ⟨1, by simp, by decide⟩, fun x hx => by
      simp only [List.mem_cons, List.not_mem_nil, or_false] at hx
      rcases hx with rfl | rfl | rfl | rfl <;> exact Bd.lit (by decide)⟩
    refine hP _ _ ?_; clear hP
    refine seqI fun P hP => ?_
    wide_open with (if_true, if_true)
    refine ⟨mt bd _ (by simp), ?_⟩
    unfold sp_Body_room
    refine ⟨own2, s, [1, 1, 0, 0], _, _, rfl, bd, by omega, oks.1.ok.mono (by omega), okI.mono (by decide), fun o3 S9 ox9 fr9 bd9 => ?_⟩
    have o1' := no 1
    have n9 : ∀ j, j < S8.length → j ∉ own2 → j ∉ o3 := fun j l n e => by
      rcases ox9 j e with z | z
      · exact n z
      · omega
    have o1 := n9 1 (get_len hq) o1
    have oL9 := n9 L (get_len hL) oLn
    have hq := fr9.2 _ _ hq (.inl ‹1 ∉ own2›)
    have hL := fr9.2 _ _ hL (.inl oLn)
    have okR : OkFr 2000 (pln (qmul [1, 1, 0, 0] s.1)) := (okI.mul oks.1.ok).mono (by omega)
    refine hP _ _ ?_; clear hP
    refine seqI fun P hP => ?_
    wide_open with (if_true, if_true)
    refine ⟨mt bd9 _ (by simp), ?_⟩
    unfold sp_Body_back
    refine ⟨o3, _, _, _, bd9, by simp, fun e => by simp at e, fun bs' s' e S10 fr10 bd10 => ?_⟩
    obtain ⟨rfl, e4⟩ := List.append_inj' e rfl
    cases e4
    have hq := fr10.2 _ _ hq (.inl o1)
    have hL := fr10.2 _ _ hL (.inl oL9)
    refine hP _ _ ?_; clear hP
    refine seqI fun P hP => ?_
    wide_open with (if_true, if_true)
    refine ⟨mt bd10 _ (by simp), ?_⟩
    unfold sp_Body_twin
    refine ⟨o3, _, _, _, bd10, fun c3 p1 S11 px pf tw => ?_⟩
    have bd11 := bd10.fr pf (by simp)
    have low10 := bd10.low
    have pn : ∀ i ∈ p1, S10.length ≤ i := fun i hi => by
      rcases px i hi with z | z
      · simp at z
      · exact z
    have hq := pf.2 _ _ hq (.inl (by simp))
    have hL10 := get_len hL
    have hL := pf.2 _ _ hL (.inl (by simp))
    refine hP _ _ ?_; clear hP
    refine seqI fun P hP => ?_
    wide_open with (hq, N0)
    refine ⟨mt tw _ (by simp), ?_⟩
    unfold sp_Body_mark
    refine ⟨l1, p1, _, _, _, rfl, by have := name_len n1; omega, tw, by omega, by have := oks.1.len; omega, fun e => (by rw [n1] at e; cases e), fun _ p2 S12 px2 pf2 tw2 => ?_⟩
    have bd12 := bd11.fr pf2 (fun i hi e => by have := pn i e; have := low10 i hi; omega)
    have hL := pf2.2 _ _ hL (.inl fun e => by have := pn _ e; omega)
    refine hP _ _ ?_; clear hP
    refine seqI fun P hP => ?_
    refine ifI fun Pb hb => ?_
    wide_open with (if_true, if_true)
    unfold sp_l_no_deed_Body
    refine ⟨p2, _, _, _, tw2, by simp, by simp; omega, fun _ => ?_, fun _ as' s' e => by simp at e, fun e => by cases e⟩
    wide_open with (if_true, if_true)
    refine ⟨o3, _, _, _, bd12, by simp, by omega, fun e => by simp at e, fun as' s' e S13 fr13 bd13 => ?_⟩
    obtain ⟨rfl, e4⟩ := List.append_inj' (s₁ := []) e rfl
    cases e4
    wide_open with (if_true, if_true)
    refine hb _ _ ?_
    clear hb
    wide_open with (if_true, if_true)
    have hL := fr13.2 _ _ hL (.inl oL9)
    refine hP _ _ ?_; clear hP
    refine seqI fun P hP => ?_
    wide_open with (if_true, if_true)
    refine ⟨mt bd13 _ (by simp), ?_⟩
    unfold sp_Body_back
    refine ⟨o3, _, _, _, bd13, by simp, fun e => by simp at e, fun bs' s' e S14 fr14 bd14 => ?_⟩
    obtain ⟨rfl, e4⟩ := List.append_inj' e rfl
    cases e4
    have hL := fr14.2 _ _ hL (.inl oL9)
    refine hP _ _ ?_; clear hP
    wide_open with (if_true, if_true)
    unfold sp_l_body_told
    have ok7 := okH s (List.mem_of_getElem? es)
    refine ⟨o3, _, _, _, bd14, ok7.1, ok7.2.1, ok7.2.2, by omega, ?_⟩
    have told8 := gapp (Y := [.lst (bToldL s (H.take N))]) hL
    have g8 : (S14 ++ [.lst (bToldL s (H.take N))])[S14.length]? = some (O.lst (bToldL s (H.take N))) := List.getElem?_concat_length
    have dd := dp_btold s (H.take N)
    generalize S14 ++ [.lst (bToldL s (H.take N))] = S15 at *
    have ix : getI (bTolds [] H) (-1) = some (.lst (bToldL s (H.take N))) := by
      have ll : (bTolds [] H).length = N + 1 := by rw [bTolds_len]; exact hl
      unfold getI
      rw [if_neg (by omega), if_pos (by rw [ll]; omega), ll, show ((-1 : Int) + ((N + 1 : Nat) : Int)).toNat = N by omega]
      exact bTolds_get H [] _ _ es
    wide_open with (told8, g8)
    wide_open with (ix, if_true)
    refine ⟨by omega, ?_⟩
    rw [eqv_pys]
    exact h
  · exact h.elim
def topS (i : Nat) : Stmt := PySem.Challenge.pw_hangrings_k88_whole_back_and_again.main.body.getD i (.Pass ⟨0, 0, 0, 0⟩)
def clsS (i j : Nat) : Stmt := match topS i with
  | .ClassDef (body := b) .. => b.getD j (.Pass ⟨0, 0, 0, 0⟩)
  | _ => .Pass ⟨0, 0, 0, 0⟩
abbrev st_divisor : Stmt := topS 9
abbrev N_divisor : List Str := ["one", "other"]
theorem sc_divisor : FnScope N_divisor ["one", "other"] (defScope st_divisor) := ⟨rfl, rfl, rfl, by decide +kernel, rfl, by decide +kernel, by decide +kernel⟩
theorem tm_divisor {P : Program} {w : World} {K : PySem.W.Frag} {mg : Str → Option Value} {base : Heap} {f : Addr} (hb_abs : mg "abs" = none) (cdv : Value) (A : Around) (outer : List Env) (s : Shared) (H : Hp) (E : XK) (hr : Room 0 (A.deeper (envOfC "divisor" (defScope st_divisor) s.heap.objs.size f cdv))) :
    WSs (cxOf CX0 P w K mg base N_divisor "divisor" (defScope st_divisor) f cdv A outer s H E).nox (defBody st_divisor) w_divisor := by
  have nd := sc_divisor.nd
  unfold w_divisor
  exact (ws_cons (ws_set (i := 0) nd rfl (by first | exact Or.inl rfl | exact Or.inr rfl) (we_blt f_abs (by rfl) hb_abs PyProof.Rows.boot_abs (wa_cons (we_var 0 (pv 0)) wa_nil)))
    (ws_cons (ws_set (i := 1) nd rfl (by first | exact Or.inl rfl | exact Or.inr rfl) (we_blt f_abs (by rfl) hb_abs PyProof.Rows.boot_abs (wa_cons (we_var 1 (pv 1)) wa_nil)))
    (ws_cons (ws_while PassesOwn.never (wt_cmp o_gt (we_var 1 (pv 1)) we_int (nomark _)) (ws_one (ws_par (i := 0) (j := 1) rfl nd rfl rfl (by decide) rfl rfl (wa_cons (we_var 1 (pv 1)) (wa_cons (we_bin o_mod (we_var 0 (pv 0)) (we_var 1 (pv 1))) wa_nil)) (by with_unfolding_all rfl))))
    (ws_one (ws_ret (we_var 0 (pv 0)))))))
abbrev st_divisor_of : Stmt := topS 10
abbrev N_divisor_of : List Str := ["numbers", "found", "number"]
theorem sc_divisor_of : FnScope N_divisor_of ["numbers"] (defScope st_divisor_of) := ⟨rfl, rfl, rfl, by decide +kernel, rfl, by decide +kernel, by decide +kernel⟩
theorem tm_divisor_of {P : Program} {w : World} {K : PySem.W.Frag} {mg : Str → Option Value} {base : Heap} {f : Addr} (F_divisor : FnZ P w K mg base 1 "divisor" 2 sp_divisor) (cdv : Value) (A : Around) (outer : List Env) (s : Shared) (H : Hp) (E : XK) (hr : Room 1 (A.deeper (envOfC "divisor_of" (defScope st_divisor_of) s.heap.objs.size f cdv))) :
    WSs (cxOf CX0 P w K mg base N_divisor_of "divisor_of" (defScope st_divisor_of) f cdv A outer s H E).nox (defBody st_divisor_of) w_divisor_of := by
  have nd := sc_divisor_of.nd
  unfold w_divisor_of
  exact (ws_cons (ws_set (i := 1) nd rfl (by first | exact Or.inl rfl | exact Or.inr rfl) we_int)
    (ws_cons (ws_for PassesOwn.never rfl (wi_seq (we_var 0 (pv 0))) (pg_name (i := 2) nd rfl (by first | exact Or.inl rfl | exact Or.inr rfl)) (tg_name 2) (ws_one (ws_set (i := 1) nd rfl (by first | exact Or.inl rfl | exact Or.inr rfl) (we_call F_divisor hr (by rfl) (wa_cons (we_var 1 (pv 1)) (wa_cons (we_var 2 (pv 2)) wa_nil))))))
    (ws_one (ws_ret (we_var 1 (pv 1))))))
abbrev st_made : Stmt := topS 11
abbrev N_made : List Str := ["top", "bottom", "by"]
theorem sc_made : FnScope N_made ["top", "bottom"] (defScope st_made) := ⟨rfl, rfl, rfl, by decide +kernel, rfl, by decide +kernel, by decide +kernel⟩
theorem tm_made {P : Program} {w : World} {K : PySem.W.Frag} {mg : Str → Option Value} {base : Heap} {f : Addr} (F_divisor : FnZ P w K mg base 1 "divisor" 2 sp_divisor) (cdv : Value) (A : Around) (outer : List Env) (s : Shared) (H : Hp) (E : XK) (hr : Room 1 (A.deeper (envOfC "made" (defScope st_made) s.heap.objs.size f cdv))) :
    WSs (cxOf CX0 P w K mg base N_made "made" (defScope st_made) f cdv A outer s H E).nox (defBody st_made) w_made := by
  have nd := sc_made.nd
  unfold w_made
  exact (ws_cons (ws_set (i := 2) nd rfl (by first | exact Or.inl rfl | exact Or.inr rfl) (we_call F_divisor hr (by rfl) (wa_cons (we_var 0 (pv 0)) (wa_cons (we_var 1 (pv 1)) wa_nil))))
    (ws_cons (ws_if (wt_cmp o_lt (we_var 1 (pv 1)) we_int (nomark _)) (ws_one (ws_set (i := 2) nd rfl (by first | exact Or.inl rfl | exact Or.inr rfl) (we_un u_neg (we_var 2 (pv 2))))) ws_nil)
    (ws_one (ws_ret (we_tup (wa_cons (we_bin o_div (we_var 0 (pv 0)) (we_var 2 (pv 2))) (wa_cons (we_bin o_div (we_var 1 (pv 1)) (we_var 2 (pv 2))) wa_nil)))))))
abbrev st_added : Stmt := topS 12
abbrev N_added : List Str := ["one", "other"]
theorem sc_added : FnScope N_added ["one", "other"] (defScope st_added) := ⟨rfl, rfl, rfl, by decide +kernel, rfl, by decide +kernel, by decide +kernel⟩
theorem tm_added {P : Program} {w : World} {K : PySem.W.Frag} {mg : Str → Option Value} {base : Heap} {f : Addr} (F_made : FnZ P w K mg base 2 "made" 2 sp_made) (cdv : Value) (A : Around) (outer : List Env) (s : Shared) (H : Hp) (E : XK) (hr : Room 2 (A.deeper (envOfC "added" (defScope st_added) s.heap.objs.size f cdv))) :
    WSs (cxOf CX0 P w K mg base N_added "added" (defScope st_added) f cdv A outer s H E).nox (defBody st_added) w_added := by
  have nd := sc_added.nd
  unfold w_added
  exact (ws_one (ws_ret (we_call F_made hr (by rfl) (wa_cons (we_bin o_addI (we_bin o_mulI (we_ix (we_var 0 (pv 0)) we_int (fun _ _ => rfl)) (we_ix (we_var 1 (pv 1)) we_int (fun _ _ => rfl))) (we_bin o_mulI (we_ix (we_var 1 (pv 1)) we_int (fun _ _ => rfl)) (we_ix (we_var 0 (pv 0)) we_int (fun _ _ => rfl)))) (wa_cons (we_bin o_mulI (we_ix (we_var 0 (pv 0)) we_int (fun _ _ => rfl)) (we_ix (we_var 1 (pv 1)) we_int (fun _ _ => rfl))) wa_nil)))))
abbrev st_plain_row : Stmt := topS 13
abbrev N_plain_row : List Str := ["numbers", "by", "number"]
theorem sc_plain_row : FnScope N_plain_row ["numbers"] (defScope st_plain_row) := ⟨rfl, rfl, rfl, by decide +kernel, rfl, by decide +kernel, by decide +kernel⟩
theorem tm_plain_row {P : Program} {w : World} {K : PySem.W.Frag} {mg : Str → Option Value} {base : Heap} {f : Addr} (F_divisor_of : FnZ P w K mg base 2 "divisor_of" 1 sp_divisor_of) (hb_tuple : mg "tuple" = none) (cdv : Value) (A : Around) (outer : List Env) (s : Shared) (H : Hp) (E : XK) (hr : Room 2 (A.deeper (envOfC "plain_row" (defScope st_plain_row) s.heap.objs.size f cdv))) :
    WSs (cxOf CX0 P w K mg base N_plain_row "plain_row" (defScope st_plain_row) f cdv A outer s H E).nox (defBody st_plain_row) w_plain_row := by
  have nd := sc_plain_row.nd
  unfold w_plain_row
  exact (ws_cons (ws_set (i := 1) nd rfl (by first | exact Or.inl rfl | exact Or.inr rfl) (we_call F_divisor_of hr (by rfl) (wa_cons (we_var 0 (pv 0)) wa_nil)))
    (ws_one (ws_ret (we_ty f_tup (by rfl) hb_tuple PyProof.Rows.boot_tuple (wa_cons (we_lc (own := [("number", 2)]) rfl nd (wi_seq (we_var 0 (pv 0))) (blkOk_by (N := N_plain_row) (sc := defScope st_plain_row) (by decide +kernel)) (fun _ _ _ _ _ => (pg_name (i := 2) nd rfl (by first | exact Or.inl rfl | exact Or.inr rfl))) (tg_name 2) (by decide) (fun _ _ _ _ _ => wts_nil) (fun _ _ _ _ _ => (we_bin o_div (we_var 2 (pv 2)) (we_var 1 (pv 1))))) wa_nil)))))
abbrev st_plain : Stmt := topS 15
abbrev N_plain : List Str := ["four", "found", "first", "number"]
theorem sc_plain : FnScope N_plain ["four"] (defScope st_plain) := ⟨rfl, rfl, rfl, by decide +kernel, rfl, by decide +kernel, by decide +kernel⟩
theorem tm_plain {P : Program} {w : World} {K : PySem.W.Frag} {mg : Str → Option Value} {base : Heap} {f : Addr} (F_plain_row : FnZ P w K mg base 3 "plain_row" 1 sp_plain_row) (hb_tuple : mg "tuple" = none) (cdv : Value) (A : Around) (outer : List Env) (s : Shared) (H : Hp) (E : XK) (hr : Room 3 (A.deeper (envOfC "plain" (defScope st_plain) s.heap.objs.size f cdv))) :
    WSs (cxOf CX0 P w K mg base N_plain "plain" (defScope st_plain) f cdv A outer s H E).nox (defBody st_plain) w_plain := by
  have nd := sc_plain.nd
  unfold w_plain
  exact (ws_cons (ws_set (i := 1) nd rfl (by first | exact Or.inl rfl | exact Or.inr rfl) (we_call F_plain_row hr (by rfl) (wa_cons (we_var 0 (pv 0)) wa_nil)))
    (ws_cons (ws_set (i := 2) nd rfl (by first | exact Or.inl rfl | exact Or.inr rfl) (we_ix (we_lc (own := [("number", 3)]) rfl nd (wi_seq (we_var 1 (pv 1))) (blkOk_by (N := N_plain) (sc := defScope st_plain) (by decide +kernel)) (fun _ _ _ _ _ => (pg_name (i := 3) nd rfl (by first | exact Or.inl rfl | exact Or.inr rfl))) (tg_name 3) (by decide) (fun _ _ _ _ _ => (wts_one (wt_cmp (o_ne hr.units) (we_var 3 (pv 3)) we_int (nomark _)))) (fun _ _ _ _ _ => (we_var 3 (pv 3)))) we_int (fun _ _ => rfl)))
    (ws_cons (ws_if (wt_cmp o_lt (we_var 2 (pv 2)) we_int (nomark _)) (ws_one (ws_set (i := 1) nd rfl (by first | exact Or.inl rfl | exact Or.inr rfl) (we_ty f_tup (by rfl) hb_tuple PyProof.Rows.boot_tuple (wa_cons (we_lc (own := [("number", 3)]) rfl nd (wi_seq (we_var 1 (pv 1))) (blkOk_by (N := N_plain) (sc := defScope st_plain) (by decide +kernel)) (fun _ _ _ _ _ => (pg_name (i := 3) nd rfl (by first | exact Or.inl rfl | exact Or.inr rfl))) (tg_name 3) (by decide) (fun _ _ _ _ _ => wts_nil) (fun _ _ _ _ _ => (we_un u_neg (we_var 3 (pv 3))))) wa_nil)))) ws_nil)
    (ws_one (ws_ret (we_var 1 (pv 1)))))))
abbrev st_size : Stmt := topS 16
abbrev N_size : List Str := ["four", "number"]
theorem sc_size : FnScope N_size ["four"] (defScope st_size) := ⟨rfl, rfl, rfl, by decide +kernel, rfl, by decide +kernel, by decide +kernel⟩
theorem tm_size {P : Program} {w : World} {K : PySem.W.Frag} {mg : Str → Option Value} {base : Heap} {f : Addr} (hb_sum : mg "sum" = none) (cdv : Value) (A : Around) (outer : List Env) (s : Shared) (H : Hp) (E : XK) (hr : Room 0 (A.deeper (envOfC "size" (defScope st_size) s.heap.objs.size f cdv))) :
    WSs (cxOf CX0 P w K mg base N_size "size" (defScope st_size) f cdv A outer s H E).nox (defBody st_size) w_size := by
  have nd := sc_size.nd
  unfold w_size
  exact (ws_one (ws_ret (we_blt (f_sum rfl) (by rfl) hb_sum PyProof.Rows.boot_sum (wa_cons (we_lc (own := [("number", 1)]) rfl nd (wi_seq (we_var 0 (pv 0))) (blkOk_by (N := N_size) (sc := defScope st_size) (by decide +kernel)) (fun _ _ _ _ _ => (pg_name (i := 1) nd rfl (by first | exact Or.inl rfl | exact Or.inr rfl))) (tg_name 1) (by decide) (fun _ _ _ _ _ => wts_nil) (fun _ _ _ _ _ => (we_bin o_mulI (we_var 1 (pv 1)) (we_var 1 (pv 1))))) wa_nil))))
abbrev st_product : Stmt := topS 17
abbrev N_product : List Str := ["one", "other", "p", "q", "r", "s", "t", "u", "v", "o", "w", "x", "y"]
theorem sc_product : FnScope N_product ["one", "other"] (defScope st_product) := ⟨rfl, rfl, rfl, by decide +kernel, rfl, by decide +kernel, by decide +kernel⟩
theorem tm_product {P : Program} {w : World} {K : PySem.W.Frag} {mg : Str → Option Value} {base : Heap} {f : Addr} (cdv : Value) (A : Around) (outer : List Env) (s : Shared) (H : Hp) (E : XK) (hr : Room 0 (A.deeper (envOfC "product" (defScope st_product) s.heap.objs.size f cdv))) :
    WSs (cxOf CX0 P w K mg base N_product "product" (defScope st_product) f cdv A outer s H E).nox (defBody st_product) w_product := by
  have nd := sc_product.nd
  unfold w_product
  exact (ws_cons (ws_unp (we_var 0 (pv 0)) (pg_tup rfl (pgs_cons (pg_name (i := 2) nd rfl (by first | exact Or.inl rfl | exact Or.inr rfl)) (pgs_cons (pg_name (i := 3) nd rfl (by first | exact Or.inl rfl | exact Or.inr rfl)) (pgs_cons (pg_name (i := 4) nd rfl (by first | exact Or.inl rfl | exact Or.inr rfl)) (pgs_cons (pg_name (i := 5) nd rfl (by first | exact Or.inl rfl | exact Or.inr rfl)) pgs_nil))))) (tg_tup (n := 4) (tgs_cons (tg_name 2) (tgs_cons (tg_name 3) (tgs_cons (tg_name 4) (tgs_cons (tg_name 5) tgs_nil))))))
    (ws_cons (ws_unp (we_var 1 (pv 1)) (pg_tup rfl (pgs_cons (pg_name (i := 6) nd rfl (by first | exact Or.inl rfl | exact Or.inr rfl)) (pgs_cons (pg_name (i := 7) nd rfl (by first | exact Or.inl rfl | exact Or.inr rfl)) (pgs_cons (pg_name (i := 8) nd rfl (by first | exact Or.inl rfl | exact Or.inr rfl)) (pgs_cons (pg_name (i := 9) nd rfl (by first | exact Or.inl rfl | exact Or.inr rfl)) pgs_nil))))) (tg_tup (n := 4) (tgs_cons (tg_name 6) (tgs_cons (tg_name 7) (tgs_cons (tg_name 8) (tgs_cons (tg_name 9) tgs_nil))))))
    (ws_cons (ws_set (i := 10) nd rfl (by first | exact Or.inl rfl | exact Or.inr rfl) (we_bin o_sub (we_bin o_sub (we_bin o_sub (we_bin o_mulI (we_var 2 (pv 2)) (we_var 6 (pv 6))) (we_bin o_mulI (we_var 3 (pv 3)) (we_var 7 (pv 7)))) (we_bin o_mulI (we_var 4 (pv 4)) (we_var 8 (pv 8)))) (we_bin o_mulI (we_var 5 (pv 5)) (we_var 9 (pv 9)))))
    (ws_cons (ws_set (i := 11) nd rfl (by first | exact Or.inl rfl | exact Or.inr rfl) (we_bin o_sub (we_bin o_addI (we_bin o_addI (we_bin o_mulI (we_var 2 (pv 2)) (we_var 7 (pv 7))) (we_bin o_mulI (we_var 3 (pv 3)) (we_var 6 (pv 6)))) (we_bin o_mulI (we_var 4 (pv 4)) (we_var 9 (pv 9)))) (we_bin o_mulI (we_var 5 (pv 5)) (we_var 8 (pv 8)))))
    (ws_cons (ws_set (i := 12) nd rfl (by first | exact Or.inl rfl | exact Or.inr rfl) (we_bin o_addI (we_bin o_addI (we_bin o_sub (we_bin o_mulI (we_var 2 (pv 2)) (we_var 8 (pv 8))) (we_bin o_mulI (we_var 3 (pv 3)) (we_var 9 (pv 9)))) (we_bin o_mulI (we_var 4 (pv 4)) (we_var 6 (pv 6)))) (we_bin o_mulI (we_var 5 (pv 5)) (we_var 7 (pv 7)))))
    (ws_one (ws_ret (we_tup (wa_cons (we_var 10 (pv 10)) (wa_cons (we_var 11 (pv 11)) (wa_cons (we_var 12 (pv 12)) (wa_cons (we_bin o_addI (we_bin o_sub (we_bin o_addI (we_bin o_mulI (we_var 2 (pv 2)) (we_var 9 (pv 9))) (we_bin o_mulI (we_var 3 (pv 3)) (we_var 8 (pv 8)))) (we_bin o_mulI (we_var 4 (pv 4)) (we_var 7 (pv 7)))) (we_bin o_mulI (we_var 5 (pv 5)) (we_var 6 (pv 6)))) wa_nil))))))))))))
abbrev st_then : Stmt := topS 18
abbrev N_then : List Str := ["one", "other"]
theorem sc_then : FnScope N_then ["one", "other"] (defScope st_then) := ⟨rfl, rfl, rfl, by decide +kernel, rfl, by decide +kernel, by decide +kernel⟩
theorem tm_then {P : Program} {w : World} {K : PySem.W.Frag} {mg : Str → Option Value} {base : Heap} {f : Addr} (F_plain : FnZ P w K mg base 4 "plain" 1 sp_plain) (F_product : FnZ P w K mg base 4 "product" 2 sp_product) (cdv : Value) (A : Around) (outer : List Env) (s : Shared) (H : Hp) (E : XK) (hr : Room 4 (A.deeper (envOfC "then" (defScope st_then) s.heap.objs.size f cdv))) :
    WSs (cxOf CX0 P w K mg base N_then "then" (defScope st_then) f cdv A outer s H E).nox (defBody st_then) w_then := by
  have nd := sc_then.nd
  unfold w_then
  exact (ws_one (ws_ret (we_call F_plain hr (by rfl) (wa_cons (we_call F_product hr (by rfl) (wa_cons (we_var 1 (pv 1)) (wa_cons (we_var 0 (pv 0)) wa_nil))) wa_nil))))
abbrev st_rows_of : Stmt := topS 19
abbrev N_rows_of : List Str := ["four", "w", "x", "y", "z", "first", "second", "third"]
theorem sc_rows_of : FnScope N_rows_of ["four"] (defScope st_rows_of) := ⟨rfl, rfl, rfl, by decide +kernel, rfl, by decide +kernel, by decide +kernel⟩
theorem tm_rows_of {P : Program} {w : World} {K : PySem.W.Frag} {mg : Str → Option Value} {base : Heap} {f : Addr} (cdv : Value) (A : Around) (outer : List Env) (s : Shared) (H : Hp) (E : XK) (hr : Room 0 (A.deeper (envOfC "rows_of" (defScope st_rows_of) s.heap.objs.size f cdv))) :
    WSs (cxOf CX0 P w K mg base N_rows_of "rows_of" (defScope st_rows_of) f cdv A outer s H E).nox (defBody st_rows_of) w_rows_of := by
  have nd := sc_rows_of.nd
  unfold w_rows_of
  exact (ws_cons (ws_unp (we_var 0 (pv 0)) (pg_tup rfl (pgs_cons (pg_name (i := 1) nd rfl (by first | exact Or.inl rfl | exact Or.inr rfl)) (pgs_cons (pg_name (i := 2) nd rfl (by first | exact Or.inl rfl | exact Or.inr rfl)) (pgs_cons (pg_name (i := 3) nd rfl (by first | exact Or.inl rfl | exact Or.inr rfl)) (pgs_cons (pg_name (i := 4) nd rfl (by first | exact Or.inl rfl | exact Or.inr rfl)) pgs_nil))))) (tg_tup (n := 4) (tgs_cons (tg_name 1) (tgs_cons (tg_name 2) (tgs_cons (tg_name 3) (tgs_cons (tg_name 4) tgs_nil))))))
    (ws_cons (ws_set (i := 5) nd rfl (by first | exact Or.inl rfl | exact Or.inr rfl) (we_tup (wa_cons (we_bin o_sub (we_bin o_sub (we_bin o_addI (we_bin o_mulI (we_var 1 (pv 1)) (we_var 1 (pv 1))) (we_bin o_mulI (we_var 2 (pv 2)) (we_var 2 (pv 2)))) (we_bin o_mulI (we_var 3 (pv 3)) (we_var 3 (pv 3)))) (we_bin o_mulI (we_var 4 (pv 4)) (we_var 4 (pv 4)))) (wa_cons (we_bin o_mulI we_int (we_bin o_sub (we_bin o_mulI (we_var 2 (pv 2)) (we_var 3 (pv 3))) (we_bin o_mulI (we_var 1 (pv 1)) (we_var 4 (pv 4))))) (wa_cons (we_bin o_mulI we_int (we_bin o_addI (we_bin o_mulI (we_var 2 (pv 2)) (we_var 4 (pv 4))) (we_bin o_mulI (we_var 1 (pv 1)) (we_var 3 (pv 3))))) wa_nil)))))
    (ws_cons (ws_set (i := 6) nd rfl (by first | exact Or.inl rfl | exact Or.inr rfl) (we_tup (wa_cons (we_bin o_mulI we_int (we_bin o_addI (we_bin o_mulI (we_var 2 (pv 2)) (we_var 3 (pv 3))) (we_bin o_mulI (we_var 1 (pv 1)) (we_var 4 (pv 4))))) (wa_cons (we_bin o_sub (we_bin o_addI (we_bin o_sub (we_bin o_mulI (we_var 1 (pv 1)) (we_var 1 (pv 1))) (we_bin o_mulI (we_var 2 (pv 2)) (we_var 2 (pv 2)))) (we_bin o_mulI (we_var 3 (pv 3)) (we_var 3 (pv 3)))) (we_bin o_mulI (we_var 4 (pv 4)) (we_var 4 (pv 4)))) (wa_cons (we_bin o_mulI we_int (we_bin o_sub (we_bin o_mulI (we_var 3 (pv 3)) (we_var 4 (pv 4))) (we_bin o_mulI (we_var 1 (pv 1)) (we_var 2 (pv 2))))) wa_nil)))))
    (ws_cons (ws_set (i := 7) nd rfl (by first | exact Or.inl rfl | exact Or.inr rfl) (we_tup (wa_cons (we_bin o_mulI we_int (we_bin o_sub (we_bin o_mulI (we_var 2 (pv 2)) (we_var 4 (pv 4))) (we_bin o_mulI (we_var 1 (pv 1)) (we_var 3 (pv 3))))) (wa_cons (we_bin o_mulI we_int (we_bin o_addI (we_bin o_mulI (we_var 3 (pv 3)) (we_var 4 (pv 4))) (we_bin o_mulI (we_var 1 (pv 1)) (we_var 2 (pv 2))))) (wa_cons (we_bin o_addI (we_bin o_sub (we_bin o_sub (we_bin o_mulI (we_var 1 (pv 1)) (we_var 1 (pv 1))) (we_bin o_mulI (we_var 2 (pv 2)) (we_var 2 (pv 2)))) (we_bin o_mulI (we_var 3 (pv 3)) (we_var 3 (pv 3)))) (we_bin o_mulI (we_var 4 (pv 4)) (we_var 4 (pv 4)))) wa_nil)))))
    (ws_one (ws_ret (we_tup (wa_cons (we_var 5 (pv 5)) (wa_cons (we_var 6 (pv 6)) (wa_cons (we_var 7 (pv 7)) wa_nil))))))))))
abbrev st_turned : Stmt := topS 20
abbrev N_turned : List Str := ["four", "point", "bottom", "top", "part", "tops", "found", "row", "k"]
theorem sc_turned : FnScope N_turned ["four", "point"] (defScope st_turned) := ⟨rfl, rfl, rfl, by decide +kernel, rfl, by decide +kernel, by decide +kernel⟩
theorem tm_turned {P : Program} {w : World} {K : PySem.W.Frag} {mg : Str → Option Value} {base : Heap} {f : Addr} (F_divisor : FnZ P w K mg base 2 "divisor" 2 sp_divisor) (F_rows_of : FnZ P w K mg base 2 "rows_of" 1 sp_rows_of) (F_made : FnZ P w K mg base 2 "made" 2 sp_made) (F_size : FnZ P w K mg base 2 "size" 1 sp_size) (hb_range : mg "range" = none) (hb_sum : mg "sum" = none) (hb_tuple : mg "tuple" = none) (cdv : Value) (A : Around) (outer : List Env) (s : Shared) (H : Hp) (E : XK) (hr : Room 2 (A.deeper (envOfC "turned" (defScope st_turned) s.heap.objs.size f cdv))) :
    WSs (cxOf CX0 P w K mg base N_turned "turned" (defScope st_turned) f cdv A outer s H E).nox (defBody st_turned) w_turned := by
  have nd := sc_turned.nd
  unfold w_turned
  exact (ws_cons (ws_set (i := 2) nd rfl (by first | exact Or.inl rfl | exact Or.inr rfl) we_int)
    (ws_cons (ws_for PassesOwn.never rfl (wi_seq (we_var 1 (pv 1))) (pg_tup rfl (pgs_cons (pg_name (i := 3) nd rfl (by first | exact Or.inl rfl | exact Or.inr rfl)) (pgs_cons (pg_name (i := 4) nd rfl (by first | exact Or.inl rfl | exact Or.inr rfl)) pgs_nil))) (tg_tup (n := 2) (tgs_cons (tg_name 3) (tgs_cons (tg_name 4) tgs_nil))) (ws_one (ws_set (i := 2) nd rfl (by first | exact Or.inl rfl | exact Or.inr rfl) (we_bin o_mulI (we_var 2 (pv 2)) (we_bin o_div (we_var 4 (pv 4)) (we_call F_divisor hr (by rfl) (wa_cons (we_var 2 (pv 2)) (wa_cons (we_var 4 (pv 4)) wa_nil))))))))
    (ws_cons (ws_set (i := 5) nd rfl (by first | exact Or.inl rfl | exact Or.inr rfl) (we_lc (own := [("top", 3), ("part", 4)]) rfl nd (wi_seq (we_var 1 (pv 1))) (blkOk_by (N := N_turned) (sc := defScope st_turned) (by decide +kernel)) (fun _ _ _ _ _ => (pg_tup rfl (pgs_cons (pg_name (i := 3) nd rfl (by first | exact Or.inl rfl | exact Or.inr rfl)) (pgs_cons (pg_name (i := 4) nd rfl (by first | exact Or.inl rfl | exact Or.inr rfl)) pgs_nil)))) (tg_tup (n := 2) (tgs_cons (tg_name 3) (tgs_cons (tg_name 4) tgs_nil))) (by decide) (fun _ _ _ _ _ => wts_nil) (fun _ _ _ _ _ => (we_bin o_mulI (we_var 3 (pv 3)) (we_bin o_div (we_var 2 (pv 2)) (we_var 4 (pv 4)))))))
    (ws_cons (ws_set (i := 6) nd rfl (by first | exact Or.inl rfl | exact Or.inr rfl) (we_lst wa_nil))
    (ws_cons (ws_for PassesOwn.never rfl (wi_seq (we_call F_rows_of hr (by rfl) (wa_cons (we_var 0 (pv 0)) wa_nil))) (pg_name (i := 7) nd rfl (by first | exact Or.inl rfl | exact Or.inr rfl)) (tg_name 7) (ws_one (ws_drop (we_app (we_var 6 (pv 6)) (we_call F_made hr (by rfl) (wa_cons (we_blt (f_sum rfl) (by rfl) hb_sum PyProof.Rows.boot_sum (wa_cons (we_lc (own := [("k", 8)]) rfl nd (wi_rng1 (by rfl) hb_range (wa_cons we_int wa_nil)) (blkOk_by (N := N_turned) (sc := defScope st_turned) (by decide +kernel)) (fun _ _ _ _ _ => (pg_name (i := 8) nd rfl (by first | exact Or.inl rfl | exact Or.inr rfl))) (tg_name 8) (by decide) (fun _ _ _ _ _ => wts_nil) (fun _ _ _ _ _ => (we_bin o_mulI (we_ix (we_var 7 (pv 7)) (we_var 8 (pv 8)) (fun _ _ => rfl)) (we_ix (we_var 5 (pv 5)) (we_var 8 (pv 8)) (fun _ _ => rfl))))) wa_nil)) (wa_cons (we_bin o_mulI (we_call F_size hr (by rfl) (wa_cons (we_var 0 (pv 0)) wa_nil)) (we_var 2 (pv 2))) wa_nil)))))))
    (ws_one (ws_ret (we_ty f_tup (by rfl) hb_tuple PyProof.Rows.boot_tuple (wa_cons (we_var 6 (pv 6)) wa_nil)))))))))
abbrev st_is_name : Stmt := topS 24
abbrev N_is_name : List Str := ["text", "sign"]
theorem sc_is_name : FnScope N_is_name ["text"] (defScope st_is_name) := ⟨rfl, rfl, rfl, by decide +kernel, rfl, by decide +kernel, by decide +kernel⟩
theorem tm_is_name {P : Program} {w : World} {K : PySem.W.Frag} {mg : Str → Option Value} {base : Heap} {f : Addr} (hb_len : mg "len" = none) (hc_LONGEST : ConAt K mg "LONGEST" (.int 8)) (hc_LETTERS : ConAt K mg "LETTERS" (.str (PySem.Str.ofString "abcdefghijklmnopqrstuvwxyz"))) (cdv : Value) (A : Around) (outer : List Env) (s : Shared) (H : Hp) (E : XK) (hr : Room 0 (A.deeper (envOfC "is_name" (defScope st_is_name) s.heap.objs.size f cdv))) :
    WSs (cxOf CX0 P w K mg base N_is_name "is_name" (defScope st_is_name) f cdv A outer s H E).nox (defBody st_is_name) w_is_name := by
  have nd := sc_is_name.nd
  unfold w_is_name
  exact (ws_cons (ws_if ((ww_or (wt_cmp o_lt (we_blt f_slen (by rfl) hb_len PySem.boot_len (wa_cons (we_var 0 (pv 0)) wa_nil)) we_int (nomark _)) (ww_or1 (wt_cmp o_gt (we_blt f_slen (by rfl) hb_len PySem.boot_len (wa_cons (we_var 0 (pv 0)) wa_nil)) (we_gc (by rfl) hc_LONGEST) (nomark _))))).wt (ws_one (ws_ret we_bl)) ws_nil)
    (ws_cons (ws_for PassesOwn.never rfl (wi_str (we_var 0 (pv 0))) (pg_name (i := 1) nd rfl (by first | exact Or.inl rfl | exact Or.inr rfl)) (tg_name 1) (ws_one (ws_if (wt_cmp o_snin (we_var 1 (pv 1)) (we_gc (by rfl) hc_LETTERS) (by with_unfolding_all rfl)) (ws_one (ws_ret we_bl)) ws_nil)))
    (ws_one (ws_ret we_bl))))
abbrev st_plain_setting : Stmt := topS 27
abbrev N_plain_setting : List Str := ["k", "l", "top", "bottom"]
theorem sc_plain_setting : FnScope N_plain_setting ["k", "l"] (defScope st_plain_setting) := ⟨rfl, rfl, rfl, by decide +kernel, rfl, by decide +kernel, by decide +kernel⟩
theorem tm_plain_setting {P : Program} {w : World} {K : PySem.W.Frag} {mg : Str → Option Value} {base : Heap} {f : Addr} (F_plain_row : FnZ P w K mg base 3 "plain_row" 1 sp_plain_row) (cdv : Value) (A : Around) (outer : List Env) (s : Shared) (H : Hp) (E : XK) (hr : Room 3 (A.deeper (envOfC "plain_setting" (defScope st_plain_setting) s.heap.objs.size f cdv))) :
    WSs (cxOf CX0 P w K mg base N_plain_setting "plain_setting" (defScope st_plain_setting) f cdv A outer s H E).nox (defBody st_plain_setting) w_plain_setting := by
  have nd := sc_plain_setting.nd
  unfold w_plain_setting
  exact (ws_cons (ws_unp (we_call F_plain_row hr (by rfl) (wa_cons (we_tup (wa_cons (we_var 0 (pv 0)) (wa_cons (we_var 1 (pv 1)) wa_nil))) wa_nil)) (pg_tup rfl (pgs_cons (pg_name (i := 2) nd rfl (by first | exact Or.inl rfl | exact Or.inr rfl)) (pgs_cons (pg_name (i := 3) nd rfl (by first | exact Or.inl rfl | exact Or.inr rfl)) pgs_nil))) (tg_tup (n := 2) (tgs_cons (tg_name 2) (tgs_cons (tg_name 3) tgs_nil))))
    (ws_cons (ws_if ((ww_or (wt_cmp o_lt (we_var 3 (pv 3)) we_int (nomark _)) (ww_or1 ((ww_and (wt_cmp (o_eq hr.units) (we_var 3 (pv 3)) we_int (nomark _)) (ww_and1 (wt_cmp o_lt (we_var 2 (pv 2)) we_int (nomark _))))).wt))).wt (ws_one (ws_ret (we_tup (wa_cons (we_un u_neg (we_var 2 (pv 2))) (wa_cons (we_un u_neg (we_var 3 (pv 3))) wa_nil))))) ws_nil)
    (ws_one (ws_ret (we_tup (wa_cons (we_var 2 (pv 2)) (wa_cons (we_var 3 (pv 3)) wa_nil)))))))
abbrev st_about : Stmt := topS 28
abbrev N_about : List Str := ["way", "setting", "k", "l"]
theorem sc_about : FnScope N_about ["way", "setting"] (defScope st_about) := ⟨rfl, rfl, rfl, by decide +kernel, rfl, by decide +kernel, by decide +kernel⟩
theorem tm_about {P : Program} {w : World} {K : PySem.W.Frag} {mg : Str → Option Value} {base : Heap} {f : Addr} (F_plain : FnZ P w K mg base 4 "plain" 1 sp_plain) (cdv : Value) (A : Around) (outer : List Env) (s : Shared) (H : Hp) (E : XK) (hr : Room 4 (A.deeper (envOfC "about" (defScope st_about) s.heap.objs.size f cdv))) :
    WSs (cxOf CX0 P w K mg base N_about "about" (defScope st_about) f cdv A outer s H E).nox (defBody st_about) w_about := by
  have nd := sc_about.nd
  unfold w_about
  exact (ws_cons (ws_unp (we_var 1 (pv 1)) (pg_tup rfl (pgs_cons (pg_name (i := 2) nd rfl (by first | exact Or.inl rfl | exact Or.inr rfl)) (pgs_cons (pg_name (i := 3) nd rfl (by first | exact Or.inl rfl | exact Or.inr rfl)) pgs_nil))) (tg_tup (n := 2) (tgs_cons (tg_name 2) (tgs_cons (tg_name 3) tgs_nil))))
    (ws_one (ws_ret (we_call F_plain hr (by rfl) (wa_cons (we_tup (wa_cons (we_var 3 (pv 3)) (wa_cons (we_bin o_mulI (we_var 2 (pv 2)) (we_ix (we_var 0 (pv 0)) we_int (fun _ _ => rfl))) (wa_cons (we_bin o_mulI (we_var 2 (pv 2)) (we_ix (we_var 0 (pv 0)) we_int (fun _ _ => rfl))) (wa_cons (we_bin o_mulI (we_var 2 (pv 2)) (we_ix (we_var 0 (pv 0)) we_int (fun _ _ => rfl))) wa_nil))))) wa_nil)))))
abbrev st_put_on : Stmt := topS 33
abbrev N_put_on : List Str := ["point", "other", "a", "b"]
theorem sc_put_on : FnScope N_put_on ["point", "other"] (defScope st_put_on) := ⟨rfl, rfl, rfl, by decide +kernel, rfl, by decide +kernel, by decide +kernel⟩
theorem tm_put_on {P : Program} {w : World} {K : PySem.W.Frag} {mg : Str → Option Value} {base : Heap} {f : Addr} (F_added : FnZ P w K mg base 3 "added" 2 sp_added) (hb_zip : mg "zip" = none) (hb_tuple : mg "tuple" = none) (cdv : Value) (A : Around) (outer : List Env) (s : Shared) (H : Hp) (E : XK) (hr : Room 3 (A.deeper (envOfC "put_on" (defScope st_put_on) s.heap.objs.size f cdv))) :
    WSs (cxOf CX0 P w K mg base N_put_on "put_on" (defScope st_put_on) f cdv A outer s H E).nox (defBody st_put_on) w_put_on := by
  have nd := sc_put_on.nd
  unfold w_put_on
  exact (ws_one (ws_ret (we_ty f_tup (by rfl) hb_tuple PyProof.Rows.boot_tuple (wa_cons (we_lc (own := [("a", 2), ("b", 3)]) rfl nd (wi_zip (by rfl) hb_zip (wa_cons (we_var 0 (pv 0)) (wa_cons (we_var 1 (pv 1)) wa_nil))) (blkOk_by (N := N_put_on) (sc := defScope st_put_on) (by decide +kernel)) (fun _ _ _ _ _ => (pg_tup rfl (pgs_cons (pg_name (i := 2) nd rfl (by first | exact Or.inl rfl | exact Or.inr rfl)) (pgs_cons (pg_name (i := 3) nd rfl (by first | exact Or.inl rfl | exact Or.inr rfl)) pgs_nil)))) (tg_tup (n := 2) (tgs_cons (tg_name 2) (tgs_cons (tg_name 3) tgs_nil))) (by decide) (fun _ _ _ _ _ => wts_nil) (fun _ _ _ _ _ => (we_call F_added hr (by rfl) (wa_cons (we_var 2 (pv 2)) (wa_cons (we_var 3 (pv 3)) wa_nil))))) wa_nil))))
abbrev st_l_mixed : Stmt := topS 36
abbrev N_l_mixed : List Str := ["_law_cell", "_law_k", "_law_number_here"]
theorem sc_l_mixed : FnScope N_l_mixed ["_law_cell", "_law_k"] (defScope st_l_mixed) := ⟨rfl, rfl, rfl, by decide +kernel, rfl, by decide +kernel, by decide +kernel⟩
theorem tm_l_mixed {P : Program} {w : World} {K : PySem.W.Frag} {mg : Str → Option Value} {base : Heap} {f : Addr} (cdv : Value) (A : Around) (outer : List Env) (s : Shared) (H : Hp) (E : XK) (hr : Room 0 (A.deeper (envOfC "_law_mixed" (defScope st_l_mixed) s.heap.objs.size f cdv))) :
    WSs (cxOf CX0 P w K mg base N_l_mixed "_law_mixed" (defScope st_l_mixed) f cdv A outer s H E).nox (defBody st_l_mixed) w_l_mixed := by
  have nd := sc_l_mixed.nd
  unfold w_l_mixed
  exact (ws_cons (ws_set (i := 2) nd rfl (by first | exact Or.inl rfl | exact Or.inr rfl) (we_bin o_mod (we_bin o_mulI (we_bin o_addI (we_bin o_addI (we_bin o_addI (we_bin o_mulI (we_var 0 (pv 0)) (we_var 0 (pv 0))) (we_bin o_mulI we_int (we_var 0 (pv 0)))) (we_bin o_mulI we_int (we_var 1 (pv 1)))) we_int) we_int) we_int))
    (ws_cons (ws_set (i := 2) nd rfl (by first | exact Or.inl rfl | exact Or.inr rfl) (we_bin o_mod (we_bin o_addI (we_bin o_mulI (we_var 2 (pv 2)) (we_var 2 (pv 2))) we_int) we_int))
    (ws_one (ws_ret (we_bin o_mod (we_bin o_mulI (we_var 2 (pv 2)) (we_bin o_addI (we_var 2 (pv 2)) we_int)) we_int)))))
abbrev st_l_purse : Stmt := topS 37
abbrev N_l_purse : List Str := ["_law_script", "_law_cells", "_law_number_here", "_law_k"]
theorem sc_l_purse : FnScope N_l_purse ["_law_script"] (defScope st_l_purse) := ⟨rfl, rfl, rfl, by decide +kernel, rfl, by decide +kernel, by decide +kernel⟩
theorem tm_l_purse {P : Program} {w : World} {K : PySem.W.Frag} {mg : Str → Option Value} {base : Heap} {f : Addr} (F_l_mixed : FnZ P w K mg base 1 "_law_mixed" 2 sp_l_mixed) (hb_range : mg "range" = none) (hb_len : mg "len" = none) (cdv : Value) (A : Around) (outer : List Env) (s : Shared) (H : Hp) (E : XK) (hr : Room 1 (A.deeper (envOfC "_law_purse" (defScope st_l_purse) s.heap.objs.size f cdv))) :
    WSs (cxOf CX0 P w K mg base N_l_purse "_law_purse" (defScope st_l_purse) f cdv A outer s H E).nox (defBody st_l_purse) w_l_purse := by
  have nd := sc_l_purse.nd
  unfold w_l_purse
  exact (ws_cons (ws_set (i := 1) nd rfl (by first | exact Or.inl rfl | exact Or.inr rfl) (we_bin o_cat (we_slice (we_var 0 (pv 0)) wo_none (wo_some we_int)) (we_lst (wa_cons we_int wa_nil))))
    (ws_cons (ws_set (i := 2) nd rfl (by first | exact Or.inl rfl | exact Or.inr rfl) we_int)
    (ws_cons (ws_for PassesOwn.never rfl (wi_rng1 (by rfl) hb_range (wa_cons we_int wa_nil)) (pg_name (i := 3) nd rfl (by first | exact Or.inl rfl | exact Or.inr rfl)) (tg_name 3) (ws_one (ws_set (i := 2) nd rfl (by first | exact Or.inl rfl | exact Or.inr rfl) (we_bin o_addI (we_bin o_mulI (we_var 2 (pv 2)) we_int) (we_call F_l_mixed hr (by rfl) (wa_cons (we_ix (we_var 1 (pv 1)) (we_bin o_mod (we_var 3 (pv 3)) (we_blt f_len (by rfl) hb_len PySem.boot_len (wa_cons (we_var 1 (pv 1)) wa_nil))) (fun _ _ => rfl)) (wa_cons (we_var 3 (pv 3)) wa_nil)))))))
    (ws_cons (ws_if (wt_cmp o_ge (we_ix (we_var 1 (pv 1)) we_int (fun _ _ => rfl)) (we_bin o_pow we_int we_int) (nomark _)) (ws_one (ws_ret (we_lst (wa_cons (we_bin o_div (we_ix (we_var 1 (pv 1)) we_int (fun _ _ => rfl)) (we_bin o_pow we_int we_int)) (wa_cons (we_var 2 (pv 2)) wa_nil))))) ws_nil)
    (ws_one (ws_ret (we_lst (wa_cons (we_var 2 (pv 2)) (wa_cons (we_var 2 (pv 2)) wa_nil)))))))))
abbrev st_l_draw : Stmt := topS 38
abbrev N_l_draw : List Str := ["_law_purse_here", "_law_out_of", "_law_drawn"]
theorem sc_l_draw : FnScope N_l_draw ["_law_purse_here", "_law_out_of"] (defScope st_l_draw) := ⟨rfl, rfl, rfl, by decide +kernel, rfl, by decide +kernel, by decide +kernel⟩
theorem tm_l_draw {P : Program} {w : World} {K : PySem.W.Frag} {mg : Str → Option Value} {base : Heap} {f : Addr} (cdv : Value) (A : Around) (outer : List Env) (s : Shared) (H : Hp) (E : XK) (hr : Room 0 (A.deeper (envOfC "_law_draw" (defScope st_l_draw) s.heap.objs.size f cdv))) :
    WSs (cxOf CX0 P w K mg base N_l_draw "_law_draw" (defScope st_l_draw) f cdv A outer s H E).nox (defBody st_l_draw) w_l_draw := by
  have nd := sc_l_draw.nd
  unfold w_l_draw
  exact (ws_cons (ws_if (wt_cmp (o_eq hr.units) (we_ix (we_var 0 (pv 0)) we_int (fun _ _ => rfl)) we_int (nomark _)) (ws_one (ws_stI (we_var 0 (pv 0)) we_int (we_ix (we_var 0 (pv 0)) we_int (fun _ _ => rfl)))) ws_nil)
    (ws_cons (ws_set (i := 2) nd rfl (by first | exact Or.inl rfl | exact Or.inr rfl) (we_bin o_mod (we_ix (we_var 0 (pv 0)) we_int (fun _ _ => rfl)) (we_var 1 (pv 1))))
    (ws_cons (ws_stI (we_var 0 (pv 0)) we_int (we_bin o_div (we_ix (we_var 0 (pv 0)) we_int (fun _ _ => rfl)) (we_var 1 (pv 1))))
    (ws_one (ws_ret (we_var 2 (pv 2)))))))
abbrev st_l_number : Stmt := topS 39
abbrev N_l_number : List Str := ["_law_purse_here"]
theorem sc_l_number : FnScope N_l_number ["_law_purse_here"] (defScope st_l_number) := ⟨rfl, rfl, rfl, by decide +kernel, rfl, by decide +kernel, by decide +kernel⟩
theorem tm_l_number {P : Program} {w : World} {K : PySem.W.Frag} {mg : Str → Option Value} {base : Heap} {f : Addr} (F_l_draw : FnZ P w K mg base 1 "_law_draw" 2 sp_l_draw) (cdv : Value) (A : Around) (outer : List Env) (s : Shared) (H : Hp) (E : XK) (hr : Room 1 (A.deeper (envOfC "_law_number" (defScope st_l_number) s.heap.objs.size f cdv))) :
    WSs (cxOf CX0 P w K mg base N_l_number "_law_number" (defScope st_l_number) f cdv A outer s H E).nox (defBody st_l_number) w_l_number := by
  have nd := sc_l_number.nd
  unfold w_l_number
  exact (ws_cons (ws_if (wt_cmp (o_eq hr.units) (we_call F_l_draw hr (by rfl) (wa_cons (we_var 0 (pv 0)) (wa_cons we_int wa_nil))) we_int (nomark _)) (ws_one (ws_ret (we_bin o_addI (we_bin o_sub (we_call F_l_draw hr (by rfl) (wa_cons (we_var 0 (pv 0)) (wa_cons (we_bin o_sub (we_bin o_mulI we_int (we_bin o_pow we_int we_int)) we_int) wa_nil))) (we_bin o_pow we_int we_int)) we_int))) ws_nil)
    (ws_one (ws_ret (we_ix (we_lst (wa_cons we_int (wa_cons we_int (wa_cons we_int (wa_cons (we_un u_neg we_int) (wa_cons we_int (wa_cons (we_un u_neg we_int) (wa_cons (we_bin o_sub (we_call F_l_draw hr (by rfl) (wa_cons (we_var 0 (pv 0)) (wa_cons we_int wa_nil))) we_int) (wa_cons (we_bin o_sub (we_call F_l_draw hr (by rfl) (wa_cons (we_var 0 (pv 0)) (wa_cons we_int wa_nil))) we_int) wa_nil))))))))) (we_call F_l_draw hr (by rfl) (wa_cons (we_var 0 (pv 0)) (wa_cons we_int wa_nil))) (fun _ _ => rfl)))))
abbrev st_l_row : Stmt := topS 40
abbrev N_l_row : List Str := ["_law_purse_here", "_law_many", "_law_row_here", "_law_k"]
theorem sc_l_row : FnScope N_l_row ["_law_purse_here", "_law_many"] (defScope st_l_row) := ⟨rfl, rfl, rfl, by decide +kernel, rfl, by decide +kernel, by decide +kernel⟩
theorem tm_l_row {P : Program} {w : World} {K : PySem.W.Frag} {mg : Str → Option Value} {base : Heap} {f : Addr} (F_l_number : FnZ P w K mg base 2 "_law_number" 1 sp_l_number) (hb_range : mg "range" = none) (hb_tuple : mg "tuple" = none) (cdv : Value) (A : Around) (outer : List Env) (s : Shared) (H : Hp) (E : XK) (hr : Room 2 (A.deeper (envOfC "_law_row" (defScope st_l_row) s.heap.objs.size f cdv))) :
    WSs (cxOf CX0 P w K mg base N_l_row "_law_row" (defScope st_l_row) f cdv A outer s H E).nox (defBody st_l_row) w_l_row := by
  have nd := sc_l_row.nd
  unfold w_l_row
  exact (ws_cons (ws_set (i := 2) nd rfl (by first | exact Or.inl rfl | exact Or.inr rfl) (we_ty f_tup (by rfl) hb_tuple PyProof.Rows.boot_tuple (wa_cons (we_lc (own := [("_law_k", 3)]) rfl nd (wi_rng1 (by rfl) hb_range (wa_cons (we_var 1 (pv 1)) wa_nil)) (blkOk_by (N := N_l_row) (sc := defScope st_l_row) (by decide +kernel)) (fun _ _ _ _ _ => (pg_name (i := 3) nd rfl (by first | exact Or.inl rfl | exact Or.inr rfl))) (tg_name 3) (by decide) (fun _ _ _ _ _ => wts_nil) (fun _ _ _ _ _ => (we_call F_l_number hr (by rfl) (wa_cons (we_var 0 (pv 0)) wa_nil)))) wa_nil)))
    (ws_cons (ws_if (wt_cmp (o_eq hr.units) (we_var 2 (pv 2)) (we_bin o_repY (we_tup (wa_cons we_int wa_nil)) (we_var 1 (pv 1))) (nomark _)) (ws_one (ws_ret (we_bin o_addI (we_tup (wa_cons we_int wa_nil)) (we_bin o_repY (we_tup (wa_cons we_int wa_nil)) (we_bin o_sub (we_var 1 (pv 1)) we_int))))) ws_nil)
    (ws_one (ws_ret (we_var 2 (pv 2))))))
abbrev st_l_divisor : Stmt := topS 41
abbrev N_l_divisor : List Str := ["_law_one", "_law_other"]
theorem sc_l_divisor : FnScope N_l_divisor ["_law_one", "_law_other"] (defScope st_l_divisor) := ⟨rfl, rfl, rfl, by decide +kernel, rfl, by decide +kernel, by decide +kernel⟩
theorem tm_l_divisor {P : Program} {w : World} {K : PySem.W.Frag} {mg : Str → Option Value} {base : Heap} {f : Addr} (hb_abs : mg "abs" = none) (cdv : Value) (A : Around) (outer : List Env) (s : Shared) (H : Hp) (E : XK) (hr : Room 0 (A.deeper (envOfC "_law_divisor" (defScope st_l_divisor) s.heap.objs.size f cdv))) :
    WSs (cxOf CX0 P w K mg base N_l_divisor "_law_divisor" (defScope st_l_divisor) f cdv A outer s H E).nox (defBody st_l_divisor) w_l_divisor := by
  have nd := sc_l_divisor.nd
  unfold w_l_divisor
  exact (ws_cons (ws_set (i := 0) nd rfl (by first | exact Or.inl rfl | exact Or.inr rfl) (we_blt f_abs (by rfl) hb_abs PyProof.Rows.boot_abs (wa_cons (we_var 0 (pv 0)) wa_nil)))
    (ws_cons (ws_set (i := 1) nd rfl (by first | exact Or.inl rfl | exact Or.inr rfl) (we_blt f_abs (by rfl) hb_abs PyProof.Rows.boot_abs (wa_cons (we_var 1 (pv 1)) wa_nil)))
    (ws_cons (ws_while PassesOwn.never (wt_cmp o_gt (we_var 1 (pv 1)) we_int (nomark _)) (ws_one (ws_par (i := 0) (j := 1) rfl nd rfl rfl (by decide) rfl rfl (wa_cons (we_var 1 (pv 1)) (wa_cons (we_bin o_mod (we_var 0 (pv 0)) (we_var 1 (pv 1))) wa_nil)) (by with_unfolding_all rfl))))
    (ws_one (ws_ret (we_var 0 (pv 0)))))))
abbrev st_l_lowest : Stmt := topS 45
abbrev N_l_lowest : List Str := ["_law_top", "_law_bottom", "_law_by"]
theorem sc_l_lowest : FnScope N_l_lowest ["_law_top", "_law_bottom"] (defScope st_l_lowest) := ⟨rfl, rfl, rfl, by decide +kernel, rfl, by decide +kernel, by decide +kernel⟩
theorem tm_l_lowest {P : Program} {w : World} {K : PySem.W.Frag} {mg : Str → Option Value} {base : Heap} {f : Addr} (F_l_divisor : FnZ P w K mg base 1 "_law_divisor" 2 sp_l_divisor) (cdv : Value) (A : Around) (outer : List Env) (s : Shared) (H : Hp) (E : XK) (hr : Room 1 (A.deeper (envOfC "_law_lowest" (defScope st_l_lowest) s.heap.objs.size f cdv))) :
    WSs (cxOf CX0 P w K mg base N_l_lowest "_law_lowest" (defScope st_l_lowest) f cdv A outer s H E).nox (defBody st_l_lowest) w_l_lowest := by
  have nd := sc_l_lowest.nd
  unfold w_l_lowest
  exact (ws_cons (ws_set (i := 2) nd rfl (by first | exact Or.inl rfl | exact Or.inr rfl) (we_call F_l_divisor hr (by rfl) (wa_cons (we_var 0 (pv 0)) (wa_cons (we_var 1 (pv 1)) wa_nil))))
    (ws_one (ws_ret (we_tup (wa_cons (we_bin o_div (we_var 0 (pv 0)) (we_var 2 (pv 2))) (wa_cons (we_bin o_div (we_var 1 (pv 1)) (we_var 2 (pv 2))) wa_nil))))))
abbrev st_l_point : Stmt := topS 46
abbrev N_l_point : List Str := ["_law_purse_here", "_law_k"]
theorem sc_l_point : FnScope N_l_point ["_law_purse_here"] (defScope st_l_point) := ⟨rfl, rfl, rfl, by decide +kernel, rfl, by decide +kernel, by decide +kernel⟩
theorem tm_l_point {P : Program} {w : World} {K : PySem.W.Frag} {mg : Str → Option Value} {base : Heap} {f : Addr} (F_l_lowest : FnZ P w K mg base 2 "_law_lowest" 2 sp_l_lowest) (F_l_draw : FnZ P w K mg base 2 "_law_draw" 2 sp_l_draw) (hb_range : mg "range" = none) (hb_tuple : mg "tuple" = none) (cdv : Value) (A : Around) (outer : List Env) (s : Shared) (H : Hp) (E : XK) (hr : Room 2 (A.deeper (envOfC "_law_point" (defScope st_l_point) s.heap.objs.size f cdv))) :
    WSs (cxOf CX0 P w K mg base N_l_point "_law_point" (defScope st_l_point) f cdv A outer s H E).nox (defBody st_l_point) w_l_point := by
  have nd := sc_l_point.nd
  unfold w_l_point
  exact (ws_one (ws_ret (we_ty f_tup (by rfl) hb_tuple PyProof.Rows.boot_tuple (wa_cons (we_lc (own := [("_law_k", 1)]) rfl nd (wi_rng1 (by rfl) hb_range (wa_cons we_int wa_nil)) (blkOk_by (N := N_l_point) (sc := defScope st_l_point) (by decide +kernel)) (fun _ _ _ _ _ => (pg_name (i := 1) nd rfl (by first | exact Or.inl rfl | exact Or.inr rfl))) (tg_name 1) (by decide) (fun _ _ _ _ _ => wts_nil) (fun _ _ _ _ _ => (we_call F_l_lowest hr (by rfl) (wa_cons (we_bin o_sub (we_call F_l_draw hr (by rfl) (wa_cons (we_var 0 (pv 0)) (wa_cons we_int wa_nil))) we_int) (wa_cons (we_bin o_addI we_int (we_call F_l_draw hr (by rfl) (wa_cons (we_var 0 (pv 0)) (wa_cons we_int wa_nil)))) wa_nil))))) wa_nil))))
abbrev st_l_names : Stmt := topS 47
abbrev N_l_names : List Str := ["_law_purse_here", "_law_letters", "_law_base", "_law_stem", "_law_names_here", "_law_k"]
theorem sc_l_names : FnScope N_l_names ["_law_purse_here"] (defScope st_l_names) := ⟨rfl, rfl, rfl, by decide +kernel, rfl, by decide +kernel, by decide +kernel⟩
theorem tm_l_names {P : Program} {w : World} {K : PySem.W.Frag} {mg : Str → Option Value} {base : Heap} {f : Addr} (F_l_draw : FnZ P w K mg base 1 "_law_draw" 2 sp_l_draw) (hb_range : mg "range" = none) (cdv : Value) (A : Around) (outer : List Env) (s : Shared) (H : Hp) (E : XK) (hr : Room 1 (A.deeper (envOfC "_law_names" (defScope st_l_names) s.heap.objs.size f cdv))) :
    WSs (cxOf CX0 P w K mg base N_l_names "_law_names" (defScope st_l_names) f cdv A outer s H E).nox (defBody st_l_names) w_l_names := by
  have nd := sc_l_names.nd
  unfold w_l_names
  exact (ws_cons (ws_set (i := 1) nd rfl (by first | exact Or.inl rfl | exact Or.inr rfl) we_str)
    (ws_cons (ws_set (i := 2) nd rfl (by first | exact Or.inl rfl | exact Or.inr rfl) (we_call F_l_draw hr (by rfl) (wa_cons (we_var 0 (pv 0)) (wa_cons we_int wa_nil))))
    (ws_cons (ws_set (i := 3) nd rfl (by first | exact Or.inl rfl | exact Or.inr rfl) (we_bin o_smul (we_six (we_var 1 (pv 1)) (we_call F_l_draw hr (by rfl) (wa_cons (we_var 0 (pv 0)) (wa_cons we_int wa_nil))) (fun _ _ => rfl)) (we_call F_l_draw hr (by rfl) (wa_cons (we_var 0 (pv 0)) (wa_cons we_int wa_nil)))))
    (ws_cons (ws_set (i := 4) nd rfl (by first | exact Or.inl rfl | exact Or.inr rfl) (we_lst wa_nil))
    (ws_cons (ws_for PassesOwn.never rfl (wi_rng1 (by rfl) hb_range (wa_cons we_int wa_nil)) (pg_name (i := 5) nd rfl (by first | exact Or.inl rfl | exact Or.inr rfl)) (tg_name 5) (ws_one (ws_drop (we_app (we_var 4 (pv 4)) (we_bin o_scat (we_var 3 (pv 3)) (we_six (we_var 1 (pv 1)) (we_bin o_mod (we_bin o_addI (we_var 2 (pv 2)) (we_bin o_mulI we_int (we_var 5 (pv 5)))) we_int) (fun _ _ => rfl)))))))
    (ws_cons (ws_if (wt_cmp (o_eq hr.units) (we_call F_l_draw hr (by rfl) (wa_cons (we_var 0 (pv 0)) (wa_cons we_int wa_nil))) we_int (nomark _)) (ws_one (ws_set (i := 4) nd rfl (by first | exact Or.inl rfl | exact Or.inr rfl) (we_lst (wa_cons (we_bin o_scat (we_var 3 (pv 3)) we_str) (wa_cons (we_bin o_scat (we_var 3 (pv 3)) we_str) (wa_cons (we_bin o_scat (we_var 3 (pv 3)) we_str) (wa_cons we_str wa_nil))))))) ws_nil)
    (ws_one (ws_ret (we_var 4 (pv 4))))))))))
abbrev st_l_body_deed : Stmt := topS 48
abbrev N_l_body_deed : List Str := ["_law_purse_here", "_law_body", "_law_names_here", "_law_way", "_law_marked", "_law_name", "_law_four"]
theorem sc_l_body_deed : FnScope N_l_body_deed ["_law_purse_here", "_law_body", "_law_names_here"] (defScope st_l_body_deed) := ⟨rfl, rfl, rfl, by decide +kernel, rfl, by decide +kernel, by decide +kernel⟩
theorem tm_l_body_deed {P : Program} {w : World} {K : PySem.W.Frag} {mg : Str → Option Value} {base : Heap} {f : Addr} (F_l_draw : FnZ P w K mg base 6 "_law_draw" 2 sp_l_draw) (F_Body_marks : FnM P w K mg base 6 "Body" "marks" 1 sp_Body_marks) (F_Body_room : FnM P w K mg base 6 "Body" "room" 2 sp_Body_room) (F_l_row : FnZ P w K mg base 6 "_law_row" 2 sp_l_row) (F_Body_own : FnM P w K mg base 6 "Body" "own" 2 sp_Body_own) (F_Body_to : FnM P w K mg base 6 "Body" "to" 2 sp_Body_to) (F_Body_mark : FnM P w K mg base 6 "Body" "mark" 2 sp_Body_mark) (hb_len : mg "len" = none) (cdv : Value) (A : Around) (outer : List Env) (s : Shared) (H : Hp) (E : XK) (hr : Room 6 (A.deeper (envOfC "_law_body_deed" (defScope st_l_body_deed) s.heap.objs.size f cdv)))
    (tk : Takes (cxOf (L2.CX P w) P w K mg base N_l_body_deed "_law_body_deed" (defScope st_l_body_deed) f cdv A outer s H E) (fun cls d _ H => E cls d H)) (po : PassesOwn (model P w) (A.deeper (envOfC "_law_body_deed" (defScope st_l_body_deed) s.heap.objs.size f cdv)) (envOfC "_law_body_deed" (defScope st_l_body_deed) s.heap.objs.size f cdv) (cxOf (L2.CX P w) P w K mg base N_l_body_deed "_law_body_deed" (defScope st_l_body_deed) f cdv A outer s H E).xe) :
    WXs (cxOf (L2.CX P w) P w K mg base N_l_body_deed "_law_body_deed" (defScope st_l_body_deed) f cdv A outer s H E) (fun cls d _ H => E cls d H) (defBody st_l_body_deed) w_l_body_deed := by
  have nd := sc_l_body_deed.nd
  unfold w_l_body_deed
  exact (xs_cons (xs_l (ws_set (i := 3) nd rfl (by first | exact Or.inl rfl | exact Or.inr rfl) (we_call F_l_draw hr (by rfl) (wa_cons (we_var 0 (pv 0)) (wa_cons we_int wa_nil)))))
    (xs_cons (xs_l (ws_setLc (own := [("_law_name", 5), ("_law_four", 6)]) (i := 4) rfl nd rfl rfl (sw_true rfl rfl rfl (by decide +kernel)) (wi_seq (we_wmeth0 F_Body_marks hr (we_var 1 (pv 1)))) (blkOk_by (N := N_l_body_deed) (sc := defScope st_l_body_deed) (by decide +kernel)) (fun _ _ _ _ _ => (pg_tup rfl (pgs_cons (pg_name (i := 5) nd rfl (by first | exact Or.inl rfl | exact Or.inr rfl)) (pgs_cons (pg_name (i := 6) nd rfl (by first | exact Or.inl rfl | exact Or.inr rfl)) pgs_nil)))) (tg_tup (n := 2) (tgs_cons (tg_name 5) (tgs_cons (tg_name 6) tgs_nil))) (by decide) (fun _ _ _ _ _ => wts_nil) (fun _ _ _ _ _ => (we_var 5 (pv 5)))))
    (xs_one (xs_l (ws_if (wt_cmp o_lt (we_var 3 (pv 3)) we_int (nomark _)) (ws_one (ws_drop (we_wmeth F_Body_room hr (we_var 1 (pv 1)) (wa_cons (we_call F_l_row hr (by rfl) (wa_cons (we_var 0 (pv 0)) (wa_cons we_int wa_nil))) wa_nil)))) (ws_one (ws_if (wt_cmp (o_eq hr.units) (we_var 3 (pv 3)) we_int (nomark _)) (ws_one (ws_drop (we_wmeth F_Body_own hr (we_var 1 (pv 1)) (wa_cons (we_call F_l_row hr (by rfl) (wa_cons (we_var 0 (pv 0)) (wa_cons we_int wa_nil))) wa_nil)))) (ws_one (ws_if ((ww_and (wt_cmp (o_eq hr.units) (we_var 3 (pv 3)) we_int (nomark _)) (ww_and1 (wt_cmp o_gt (we_blt f_len (by rfl) hb_len PySem.boot_len (wa_cons (we_var 4 (pv 4)) wa_nil)) we_int (nomark _))))).wt (ws_one (ws_drop (we_wmeth F_Body_to hr (we_var 1 (pv 1)) (wa_cons (we_ix (we_var 4 (pv 4)) (we_call F_l_draw hr (by rfl) (wa_cons (we_var 0 (pv 0)) (wa_cons (we_blt f_len (by rfl) hb_len PySem.boot_len (wa_cons (we_var 4 (pv 4)) wa_nil)) wa_nil))) (fun _ _ => rfl)) wa_nil)))) (ws_one (ws_drop (we_wmeth F_Body_mark hr (we_var 1 (pv 1)) (wa_cons (we_ix (we_var 2 (pv 2)) (we_call F_l_draw hr (by rfl) (wa_cons (we_var 0 (pv 0)) (wa_cons we_int wa_nil))) (fun _ _ => rfl)) wa_nil)))))))))))))
abbrev st_l_chain_deed : Stmt := topS 49
abbrev N_l_chain_deed : List Str := ["_law_purse_here", "_law_chain", "_law_way", "_law_many"]
theorem sc_l_chain_deed : FnScope N_l_chain_deed ["_law_purse_here", "_law_chain"] (defScope st_l_chain_deed) := ⟨rfl, rfl, rfl, by decide +kernel, rfl, by decide +kernel, by decide +kernel⟩
theorem tm_l_chain_deed {P : Program} {w : World} {K : PySem.W.Frag} {mg : Str → Option Value} {base : Heap} {f : Addr} (F_l_draw : FnZ P w K mg base 5 "_law_draw" 2 sp_l_draw) (F_Chain_joints : FnM P w K mg base 5 "Chain" "joints" 1 sp_Chain_joints) (F_Chain_add : FnM P w K mg base 5 "Chain" "add" 4 sp_Chain_add) (F_l_point : FnZ P w K mg base 5 "_law_point" 1 sp_l_point) (F_l_row : FnZ P w K mg base 5 "_law_row" 2 sp_l_row) (F_Chain_off : FnM P w K mg base 5 "Chain" "off" 1 sp_Chain_off) (F_Chain_bend : FnM P w K mg base 5 "Chain" "bend" 3 sp_Chain_bend) (hb_len : mg "len" = none) (cdv : Value) (A : Around) (outer : List Env) (s : Shared) (H : Hp) (E : XK) (hr : Room 5 (A.deeper (envOfC "_law_chain_deed" (defScope st_l_chain_deed) s.heap.objs.size f cdv)))
    (tk : Takes (cxOf (L2.CX P w) P w K mg base N_l_chain_deed "_law_chain_deed" (defScope st_l_chain_deed) f cdv A outer s H E) (fun cls d _ H => E cls d H)) (po : PassesOwn (model P w) (A.deeper (envOfC "_law_chain_deed" (defScope st_l_chain_deed) s.heap.objs.size f cdv)) (envOfC "_law_chain_deed" (defScope st_l_chain_deed) s.heap.objs.size f cdv) (cxOf (L2.CX P w) P w K mg base N_l_chain_deed "_law_chain_deed" (defScope st_l_chain_deed) f cdv A outer s H E).xe) :
    WXs (cxOf (L2.CX P w) P w K mg base N_l_chain_deed "_law_chain_deed" (defScope st_l_chain_deed) f cdv A outer s H E) (fun cls d _ H => E cls d H) (defBody st_l_chain_deed) w_l_chain_deed := by
  have nd := sc_l_chain_deed.nd
  unfold w_l_chain_deed
  exact (xs_cons (xs_l (ws_set (i := 2) nd rfl (by first | exact Or.inl rfl | exact Or.inr rfl) (we_call F_l_draw hr (by rfl) (wa_cons (we_var 0 (pv 0)) (wa_cons we_int wa_nil)))))
    (xs_cons (xs_l (ws_set (i := 3) nd rfl (by first | exact Or.inl rfl | exact Or.inr rfl) (we_blt f_len (by rfl) hb_len PySem.boot_len (wa_cons (we_wmeth0 F_Chain_joints hr (we_var 1 (pv 1))) wa_nil))))
    (xs_one (xs_l (ws_if ((ww_or (wt_cmp (o_eq hr.units) (we_var 3 (pv 3)) we_int (nomark _)) (ww_or1 ((ww_and (wt_cmp o_lt (we_var 2 (pv 2)) we_int (nomark _)) (ww_and1 (wt_cmp o_lt (we_var 3 (pv 3)) we_int (nomark _))))).wt))).wt (ws_one (ws_drop (we_wmeth F_Chain_add hr (we_var 1 (pv 1)) (wa_cons (we_call F_l_row hr (by rfl) (wa_cons (we_var 0 (pv 0)) (wa_cons we_int wa_nil))) (wa_cons (we_call F_l_point hr (by rfl) (wa_cons (we_var 0 (pv 0)) wa_nil)) (wa_cons (we_tup (wa_cons (we_bin o_sub (we_call F_l_draw hr (by rfl) (wa_cons (we_var 0 (pv 0)) (wa_cons we_int wa_nil))) we_int) (wa_cons (we_bin o_addI we_int (we_call F_l_draw hr (by rfl) (wa_cons (we_var 0 (pv 0)) (wa_cons we_int wa_nil)))) wa_nil))) wa_nil)))))) (ws_one (ws_if (wt_cmp (o_eq hr.units) (we_var 2 (pv 2)) we_int (nomark _)) (ws_one (ws_drop (we_wmeth0 F_Chain_off hr (we_var 1 (pv 1))))) (ws_one (ws_drop (we_wmeth F_Chain_bend hr (we_var 1 (pv 1)) (wa_cons (we_call F_l_draw hr (by rfl) (wa_cons (we_var 0 (pv 0)) (wa_cons (we_var 3 (pv 3)) wa_nil))) (wa_cons (we_tup (wa_cons (we_bin o_sub (we_call F_l_draw hr (by rfl) (wa_cons (we_var 0 (pv 0)) (wa_cons we_int wa_nil))) we_int) (wa_cons (we_bin o_addI we_int (we_call F_l_draw hr (by rfl) (wa_cons (we_var 0 (pv 0)) (wa_cons we_int wa_nil)))) wa_nil))) wa_nil))))))))))))
abbrev st_l_body_told : Stmt := topS 50
abbrev N_l_body_told : List Str := ["_law_body"]
theorem sc_l_body_told : FnScope N_l_body_told ["_law_body"] (defScope st_l_body_told) := ⟨rfl, rfl, rfl, by decide +kernel, rfl, by decide +kernel, by decide +kernel⟩
theorem tm_l_body_told {P : Program} {w : World} {K : PySem.W.Frag} {mg : Str → Option Value} {base : Heap} {f : Addr} (F_Body_marks : FnM P w K mg base 5 "Body" "marks" 1 sp_Body_marks) (F_Body_path : FnM P w K mg base 5 "Body" "path" 1 sp_Body_path) (F_Body_stand : FnM P w K mg base 5 "Body" "stand" 1 sp_Body_stand) (cdv : Value) (A : Around) (outer : List Env) (s : Shared) (H : Hp) (E : XK) (hr : Room 5 (A.deeper (envOfC "_law_body_told" (defScope st_l_body_told) s.heap.objs.size f cdv)))
    (tk : Takes (cxOf (L2.CX P w) P w K mg base N_l_body_told "_law_body_told" (defScope st_l_body_told) f cdv A outer s H E) (fun cls d _ H => E cls d H)) (po : PassesOwn (model P w) (A.deeper (envOfC "_law_body_told" (defScope st_l_body_told) s.heap.objs.size f cdv)) (envOfC "_law_body_told" (defScope st_l_body_told) s.heap.objs.size f cdv) (cxOf (L2.CX P w) P w K mg base N_l_body_told "_law_body_told" (defScope st_l_body_told) f cdv A outer s H E).xe) :
    WXs (cxOf (L2.CX P w) P w K mg base N_l_body_told "_law_body_told" (defScope st_l_body_told) f cdv A outer s H E) (fun cls d _ H => E cls d H) (defBody st_l_body_told) w_l_body_told := by
  have nd := sc_l_body_told.nd
  unfold w_l_body_told
  exact (xs_one (xs_l (ws_ret (we_lst (wa_cons (we_wmeth0 F_Body_stand hr (we_var 0 (pv 0))) (wa_cons (we_fzL (we_wmeth0 F_Body_path hr (we_var 0 (pv 0)))) (wa_cons (we_fzL (we_wmeth0 F_Body_marks hr (we_var 0 (pv 0)))) wa_nil)))))))
abbrev st_l_chain_told : Stmt := topS 51
abbrev N_l_chain_told : List Str := ["_law_chain"]
theorem sc_l_chain_told : FnScope N_l_chain_told ["_law_chain"] (defScope st_l_chain_told) := ⟨rfl, rfl, rfl, by decide +kernel, rfl, by decide +kernel, by decide +kernel⟩
theorem tm_l_chain_told {P : Program} {w : World} {K : PySem.W.Frag} {mg : Str → Option Value} {base : Heap} {f : Addr} (F_Chain_tip : FnM P w K mg base 7 "Chain" "tip" 1 sp_Chain_tip) (F_Chain_places : FnM P w K mg base 7 "Chain" "places" 1 sp_Chain_places) (F_Chain_stands : FnM P w K mg base 7 "Chain" "stands" 1 sp_Chain_stands) (F_Chain_joints : FnM P w K mg base 7 "Chain" "joints" 1 sp_Chain_joints) (cdv : Value) (A : Around) (outer : List Env) (s : Shared) (H : Hp) (E : XK) (hr : Room 7 (A.deeper (envOfC "_law_chain_told" (defScope st_l_chain_told) s.heap.objs.size f cdv)))
    (tk : Takes (cxOf (L2.CX P w) P w K mg base N_l_chain_told "_law_chain_told" (defScope st_l_chain_told) f cdv A outer s H E) (fun cls d _ H => E cls d H)) (po : PassesOwn (model P w) (A.deeper (envOfC "_law_chain_told" (defScope st_l_chain_told) s.heap.objs.size f cdv)) (envOfC "_law_chain_told" (defScope st_l_chain_told) s.heap.objs.size f cdv) (cxOf (L2.CX P w) P w K mg base N_l_chain_told "_law_chain_told" (defScope st_l_chain_told) f cdv A outer s H E).xe) :
    WXs (cxOf (L2.CX P w) P w K mg base N_l_chain_told "_law_chain_told" (defScope st_l_chain_told) f cdv A outer s H E) (fun cls d _ H => E cls d H) (defBody st_l_chain_told) w_l_chain_told := by
  have nd := sc_l_chain_told.nd
  unfold w_l_chain_told
  exact (xs_one (xs_l (ws_ret (we_lst (wa_cons (we_fzL (we_wmeth0 F_Chain_joints hr (we_var 0 (pv 0)))) (wa_cons (we_fzL (we_wmeth0 F_Chain_stands hr (we_var 0 (pv 0)))) (wa_cons (we_fzL (we_wmeth0 F_Chain_places hr (we_var 0 (pv 0)))) (wa_cons (we_wmeth0 F_Chain_tip hr (we_var 0 (pv 0))) wa_nil))))))))
abbrev st_l_no_deed_Body : Stmt := topS 52
abbrev N_l_no_deed_Body : List Str := ["_law_thing", "_law_again", "_law_refused"]
theorem sc_l_no_deed_Body : FnScope N_l_no_deed_Body ["_law_thing", "_law_again"] (defScope st_l_no_deed_Body) := ⟨rfl, rfl, rfl, by decide +kernel, rfl, by decide +kernel, by decide +kernel⟩
theorem tm_l_no_deed_Body {P : Program} {w : World} {K : PySem.W.Frag} {mg : Str → Option Value} {base : Heap} {f : Addr} (F_Body_again : FnM P w K mg base 1 "Body" "again" 1 sp_Body_again) (F_Body_back : FnM P w K mg base 1 "Body" "back" 1 sp_Body_back) (hX_cat1_NoDeed : XC K mg [PySem.Str.ofString "NoDeed"] (PySem.Str.ofString "NoDeed")) (cdv : Value) (A : Around) (outer : List Env) (s : Shared) (H : Hp) (E : XK) (hr : Room 1 (A.deeper (envOfC "_law_no_deed" (defScope st_l_no_deed_Body) s.heap.objs.size f cdv)))
    (tk : Takes (cxOf (L2.CX P w) P w K mg base N_l_no_deed_Body "_law_no_deed" (defScope st_l_no_deed_Body) f cdv A outer s H E) (fun cls d _ H => E cls d H)) (po : PassesOwn (model P w) (A.deeper (envOfC "_law_no_deed" (defScope st_l_no_deed_Body) s.heap.objs.size f cdv)) (envOfC "_law_no_deed" (defScope st_l_no_deed_Body) s.heap.objs.size f cdv) (cxOf (L2.CX P w) P w K mg base N_l_no_deed_Body "_law_no_deed" (defScope st_l_no_deed_Body) f cdv A outer s H E).xe) :
    WXs (cxOf (L2.CX P w) P w K mg base N_l_no_deed_Body "_law_no_deed" (defScope st_l_no_deed_Body) f cdv A outer s H E) (fun cls d _ H => E cls d H) (defBody st_l_no_deed_Body) w_l_no_deed_Body := by
  have nd := sc_l_no_deed_Body.nd
  unfold w_l_no_deed_Body
  exact (xs_cons (xs_l (ws_set (i := 2) nd rfl (by first | exact Or.inl rfl | exact Or.inr rfl) we_bl))
    (xs_cons (xs_l (ws_tryN (kn := [PySem.Str.ofString "NoDeed"]) rfl rfl (by rfl) hX_cat1_NoDeed (fun W pn xe tk po => (xs_one (xs_if (wt_val (we_var 1 (pv 1))) (xs_one (xs_drop (wex_meth0 F_Body_again hr tk (we_var 0 (pv 0))))) (xs_one (xs_drop (wex_meth0 F_Body_back hr tk (we_var 0 (pv 0)))))))) (fun a pn => (ws_one (ws_set (i := 2) nd rfl (by first | exact Or.inl rfl | exact Or.inr rfl) we_bl)))))
    (xs_one (xs_l (ws_ret (we_var 2 (pv 2)))))))
abbrev st_l_no_deed_Chain : Stmt := topS 52
abbrev N_l_no_deed_Chain : List Str := ["_law_thing", "_law_again", "_law_refused"]
theorem sc_l_no_deed_Chain : FnScope N_l_no_deed_Chain ["_law_thing", "_law_again"] (defScope st_l_no_deed_Chain) := ⟨rfl, rfl, rfl, by decide +kernel, rfl, by decide +kernel, by decide +kernel⟩
theorem tm_l_no_deed_Chain {P : Program} {w : World} {K : PySem.W.Frag} {mg : Str → Option Value} {base : Heap} {f : Addr} (F_Chain_again : FnM P w K mg base 1 "Chain" "again" 1 sp_Chain_again) (F_Chain_back : FnM P w K mg base 1 "Chain" "back" 1 sp_Chain_back) (hX_cat1_NoDeed : XC K mg [PySem.Str.ofString "NoDeed"] (PySem.Str.ofString "NoDeed")) (cdv : Value) (A : Around) (outer : List Env) (s : Shared) (H : Hp) (E : XK) (hr : Room 1 (A.deeper (envOfC "_law_no_deed" (defScope st_l_no_deed_Chain) s.heap.objs.size f cdv)))
    (tk : Takes (cxOf (L2.CX P w) P w K mg base N_l_no_deed_Chain "_law_no_deed" (defScope st_l_no_deed_Chain) f cdv A outer s H E) (fun cls d _ H => E cls d H)) (po : PassesOwn (model P w) (A.deeper (envOfC "_law_no_deed" (defScope st_l_no_deed_Chain) s.heap.objs.size f cdv)) (envOfC "_law_no_deed" (defScope st_l_no_deed_Chain) s.heap.objs.size f cdv) (cxOf (L2.CX P w) P w K mg base N_l_no_deed_Chain "_law_no_deed" (defScope st_l_no_deed_Chain) f cdv A outer s H E).xe) :
    WXs (cxOf (L2.CX P w) P w K mg base N_l_no_deed_Chain "_law_no_deed" (defScope st_l_no_deed_Chain) f cdv A outer s H E) (fun cls d _ H => E cls d H) (defBody st_l_no_deed_Chain) w_l_no_deed_Chain := by
  have nd := sc_l_no_deed_Chain.nd
  unfold w_l_no_deed_Chain
  exact (xs_cons (xs_l (ws_set (i := 2) nd rfl (by first | exact Or.inl rfl | exact Or.inr rfl) we_bl))
    (xs_cons (xs_l (ws_tryN (kn := [PySem.Str.ofString "NoDeed"]) rfl rfl (by rfl) hX_cat1_NoDeed (fun W pn xe tk po => (xs_one (xs_if (wt_val (we_var 1 (pv 1))) (xs_one (xs_drop (wex_meth0 F_Chain_again hr tk (we_var 0 (pv 0))))) (xs_one (xs_drop (wex_meth0 F_Chain_back hr tk (we_var 0 (pv 0)))))))) (fun a pn => (ws_one (ws_set (i := 2) nd rfl (by first | exact Or.inl rfl | exact Or.inr rfl) we_bl)))))
    (xs_one (xs_l (ws_ret (we_var 2 (pv 2)))))))
abbrev st_l_held_Body : Stmt := topS 53
abbrev N_l_held_Body : List Str := ["_law_thing", "_law_told", "_law_seen", "_law_number_here", "_law_many", "_law_k", "_law_twin", "_law_some"]
theorem sc_l_held_Body : FnScope N_l_held_Body ["_law_thing", "_law_told", "_law_seen", "_law_number_here"] (defScope st_l_held_Body) := ⟨rfl, rfl, rfl, by decide +kernel, rfl, by decide +kernel, by decide +kernel⟩
theorem tm_l_held_Body {P : Program} {w : World} {K : PySem.W.Frag} {mg : Str → Option Value} {base : Heap} {f : Addr} {fa_l_body_told : Addr} (hv_l_body_told : mg "_law_body_told" = some (.ref fa_l_body_told)) (F_Body_back : FnM P w K mg base 6 "Body" "back" 1 sp_Body_back) (F_l_body_told : FnW P w K mg base 6 "_law_body_told" 1 sp_l_body_told) (F_Body_twin : FnM P w K mg base 6 "Body" "twin" 1 sp_Body_twin) (F_Body_again : FnM P w K mg base 6 "Body" "again" 1 sp_Body_again) (F_l_no_deed_Body : FnW P w K mg base 6 "_law_no_deed" 2 sp_l_no_deed_Body) (hb_len : mg "len" = none) (hb_range : mg "range" = none) (cdv : Value) (A : Around) (outer : List Env) (s : Shared) (H : Hp) (E : XK) (hr : Room 6 (A.deeper (envOfC "_law_held" (defScope st_l_held_Body) s.heap.objs.size f cdv)))
    (tk : Takes (cxOf (L2.CX P w) P w K mg base N_l_held_Body "_law_held" (defScope st_l_held_Body) f cdv A outer s H E) (fun cls d _ H => E cls d H)) (po : PassesOwn (model P w) (A.deeper (envOfC "_law_held" (defScope st_l_held_Body) s.heap.objs.size f cdv)) (envOfC "_law_held" (defScope st_l_held_Body) s.heap.objs.size f cdv) (cxOf (L2.CX P w) P w K mg base N_l_held_Body "_law_held" (defScope st_l_held_Body) f cdv A outer s H E).xe) :
    WXs (cxOf (L2.CX P w) P w K mg base N_l_held_Body "_law_held" (defScope st_l_held_Body) f cdv A outer s H E) (fun cls d _ H => E cls d H) (defBody st_l_held_Body) (w_l_held_Body fa_l_body_told) := by
  have nd := sc_l_held_Body.nd
  unfold w_l_held_Body
  exact (xs_cons (xs_l (ws_set (i := 4) nd rfl (by first | exact Or.inl rfl | exact Or.inr rfl) (we_bin o_mod (we_var 3 (pv 3)) (we_blt f_len (by rfl) hb_len PySem.boot_len (wa_cons (we_var 1 (pv 1)) wa_nil)))))
    (xs_cons (xs_l (ws_for po rfl (wi_rng1 (by rfl) hb_range (wa_cons (we_var 4 (pv 4)) wa_nil)) (pg_name (i := 5) nd rfl (by first | exact Or.inl rfl | exact Or.inr rfl)) (tg_name 5) (ws_cons (ws_drop (we_wmeth0 F_Body_back hr (we_var 0 (pv 0))))
    (ws_one (ws_if (wt_cmp (o_ne hr.units) (we_vcall F_l_body_told hv_l_body_told hr (pv 2) (wa_cons (we_var 0 (pv 0)) wa_nil)) (we_ix (we_var 1 (pv 1)) (we_bin o_sub (we_un u_neg we_int) (we_var 5 (pv 5))) (fun _ _ => rfl)) (nomark _)) (ws_one (ws_ret we_bl)) ws_nil)))))
    (xs_cons (xs_l (ws_set (i := 6) nd rfl (by first | exact Or.inl rfl | exact Or.inr rfl) (we_wmeth0 F_Body_twin hr (we_var 0 (pv 0)))))
    (xs_cons (xs_l (ws_for po rfl (wi_seqA (we_lstA (wa_cons (we_var 6 (pv 6)) (wa_cons (we_var 0 (pv 0)) wa_nil)))) (pg_name (i := 7) nd rfl (by first | exact Or.inl rfl | exact Or.inr rfl)) (tg_name 7) (ws_cons (ws_for po rfl (wi_rng1 (by rfl) hb_range (wa_cons (we_var 4 (pv 4)) wa_nil)) (pg_name (i := 5) nd rfl (by first | exact Or.inl rfl | exact Or.inr rfl)) (tg_name 5) (ws_cons (ws_drop (we_wmeth0 F_Body_again hr (we_var 7 (pv 7))))
    (ws_one (ws_if (wt_cmp (o_ne hr.units) (we_vcall F_l_body_told hv_l_body_told hr (pv 2) (wa_cons (we_var 7 (pv 7)) wa_nil)) (we_ix (we_var 1 (pv 1)) (we_bin o_addI (we_bin o_sub (we_blt f_len (by rfl) hb_len PySem.boot_len (wa_cons (we_var 1 (pv 1)) wa_nil)) (we_var 4 (pv 4))) (we_var 5 (pv 5))) (fun _ _ => rfl)) (nomark _)) (ws_one (ws_ret we_bl)) ws_nil))))
    (ws_one (ws_if (wt_not (wt_val (we_wcall F_l_no_deed_Body hr (by rfl) (wa_cons (we_var 7 (pv 7)) (wa_cons we_bl wa_nil))))) (ws_one (ws_ret we_bl)) ws_nil)))))
    (xs_cons (xs_l (ws_for po rfl (wi_rng1 (by rfl) hb_range (wa_cons (we_bin o_sub (we_blt f_len (by rfl) hb_len PySem.boot_len (wa_cons (we_var 1 (pv 1)) wa_nil)) we_int) wa_nil)) (pg_name (i := 5) nd rfl (by first | exact Or.inl rfl | exact Or.inr rfl)) (tg_name 5) (ws_cons (ws_drop (we_wmeth0 F_Body_back hr (we_var 6 (pv 6))))
    (ws_one (ws_if (wt_cmp (o_ne hr.units) (we_vcall F_l_body_told hv_l_body_told hr (pv 2) (wa_cons (we_var 6 (pv 6)) wa_nil)) (we_ix (we_var 1 (pv 1)) (we_bin o_sub (we_un u_neg we_int) (we_var 5 (pv 5))) (fun _ _ => rfl)) (nomark _)) (ws_one (ws_ret we_bl)) ws_nil)))))
    (xs_one (xs_l (ws_ret (we_and (we_wcall F_l_no_deed_Body hr (by rfl) (wa_cons (we_var 6 (pv 6)) (wa_cons we_bl wa_nil))) (we_one (we_cmp (o_eq hr.units) (we_vcall F_l_body_told hv_l_body_told hr (pv 2) (wa_cons (we_var 0 (pv 0)) wa_nil)) (we_ix (we_var 1 (pv 1)) (we_un u_neg we_int) (fun _ _ => rfl)) (nomark _))))))))))))
abbrev st_l_held_Chain : Stmt := topS 53
abbrev N_l_held_Chain : List Str := ["_law_thing", "_law_told", "_law_seen", "_law_number_here", "_law_many", "_law_k", "_law_twin", "_law_some"]
theorem sc_l_held_Chain : FnScope N_l_held_Chain ["_law_thing", "_law_told", "_law_seen", "_law_number_here"] (defScope st_l_held_Chain) := ⟨rfl, rfl, rfl, by decide +kernel, rfl, by decide +kernel, by decide +kernel⟩
theorem tm_l_held_Chain {P : Program} {w : World} {K : PySem.W.Frag} {mg : Str → Option Value} {base : Heap} {f : Addr} {fa_l_chain_told : Addr} (hv_l_chain_told : mg "_law_chain_told" = some (.ref fa_l_chain_told)) (F_Chain_back : FnM P w K mg base 8 "Chain" "back" 1 sp_Chain_back) (F_l_chain_told : FnW P w K mg base 8 "_law_chain_told" 1 sp_l_chain_told) (F_Chain_twin : FnM P w K mg base 8 "Chain" "twin" 1 sp_Chain_twin) (F_Chain_again : FnM P w K mg base 8 "Chain" "again" 1 sp_Chain_again) (F_l_no_deed_Chain : FnW P w K mg base 8 "_law_no_deed" 2 sp_l_no_deed_Chain) (hb_len : mg "len" = none) (hb_range : mg "range" = none) (cdv : Value) (A : Around) (outer : List Env) (s : Shared) (H : Hp) (E : XK) (hr : Room 8 (A.deeper (envOfC "_law_held" (defScope st_l_held_Chain) s.heap.objs.size f cdv)))
    (tk : Takes (cxOf (L2.CX P w) P w K mg base N_l_held_Chain "_law_held" (defScope st_l_held_Chain) f cdv A outer s H E) (fun cls d _ H => E cls d H)) (po : PassesOwn (model P w) (A.deeper (envOfC "_law_held" (defScope st_l_held_Chain) s.heap.objs.size f cdv)) (envOfC "_law_held" (defScope st_l_held_Chain) s.heap.objs.size f cdv) (cxOf (L2.CX P w) P w K mg base N_l_held_Chain "_law_held" (defScope st_l_held_Chain) f cdv A outer s H E).xe) :
    WXs (cxOf (L2.CX P w) P w K mg base N_l_held_Chain "_law_held" (defScope st_l_held_Chain) f cdv A outer s H E) (fun cls d _ H => E cls d H) (defBody st_l_held_Chain) (w_l_held_Chain fa_l_chain_told) := by
  have nd := sc_l_held_Chain.nd
  unfold w_l_held_Chain
  exact (xs_cons (xs_l (ws_set (i := 4) nd rfl (by first | exact Or.inl rfl | exact Or.inr rfl) (we_bin o_mod (we_var 3 (pv 3)) (we_blt f_len (by rfl) hb_len PySem.boot_len (wa_cons (we_var 1 (pv 1)) wa_nil)))))
    (xs_cons (xs_l (ws_for po rfl (wi_rng1 (by rfl) hb_range (wa_cons (we_var 4 (pv 4)) wa_nil)) (pg_name (i := 5) nd rfl (by first | exact Or.inl rfl | exact Or.inr rfl)) (tg_name 5) (ws_cons (ws_drop (we_wmeth0 F_Chain_back hr (we_var 0 (pv 0))))
    (ws_one (ws_if (wt_cmp (o_ne hr.units) (we_vcall F_l_chain_told hv_l_chain_told hr (pv 2) (wa_cons (we_var 0 (pv 0)) wa_nil)) (we_ix (we_var 1 (pv 1)) (we_bin o_sub (we_un u_neg we_int) (we_var 5 (pv 5))) (fun _ _ => rfl)) (nomark _)) (ws_one (ws_ret we_bl)) ws_nil)))))
    (xs_cons (xs_l (ws_set (i := 6) nd rfl (by first | exact Or.inl rfl | exact Or.inr rfl) (we_wmeth0 F_Chain_twin hr (we_var 0 (pv 0)))))
    (xs_cons (xs_l (ws_for po rfl (wi_seqA (we_lstA (wa_cons (we_var 6 (pv 6)) (wa_cons (we_var 0 (pv 0)) wa_nil)))) (pg_name (i := 7) nd rfl (by first | exact Or.inl rfl | exact Or.inr rfl)) (tg_name 7) (ws_cons (ws_for po rfl (wi_rng1 (by rfl) hb_range (wa_cons (we_var 4 (pv 4)) wa_nil)) (pg_name (i := 5) nd rfl (by first | exact Or.inl rfl | exact Or.inr rfl)) (tg_name 5) (ws_cons (ws_drop (we_wmeth0 F_Chain_again hr (we_var 7 (pv 7))))
    (ws_one (ws_if (wt_cmp (o_ne hr.units) (we_vcall F_l_chain_told hv_l_chain_told hr (pv 2) (wa_cons (we_var 7 (pv 7)) wa_nil)) (we_ix (we_var 1 (pv 1)) (we_bin o_addI (we_bin o_sub (we_blt f_len (by rfl) hb_len PySem.boot_len (wa_cons (we_var 1 (pv 1)) wa_nil)) (we_var 4 (pv 4))) (we_var 5 (pv 5))) (fun _ _ => rfl)) (nomark _)) (ws_one (ws_ret we_bl)) ws_nil))))
    (ws_one (ws_if (wt_not (wt_val (we_wcall F_l_no_deed_Chain hr (by rfl) (wa_cons (we_var 7 (pv 7)) (wa_cons we_bl wa_nil))))) (ws_one (ws_ret we_bl)) ws_nil)))))
    (xs_cons (xs_l (ws_for po rfl (wi_rng1 (by rfl) hb_range (wa_cons (we_bin o_sub (we_blt f_len (by rfl) hb_len PySem.boot_len (wa_cons (we_var 1 (pv 1)) wa_nil)) we_int) wa_nil)) (pg_name (i := 5) nd rfl (by first | exact Or.inl rfl | exact Or.inr rfl)) (tg_name 5) (ws_cons (ws_drop (we_wmeth0 F_Chain_back hr (we_var 6 (pv 6))))
    (ws_one (ws_if (wt_cmp (o_ne hr.units) (we_vcall F_l_chain_told hv_l_chain_told hr (pv 2) (wa_cons (we_var 6 (pv 6)) wa_nil)) (we_ix (we_var 1 (pv 1)) (we_bin o_sub (we_un u_neg we_int) (we_var 5 (pv 5))) (fun _ _ => rfl)) (nomark _)) (ws_one (ws_ret we_bl)) ws_nil)))))
    (xs_one (xs_l (ws_ret (we_and (we_wcall F_l_no_deed_Chain hr (by rfl) (wa_cons (we_var 6 (pv 6)) (wa_cons we_bl wa_nil))) (we_one (we_cmp (o_eq hr.units) (we_vcall F_l_chain_told hv_l_chain_told hr (pv 2) (wa_cons (we_var 0 (pv 0)) wa_nil)) (we_ix (we_var 1 (pv 1)) (we_un u_neg we_int) (fun _ _ => rfl)) (nomark _))))))))))))
abbrev st_law : Stmt := topS 54
abbrev N_law : List Str := ["_law_script", "_law_purse_here", "_law_names_here", "_law_body", "_law_chain", "_law_told", "_law_k", "_law_shown", "_law_twin"]
theorem sc_law : FnScope N_law ["_law_script"] (defScope st_law) := ⟨rfl, rfl, rfl, by decide +kernel, rfl, by decide +kernel, by decide +kernel⟩
theorem tm_law {P : Program} {w : World} {K : PySem.W.Frag} {mg : Str → Option Value} {base : Heap} {f : Addr} {fa_l_body_told : Addr} (hv_l_body_told : mg "_law_body_told" = some (.ref fa_l_body_told)) {fa_l_chain_told : Addr} (hv_l_chain_told : mg "_law_chain_told" = some (.ref fa_l_chain_told)) (F_l_purse : FnZ P w K mg base 9 "_law_purse" 1 sp_l_purse) (F_l_names : FnZ P w K mg base 9 "_law_names" 1 sp_l_names) (F_Body___init__ : FnK P w K mg base 8 "Body" sp_Body___init__) (F_Chain___init__ : FnK P w K mg base 8 "Chain" sp_Chain___init__) (F_l_body_told : FnW P w K mg base 9 "_law_body_told" 1 sp_l_body_told) (F_l_draw : FnZ P w K mg base 9 "_law_draw" 2 sp_l_draw) (F_l_body_deed : FnW P w K mg base 9 "_law_body_deed" 3 sp_l_body_deed) (F_l_chain_told : FnW P w K mg base 9 "_law_chain_told" 1 sp_l_chain_told) (F_l_chain_deed : FnW P w K mg base 9 "_law_chain_deed" 2 sp_l_chain_deed) (F_l_held_Body : FnW P w K mg base 9 "_law_held" 4 (sp_l_held_Body fa_l_body_told)) (F_l_held_Chain : FnW P w K mg base 9 "_law_held" 4 (sp_l_held_Chain fa_l_chain_told)) (F_Body_room : FnM P w K mg base 9 "Body" "room" 2 sp_Body_room) (F_Body_back : FnM P w K mg base 9 "Body" "back" 1 sp_Body_back) (F_Body_twin : FnM P w K mg base 9 "Body" "twin" 1 sp_Body_twin) (F_Body_mark : FnM P w K mg base 9 "Body" "mark" 2 sp_Body_mark) (F_l_no_deed_Body : FnW P w K mg base 9 "_law_no_deed" 2 sp_l_no_deed_Body) (hb_range : mg "range" = none) (cdv : Value) (A : Around) (outer : List Env) (s : Shared) (H : Hp) (E : XK) (hr : Room 9 (A.deeper (envOfC "law" (defScope st_law) s.heap.objs.size f cdv))) :
    WSs (cxOf CX0 P w K mg base N_law "law" (defScope st_law) f cdv A outer s H E).nox (defBody st_law) (w_law fa_l_body_told fa_l_chain_told) := by
  have nd := sc_law.nd
  unfold w_law
  exact (ws_cons (ws_set (i := 1) nd rfl (by first | exact Or.inl rfl | exact Or.inr rfl) (we_call F_l_purse hr (by rfl) (wa_cons (we_var 0 (pv 0)) wa_nil)))
    (ws_cons (ws_set (i := 2) nd rfl (by first | exact Or.inl rfl | exact Or.inr rfl) (we_call F_l_names hr (by rfl) (wa_cons (we_var 1 (pv 1)) wa_nil)))
    (ws_cons (ws_set (i := 3) nd rfl (by first | exact Or.inl rfl | exact Or.inr rfl) (we_mk0 F_Body___init__ hr (by rfl)))
    (ws_cons (ws_set (i := 4) nd rfl (by first | exact Or.inl rfl | exact Or.inr rfl) (we_mk0 F_Chain___init__ hr (by rfl)))
    (ws_cons (ws_set (i := 5) nd rfl (by first | exact Or.inl rfl | exact Or.inr rfl) (we_lst (wa_cons (we_fzL (we_wcall F_l_body_told hr (by rfl) (wa_cons (we_var 3 (pv 3)) wa_nil))) wa_nil)))
    (ws_cons (ws_for PassesOwn.never rfl (wi_rng1 (by rfl) hb_range (wa_cons (we_call F_l_draw hr (by rfl) (wa_cons (we_var 1 (pv 1)) (wa_cons we_int wa_nil))) wa_nil)) (pg_name (i := 6) nd rfl (by first | exact Or.inl rfl | exact Or.inr rfl)) (tg_name 6) (ws_cons (ws_drop (we_wcall F_l_body_deed hr (by rfl) (wa_cons (we_var 1 (pv 1)) (wa_cons (we_var 3 (pv 3)) (wa_cons (we_var 2 (pv 2)) wa_nil)))))
    (ws_one (ws_drop (we_app (we_var 5 (pv 5)) (we_fzL (we_wcall F_l_body_told hr (by rfl) (wa_cons (we_var 3 (pv 3)) wa_nil))))))))
    (ws_cons (ws_set (i := 7) nd rfl (by first | exact Or.inl rfl | exact Or.inr rfl) (we_lst (wa_cons (we_fzL (we_wcall F_l_chain_told hr (by rfl) (wa_cons (we_var 4 (pv 4)) wa_nil))) wa_nil)))
    (ws_cons (ws_for PassesOwn.never rfl (wi_rng1 (by rfl) hb_range (wa_cons (we_call F_l_draw hr (by rfl) (wa_cons (we_var 1 (pv 1)) (wa_cons we_int wa_nil))) wa_nil)) (pg_name (i := 6) nd rfl (by first | exact Or.inl rfl | exact Or.inr rfl)) (tg_name 6) (ws_cons (ws_drop (we_wcall F_l_chain_deed hr (by rfl) (wa_cons (we_var 1 (pv 1)) (wa_cons (we_var 4 (pv 4)) wa_nil))))
    (ws_one (ws_drop (we_app (we_var 7 (pv 7)) (we_fzL (we_wcall F_l_chain_told hr (by rfl) (wa_cons (we_var 4 (pv 4)) wa_nil))))))))
    (ws_cons (ws_if (wt_not (wt_val (we_wcall F_l_held_Body hr (by rfl) (wa_cons (we_var 3 (pv 3)) (wa_cons (we_var 5 (pv 5)) (wa_cons (we_fnV (by rfl) hv_l_body_told) (wa_cons (we_call F_l_draw hr (by rfl) (wa_cons (we_var 1 (pv 1)) (wa_cons we_int wa_nil))) wa_nil))))))) (ws_one (ws_ret we_bl)) ws_nil)
    (ws_cons (ws_if (wt_not (wt_val (we_wcall F_l_held_Chain hr (by rfl) (wa_cons (we_var 4 (pv 4)) (wa_cons (we_var 7 (pv 7)) (wa_cons (we_fnV (by rfl) hv_l_chain_told) (wa_cons (we_call F_l_draw hr (by rfl) (wa_cons (we_var 1 (pv 1)) (wa_cons we_int wa_nil))) wa_nil))))))) (ws_one (ws_ret we_bl)) ws_nil)
    (ws_cons (ws_drop (we_wmeth F_Body_room hr (we_var 3 (pv 3)) (wa_cons (we_tup (wa_cons we_int (wa_cons we_int (wa_cons we_int (wa_cons we_int wa_nil))))) wa_nil)))
    (ws_cons (ws_drop (we_wmeth0 F_Body_back hr (we_var 3 (pv 3))))
    (ws_cons (ws_set (i := 8) nd rfl (by first | exact Or.inl rfl | exact Or.inr rfl) (we_wmeth0 F_Body_twin hr (we_var 3 (pv 3))))
    (ws_cons (ws_drop (we_wmeth F_Body_mark hr (we_var 8 (pv 8)) (wa_cons (we_ix (we_var 2 (pv 2)) we_int (fun _ _ => rfl)) wa_nil)))
    (ws_cons (ws_if ((ww_or (wt_not (wt_val (we_wcall F_l_no_deed_Body hr (by rfl) (wa_cons (we_var 8 (pv 8)) (wa_cons we_bl wa_nil))))) (ww_or1 (wt_val (we_wcall F_l_no_deed_Body hr (by rfl) (wa_cons (we_var 3 (pv 3)) (wa_cons we_bl wa_nil))))))).wt (ws_one (ws_ret we_bl)) ws_nil)
    (ws_cons (ws_drop (we_wmeth0 F_Body_back hr (we_var 3 (pv 3))))
    (ws_one (ws_ret (we_cmp (o_eq hr.units) (we_wcall F_l_body_told hr (by rfl) (wa_cons (we_var 3 (pv 3)) wa_nil)) (we_ix (we_var 5 (pv 5)) (we_un u_neg we_int) (fun _ _ => rfl)) (nomark _))))))))))))))))))))
abbrev st_Body___init__ : Stmt := clsS 25 0
abbrev N_Body___init__ : List Str := ["self"]
theorem sc_Body___init__ : FnScope N_Body___init__ ["self"] (defScope st_Body___init__) := ⟨rfl, rfl, rfl, by decide +kernel, rfl, by decide +kernel, by decide +kernel⟩
theorem tm_Body___init__ {P : Program} {w : World} {K : PySem.W.Frag} {mg : Str → Option Value} {base : Heap} {f : Addr} (ho_Body : ClsO K "Body" [PySem.Str.ofString "here", PySem.Str.ofString "kept", PySem.Str.ofString "behind", PySem.Str.ofString "ahead"]) (cdv : Value) (A : Around) (outer : List Env) (s : Shared) (H : Hp) (E : XK) (hr : Room 0 (A.deeper (envOfC "Body.__init__" (defScope st_Body___init__) s.heap.objs.size f cdv)))
    (tk : Takes (cxOf (L2.CX P w) P w K mg base N_Body___init__ "Body.__init__" (defScope st_Body___init__) f cdv A outer s H E) (fun cls d _ H => E cls d H)) (po : PassesOwn (model P w) (A.deeper (envOfC "Body.__init__" (defScope st_Body___init__) s.heap.objs.size f cdv)) (envOfC "Body.__init__" (defScope st_Body___init__) s.heap.objs.size f cdv) (cxOf (L2.CX P w) P w K mg base N_Body___init__ "Body.__init__" (defScope st_Body___init__) f cdv A outer s H E).xe) :
    WXs (cxOf (L2.CX P w) P w K mg base N_Body___init__ "Body.__init__" (defScope st_Body___init__) f cdv A outer s H E) (fun cls d _ H => E cls d H) (defBody st_Body___init__) w_Body___init__ := by
  have nd := sc_Body___init__.nd
  unfold w_Body___init__
  exact (xs_cons (xs_l (ws_stF ho_Body (we_var 0 (pv 0)) (we_tup (wa_cons we_int (wa_cons we_int (wa_cons we_int (wa_cons we_int wa_nil)))))))
    (xs_cons (xs_l (ws_stF ho_Body (we_var 0 (pv 0)) we_daN))
    (xs_cons (xs_l (ws_stF ho_Body (we_var 0 (pv 0)) (we_lstA wa_nil)))
    (xs_one (xs_l (ws_stF ho_Body (we_var 0 (pv 0)) (we_lstA wa_nil)))))))
abbrev st_Body_come_to : Stmt := clsS 25 2
abbrev N_Body_come_to : List Str := ["self", "here", "kept"]
theorem sc_Body_come_to : FnScope N_Body_come_to ["self", "here", "kept"] (defScope st_Body_come_to) := ⟨rfl, rfl, rfl, by decide +kernel, rfl, by decide +kernel, by decide +kernel⟩
theorem tm_Body_come_to {P : Program} {w : World} {K : PySem.W.Frag} {mg : Str → Option Value} {base : Heap} {f : Addr} (ho_Body : ClsO K "Body" [PySem.Str.ofString "here", PySem.Str.ofString "kept", PySem.Str.ofString "behind", PySem.Str.ofString "ahead"]) (cdv : Value) (A : Around) (outer : List Env) (s : Shared) (H : Hp) (E : XK) (hr : Room 0 (A.deeper (envOfC "Body.come_to" (defScope st_Body_come_to) s.heap.objs.size f cdv)))
    (tk : Takes (cxOf (L2.CX P w) P w K mg base N_Body_come_to "Body.come_to" (defScope st_Body_come_to) f cdv A outer s H E) (fun cls d _ H => E cls d H)) (po : PassesOwn (model P w) (A.deeper (envOfC "Body.come_to" (defScope st_Body_come_to) s.heap.objs.size f cdv)) (envOfC "Body.come_to" (defScope st_Body_come_to) s.heap.objs.size f cdv) (cxOf (L2.CX P w) P w K mg base N_Body_come_to "Body.come_to" (defScope st_Body_come_to) f cdv A outer s H E).xe) :
    WXs (cxOf (L2.CX P w) P w K mg base N_Body_come_to "Body.come_to" (defScope st_Body_come_to) f cdv A outer s H E) (fun cls d _ H => E cls d H) (defBody st_Body_come_to) w_Body_come_to := by
  have nd := sc_Body_come_to.nd
  unfold w_Body_come_to
  exact (xs_cons (xs_l (ws_drop (we_appA (we_fld ho_Body (we_var 0 (pv 0))) (we_tupR (wa_cons (we_fld ho_Body (we_var 0 (pv 0))) (wa_cons (we_fld ho_Body (we_var 0 (pv 0))) wa_nil))))))
    (xs_cons (xs_l (ws_stF ho_Body (we_var 0 (pv 0)) (we_lstA wa_nil)))
    (xs_cons (xs_l (ws_stF ho_Body (we_var 0 (pv 0)) (we_var 1 (pv 1))))
    (xs_one (xs_l (ws_stF ho_Body (we_var 0 (pv 0)) (we_var 2 (pv 2))))))))
abbrev st_Body_room : Stmt := clsS 25 3
abbrev N_Body_room : List Str := ["self", "four"]
theorem sc_Body_room : FnScope N_Body_room ["self", "four"] (defScope st_Body_room) := ⟨rfl, rfl, rfl, by decide +kernel, rfl, by decide +kernel, by decide +kernel⟩
theorem tm_Body_room {P : Program} {w : World} {K : PySem.W.Frag} {mg : Str → Option Value} {base : Heap} {f : Addr} (F_Body_come_to : FnM P w K mg base 5 "Body" "come_to" 3 sp_Body_come_to) (F_then : FnZ P w K mg base 5 "then" 2 sp_then) (ho_Body : ClsO K "Body" [PySem.Str.ofString "here", PySem.Str.ofString "kept", PySem.Str.ofString "behind", PySem.Str.ofString "ahead"]) (cdv : Value) (A : Around) (outer : List Env) (s : Shared) (H : Hp) (E : XK) (hr : Room 5 (A.deeper (envOfC "Body.room" (defScope st_Body_room) s.heap.objs.size f cdv)))
    (tk : Takes (cxOf (L2.CX P w) P w K mg base N_Body_room "Body.room" (defScope st_Body_room) f cdv A outer s H E) (fun cls d _ H => E cls d H)) (po : PassesOwn (model P w) (A.deeper (envOfC "Body.room" (defScope st_Body_room) s.heap.objs.size f cdv)) (envOfC "Body.room" (defScope st_Body_room) s.heap.objs.size f cdv) (cxOf (L2.CX P w) P w K mg base N_Body_room "Body.room" (defScope st_Body_room) f cdv A outer s H E).xe) :
    WXs (cxOf (L2.CX P w) P w K mg base N_Body_room "Body.room" (defScope st_Body_room) f cdv A outer s H E) (fun cls d _ H => E cls d H) (defBody st_Body_room) w_Body_room := by
  have nd := sc_Body_room.nd
  unfold w_Body_room
  exact (xs_one (xs_l (ws_drop (we_wmeth F_Body_come_to hr (we_var 0 (pv 0)) (wa_cons (we_call F_then hr (by rfl) (wa_cons (we_fld ho_Body (we_var 0 (pv 0))) (wa_cons (we_var 1 (pv 1)) wa_nil))) (wa_cons (we_fld ho_Body (we_var 0 (pv 0))) wa_nil))))))
abbrev st_Body_own : Stmt := clsS 25 4
abbrev N_Body_own : List Str := ["self", "four"]
theorem sc_Body_own : FnScope N_Body_own ["self", "four"] (defScope st_Body_own) := ⟨rfl, rfl, rfl, by decide +kernel, rfl, by decide +kernel, by decide +kernel⟩
theorem tm_Body_own {P : Program} {w : World} {K : PySem.W.Frag} {mg : Str → Option Value} {base : Heap} {f : Addr} (F_Body_come_to : FnM P w K mg base 5 "Body" "come_to" 3 sp_Body_come_to) (F_then : FnZ P w K mg base 5 "then" 2 sp_then) (ho_Body : ClsO K "Body" [PySem.Str.ofString "here", PySem.Str.ofString "kept", PySem.Str.ofString "behind", PySem.Str.ofString "ahead"]) (cdv : Value) (A : Around) (outer : List Env) (s : Shared) (H : Hp) (E : XK) (hr : Room 5 (A.deeper (envOfC "Body.own" (defScope st_Body_own) s.heap.objs.size f cdv)))
    (tk : Takes (cxOf (L2.CX P w) P w K mg base N_Body_own "Body.own" (defScope st_Body_own) f cdv A outer s H E) (fun cls d _ H => E cls d H)) (po : PassesOwn (model P w) (A.deeper (envOfC "Body.own" (defScope st_Body_own) s.heap.objs.size f cdv)) (envOfC "Body.own" (defScope st_Body_own) s.heap.objs.size f cdv) (cxOf (L2.CX P w) P w K mg base N_Body_own "Body.own" (defScope st_Body_own) f cdv A outer s H E).xe) :
    WXs (cxOf (L2.CX P w) P w K mg base N_Body_own "Body.own" (defScope st_Body_own) f cdv A outer s H E) (fun cls d _ H => E cls d H) (defBody st_Body_own) w_Body_own := by
  have nd := sc_Body_own.nd
  unfold w_Body_own
  exact (xs_one (xs_l (ws_drop (we_wmeth F_Body_come_to hr (we_var 0 (pv 0)) (wa_cons (we_call F_then hr (by rfl) (wa_cons (we_var 1 (pv 1)) (wa_cons (we_fld ho_Body (we_var 0 (pv 0))) wa_nil))) (wa_cons (we_fld ho_Body (we_var 0 (pv 0))) wa_nil))))))
abbrev st_Body_mark : Stmt := clsS 25 5
abbrev N_Body_mark : List Str := ["self", "name", "kept"]
theorem sc_Body_mark : FnScope N_Body_mark ["self", "name"] (defScope st_Body_mark) := ⟨rfl, rfl, rfl, by decide +kernel, rfl, by decide +kernel, by decide +kernel⟩
theorem tm_Body_mark {P : Program} {w : World} {K : PySem.W.Frag} {mg : Str → Option Value} {base : Heap} {f : Addr} (F_is_name : FnZ P w K mg base 1 "is_name" 1 sp_is_name) (F_Body_come_to : FnM P w K mg base 1 "Body" "come_to" 3 sp_Body_come_to) (ho_Body : ClsO K "Body" [PySem.Str.ofString "here", PySem.Str.ofString "kept", PySem.Str.ofString "behind", PySem.Str.ofString "ahead"]) (hX_cls_NoName : ClsX K mg (PySem.Str.ofString "NoName")) (cdv : Value) (A : Around) (outer : List Env) (s : Shared) (H : Hp) (E : XK) (hr : Room 1 (A.deeper (envOfC "Body.mark" (defScope st_Body_mark) s.heap.objs.size f cdv)))
    (tk : Takes (cxOf (L2.CX P w) P w K mg base N_Body_mark "Body.mark" (defScope st_Body_mark) f cdv A outer s H E) (fun cls d _ H => E cls d H)) (po : PassesOwn (model P w) (A.deeper (envOfC "Body.mark" (defScope st_Body_mark) s.heap.objs.size f cdv)) (envOfC "Body.mark" (defScope st_Body_mark) s.heap.objs.size f cdv) (cxOf (L2.CX P w) P w K mg base N_Body_mark "Body.mark" (defScope st_Body_mark) f cdv A outer s H E).xe) :
    WXs (cxOf (L2.CX P w) P w K mg base N_Body_mark "Body.mark" (defScope st_Body_mark) f cdv A outer s H E) (fun cls d _ H => E cls d H) (defBody st_Body_mark) w_Body_mark := by
  have nd := sc_Body_mark.nd
  unfold w_Body_mark
  exact (xs_cons (xs_if (wt_not (wt_val (we_call F_is_name hr (by rfl) (wa_cons (we_var 1 (pv 1)) wa_nil)))) (xs_one (xs_raise rfl tk hX_cls_NoName (by rfl))) xs_nil)
    (xs_cons (xs_l (ws_set (i := 2) nd rfl (by first | exact Or.inl rfl | exact Or.inr rfl) (we_cpDa (we_fld ho_Body (we_var 0 (pv 0))))))
    (xs_cons (xs_l (ws_putDa hr.units (we_var 2 (pv 2)) (we_var 1 (pv 1)) (we_fld ho_Body (we_var 0 (pv 0)))))
    (xs_one (xs_l (ws_drop (we_wmeth F_Body_come_to hr (we_var 0 (pv 0)) (wa_cons (we_fld ho_Body (we_var 0 (pv 0))) (wa_cons (we_var 2 (pv 2)) wa_nil)))))))))
abbrev st_Body_marked : Stmt := clsS 25 6
abbrev N_Body_marked : List Str := ["self", "name"]
theorem sc_Body_marked : FnScope N_Body_marked ["self", "name"] (defScope st_Body_marked) := ⟨rfl, rfl, rfl, by decide +kernel, rfl, by decide +kernel, by decide +kernel⟩
theorem tm_Body_marked {P : Program} {w : World} {K : PySem.W.Frag} {mg : Str → Option Value} {base : Heap} {f : Addr} (F_is_name : FnZ P w K mg base 1 "is_name" 1 sp_is_name) (ho_Body : ClsO K "Body" [PySem.Str.ofString "here", PySem.Str.ofString "kept", PySem.Str.ofString "behind", PySem.Str.ofString "ahead"]) (hX_cls_NoName : ClsX K mg (PySem.Str.ofString "NoName")) (hX_cls_NoMark : ClsX K mg (PySem.Str.ofString "NoMark")) (cdv : Value) (A : Around) (outer : List Env) (s : Shared) (H : Hp) (E : XK) (hr : Room 1 (A.deeper (envOfC "Body.marked" (defScope st_Body_marked) s.heap.objs.size f cdv)))
    (tk : Takes (cxOf (L2.CX P w) P w K mg base N_Body_marked "Body.marked" (defScope st_Body_marked) f cdv A outer s H E) (fun cls d _ H => E cls d H)) (po : PassesOwn (model P w) (A.deeper (envOfC "Body.marked" (defScope st_Body_marked) s.heap.objs.size f cdv)) (envOfC "Body.marked" (defScope st_Body_marked) s.heap.objs.size f cdv) (cxOf (L2.CX P w) P w K mg base N_Body_marked "Body.marked" (defScope st_Body_marked) f cdv A outer s H E).xe) :
    WXs (cxOf (L2.CX P w) P w K mg base N_Body_marked "Body.marked" (defScope st_Body_marked) f cdv A outer s H E) (fun cls d _ H => E cls d H) (defBody st_Body_marked) w_Body_marked := by
  have nd := sc_Body_marked.nd
  unfold w_Body_marked
  exact (xs_cons (xs_if (wt_not (wt_val (we_call F_is_name hr (by rfl) (wa_cons (we_var 1 (pv 1)) wa_nil)))) (xs_one (xs_raise rfl tk hX_cls_NoName (by rfl))) xs_nil)
    (xs_cons (xs_if (wt_cmp (o_ninDa hr.units) (we_var 1 (pv 1)) (we_fld ho_Body (we_var 0 (pv 0))) (by with_unfolding_all rfl)) (xs_one (xs_raise rfl tk hX_cls_NoMark (by rfl))) xs_nil)
    (xs_one (xs_l (ws_ret (we_ixDa hr.units (we_fld ho_Body (we_var 0 (pv 0))) (we_var 1 (pv 1)) (fun _ _ => rfl)))))))
abbrev st_Body_to : Stmt := clsS 25 7
abbrev N_Body_to : List Str := ["self", "name"]
theorem sc_Body_to : FnScope N_Body_to ["self", "name"] (defScope st_Body_to) := ⟨rfl, rfl, rfl, by decide +kernel, rfl, by decide +kernel, by decide +kernel⟩
theorem tm_Body_to {P : Program} {w : World} {K : PySem.W.Frag} {mg : Str → Option Value} {base : Heap} {f : Addr} (F_Body_come_to : FnM P w K mg base 2 "Body" "come_to" 3 sp_Body_come_to) (F_Body_marked : FnM P w K mg base 2 "Body" "marked" 2 sp_Body_marked) (ho_Body : ClsO K "Body" [PySem.Str.ofString "here", PySem.Str.ofString "kept", PySem.Str.ofString "behind", PySem.Str.ofString "ahead"]) (cdv : Value) (A : Around) (outer : List Env) (s : Shared) (H : Hp) (E : XK) (hr : Room 2 (A.deeper (envOfC "Body.to" (defScope st_Body_to) s.heap.objs.size f cdv)))
    (tk : Takes (cxOf (L2.CX P w) P w K mg base N_Body_to "Body.to" (defScope st_Body_to) f cdv A outer s H E) (fun cls d _ H => E cls d H)) (po : PassesOwn (model P w) (A.deeper (envOfC "Body.to" (defScope st_Body_to) s.heap.objs.size f cdv)) (envOfC "Body.to" (defScope st_Body_to) s.heap.objs.size f cdv) (cxOf (L2.CX P w) P w K mg base N_Body_to "Body.to" (defScope st_Body_to) f cdv A outer s H E).xe) :
    WXs (cxOf (L2.CX P w) P w K mg base N_Body_to "Body.to" (defScope st_Body_to) f cdv A outer s H E) (fun cls d _ H => E cls d H) (defBody st_Body_to) w_Body_to := by
  have nd := sc_Body_to.nd
  unfold w_Body_to
  exact (xs_one (xs_l (ws_drop (we_wmeth F_Body_come_to hr (we_var 0 (pv 0)) (wa_cons (we_wmeth F_Body_marked hr (we_var 0 (pv 0)) (wa_cons (we_var 1 (pv 1)) wa_nil)) (wa_cons (we_fld ho_Body (we_var 0 (pv 0))) wa_nil))))))
abbrev st_Body_stand : Stmt := clsS 25 8
abbrev N_Body_stand : List Str := ["self"]
theorem sc_Body_stand : FnScope N_Body_stand ["self"] (defScope st_Body_stand) := ⟨rfl, rfl, rfl, by decide +kernel, rfl, by decide +kernel, by decide +kernel⟩
theorem tm_Body_stand {P : Program} {w : World} {K : PySem.W.Frag} {mg : Str → Option Value} {base : Heap} {f : Addr} (F_plain : FnZ P w K mg base 4 "plain" 1 sp_plain) (ho_Body : ClsO K "Body" [PySem.Str.ofString "here", PySem.Str.ofString "kept", PySem.Str.ofString "behind", PySem.Str.ofString "ahead"]) (cdv : Value) (A : Around) (outer : List Env) (s : Shared) (H : Hp) (E : XK) (hr : Room 4 (A.deeper (envOfC "Body.stand" (defScope st_Body_stand) s.heap.objs.size f cdv)))
    (tk : Takes (cxOf (L2.CX P w) P w K mg base N_Body_stand "Body.stand" (defScope st_Body_stand) f cdv A outer s H E) (fun cls d _ H => E cls d H)) (po : PassesOwn (model P w) (A.deeper (envOfC "Body.stand" (defScope st_Body_stand) s.heap.objs.size f cdv)) (envOfC "Body.stand" (defScope st_Body_stand) s.heap.objs.size f cdv) (cxOf (L2.CX P w) P w K mg base N_Body_stand "Body.stand" (defScope st_Body_stand) f cdv A outer s H E).xe) :
    WXs (cxOf (L2.CX P w) P w K mg base N_Body_stand "Body.stand" (defScope st_Body_stand) f cdv A outer s H E) (fun cls d _ H => E cls d H) (defBody st_Body_stand) w_Body_stand := by
  have nd := sc_Body_stand.nd
  unfold w_Body_stand
  exact (xs_one (xs_l (ws_ret (we_call F_plain hr (by rfl) (wa_cons (we_fld ho_Body (we_var 0 (pv 0))) wa_nil)))))
abbrev st_Body_marks : Stmt := clsS 25 9
abbrev N_Body_marks : List Str := ["self", "name"]
theorem sc_Body_marks : FnScope N_Body_marks ["self"] (defScope st_Body_marks) := ⟨rfl, rfl, rfl, by decide +kernel, rfl, by decide +kernel, by decide +kernel⟩
theorem tm_Body_marks {P : Program} {w : World} {K : PySem.W.Frag} {mg : Str → Option Value} {base : Heap} {f : Addr} (ho_Body : ClsO K "Body" [PySem.Str.ofString "here", PySem.Str.ofString "kept", PySem.Str.ofString "behind", PySem.Str.ofString "ahead"]) (hb_sorted : mg "sorted" = none) (cdv : Value) (A : Around) (outer : List Env) (s : Shared) (H : Hp) (E : XK) (hr : Room 0 (A.deeper (envOfC "Body.marks" (defScope st_Body_marks) s.heap.objs.size f cdv)))
    (tk : Takes (cxOf (L2.CX P w) P w K mg base N_Body_marks "Body.marks" (defScope st_Body_marks) f cdv A outer s H E) (fun cls d _ H => E cls d H)) (po : PassesOwn (model P w) (A.deeper (envOfC "Body.marks" (defScope st_Body_marks) s.heap.objs.size f cdv)) (envOfC "Body.marks" (defScope st_Body_marks) s.heap.objs.size f cdv) (cxOf (L2.CX P w) P w K mg base N_Body_marks "Body.marks" (defScope st_Body_marks) f cdv A outer s H E).xe) :
    WXs (cxOf (L2.CX P w) P w K mg base N_Body_marks "Body.marks" (defScope st_Body_marks) f cdv A outer s H E) (fun cls d _ H => E cls d H) (defBody st_Body_marks) w_Body_marks := by
  have nd := sc_Body_marks.nd
  unfold w_Body_marks
  exact (xs_one (xs_l (ws_ret (we_lc (own := [("name", 1)]) rfl nd (wi_seq (we_blt (f_sortDa rfl) (by rfl) hb_sorted PyProof.Rows.boot_sorted (wa_cons (we_fld ho_Body (we_var 0 (pv 0))) wa_nil))) (blkOk_by (N := N_Body_marks) (sc := defScope st_Body_marks) (by decide +kernel)) (fun _ _ _ _ _ => (pg_name (i := 1) nd rfl (by first | exact Or.inl rfl | exact Or.inr rfl))) (tg_name 1) (by decide) (fun _ _ _ _ _ => wts_nil) (fun _ _ _ _ _ => (we_tup (wa_cons (we_var 1 (pv 1)) (wa_cons (we_ixDa hr.units (we_fld ho_Body (we_var 0 (pv 0))) (we_var 1 (pv 1)) (fun _ _ => rfl)) wa_nil))))))))
abbrev st_Body_path : Stmt := clsS 25 10
abbrev N_Body_path : List Str := ["self", "here", "kept"]
theorem sc_Body_path : FnScope N_Body_path ["self"] (defScope st_Body_path) := ⟨rfl, rfl, rfl, by decide +kernel, rfl, by decide +kernel, by decide +kernel⟩
theorem tm_Body_path {P : Program} {w : World} {K : PySem.W.Frag} {mg : Str → Option Value} {base : Heap} {f : Addr} (ho_Body : ClsO K "Body" [PySem.Str.ofString "here", PySem.Str.ofString "kept", PySem.Str.ofString "behind", PySem.Str.ofString "ahead"]) (cdv : Value) (A : Around) (outer : List Env) (s : Shared) (H : Hp) (E : XK) (hr : Room 0 (A.deeper (envOfC "Body.path" (defScope st_Body_path) s.heap.objs.size f cdv)))
    (tk : Takes (cxOf (L2.CX P w) P w K mg base N_Body_path "Body.path" (defScope st_Body_path) f cdv A outer s H E) (fun cls d _ H => E cls d H)) (po : PassesOwn (model P w) (A.deeper (envOfC "Body.path" (defScope st_Body_path) s.heap.objs.size f cdv)) (envOfC "Body.path" (defScope st_Body_path) s.heap.objs.size f cdv) (cxOf (L2.CX P w) P w K mg base N_Body_path "Body.path" (defScope st_Body_path) f cdv A outer s H E).xe) :
    WXs (cxOf (L2.CX P w) P w K mg base N_Body_path "Body.path" (defScope st_Body_path) f cdv A outer s H E) (fun cls d _ H => E cls d H) (defBody st_Body_path) w_Body_path := by
  have nd := sc_Body_path.nd
  unfold w_Body_path
  exact (xs_one (xs_l (ws_ret (we_bin o_cat (we_lc (own := [("here", 1), ("kept", 2)]) rfl nd (wi_seqA (we_fld ho_Body (we_var 0 (pv 0)))) (blkOk_by (N := N_Body_path) (sc := defScope st_Body_path) (by decide +kernel)) (fun _ _ _ _ _ => (pg_tup rfl (pgs_cons (pg_name (i := 1) nd rfl (by first | exact Or.inl rfl | exact Or.inr rfl)) (pgs_cons (pg_name (i := 2) nd rfl (by first | exact Or.inl rfl | exact Or.inr rfl)) pgs_nil)))) (tg_tup (n := 2) (tgs_cons (tg_name 1) (tgs_cons (tg_name 2) tgs_nil))) (by decide) (fun _ _ _ _ _ => wts_nil) (fun _ _ _ _ _ => (we_var 1 (pv 1)))) (we_lst (wa_cons (we_fld ho_Body (we_var 0 (pv 0))) wa_nil))))))
abbrev st_Body_back : Stmt := clsS 25 12
abbrev N_Body_back : List Str := ["self"]
theorem sc_Body_back : FnScope N_Body_back ["self"] (defScope st_Body_back) := ⟨rfl, rfl, rfl, by decide +kernel, rfl, by decide +kernel, by decide +kernel⟩
theorem tm_Body_back {P : Program} {w : World} {K : PySem.W.Frag} {mg : Str → Option Value} {base : Heap} {f : Addr} (ho_Body : ClsO K "Body" [PySem.Str.ofString "here", PySem.Str.ofString "kept", PySem.Str.ofString "behind", PySem.Str.ofString "ahead"]) (hX_cls_NoDeed : ClsX K mg (PySem.Str.ofString "NoDeed")) (cdv : Value) (A : Around) (outer : List Env) (s : Shared) (H : Hp) (E : XK) (hr : Room 0 (A.deeper (envOfC "Body.back" (defScope st_Body_back) s.heap.objs.size f cdv)))
    (tk : Takes (cxOf (L2.CX P w) P w K mg base N_Body_back "Body.back" (defScope st_Body_back) f cdv A outer s H E) (fun cls d _ H => E cls d H)) (po : PassesOwn (model P w) (A.deeper (envOfC "Body.back" (defScope st_Body_back) s.heap.objs.size f cdv)) (envOfC "Body.back" (defScope st_Body_back) s.heap.objs.size f cdv) (cxOf (L2.CX P w) P w K mg base N_Body_back "Body.back" (defScope st_Body_back) f cdv A outer s H E).xe) :
    WXs (cxOf (L2.CX P w) P w K mg base N_Body_back "Body.back" (defScope st_Body_back) f cdv A outer s H E) (fun cls d _ H => E cls d H) (defBody st_Body_back) w_Body_back := by
  have nd := sc_Body_back.nd
  unfold w_Body_back
  exact (xs_cons (xs_if (wt_cmp (o_emA hr.units) (we_fld ho_Body (we_var 0 (pv 0))) (we_lst wa_nil) (nomark _)) (xs_one (xs_raise rfl tk hX_cls_NoDeed (by rfl))) xs_nil)
    (xs_cons (xs_l (ws_drop (we_appA (we_fld ho_Body (we_var 0 (pv 0))) (we_tupR (wa_cons (we_fld ho_Body (we_var 0 (pv 0))) (wa_cons (we_fld ho_Body (we_var 0 (pv 0))) wa_nil))))))
    (xs_one (xs_l (ws_fld2 rfl ho_Body (we_var 0 (pv 0)) (we_var 0 (pv 0)) (we_popA (we_fld ho_Body (we_var 0 (pv 0)))))))))
abbrev st_Body_again : Stmt := clsS 25 13
abbrev N_Body_again : List Str := ["self"]
theorem sc_Body_again : FnScope N_Body_again ["self"] (defScope st_Body_again) := ⟨rfl, rfl, rfl, by decide +kernel, rfl, by decide +kernel, by decide +kernel⟩
theorem tm_Body_again {P : Program} {w : World} {K : PySem.W.Frag} {mg : Str → Option Value} {base : Heap} {f : Addr} (ho_Body : ClsO K "Body" [PySem.Str.ofString "here", PySem.Str.ofString "kept", PySem.Str.ofString "behind", PySem.Str.ofString "ahead"]) (hX_cls_NoDeed : ClsX K mg (PySem.Str.ofString "NoDeed")) (cdv : Value) (A : Around) (outer : List Env) (s : Shared) (H : Hp) (E : XK) (hr : Room 0 (A.deeper (envOfC "Body.again" (defScope st_Body_again) s.heap.objs.size f cdv)))
    (tk : Takes (cxOf (L2.CX P w) P w K mg base N_Body_again "Body.again" (defScope st_Body_again) f cdv A outer s H E) (fun cls d _ H => E cls d H)) (po : PassesOwn (model P w) (A.deeper (envOfC "Body.again" (defScope st_Body_again) s.heap.objs.size f cdv)) (envOfC "Body.again" (defScope st_Body_again) s.heap.objs.size f cdv) (cxOf (L2.CX P w) P w K mg base N_Body_again "Body.again" (defScope st_Body_again) f cdv A outer s H E).xe) :
    WXs (cxOf (L2.CX P w) P w K mg base N_Body_again "Body.again" (defScope st_Body_again) f cdv A outer s H E) (fun cls d _ H => E cls d H) (defBody st_Body_again) w_Body_again := by
  have nd := sc_Body_again.nd
  unfold w_Body_again
  exact (xs_cons (xs_if (wt_cmp (o_emA hr.units) (we_fld ho_Body (we_var 0 (pv 0))) (we_lst wa_nil) (nomark _)) (xs_one (xs_raise rfl tk hX_cls_NoDeed (by rfl))) xs_nil)
    (xs_cons (xs_l (ws_drop (we_appA (we_fld ho_Body (we_var 0 (pv 0))) (we_tupR (wa_cons (we_fld ho_Body (we_var 0 (pv 0))) (wa_cons (we_fld ho_Body (we_var 0 (pv 0))) wa_nil))))))
    (xs_one (xs_l (ws_fld2 rfl ho_Body (we_var 0 (pv 0)) (we_var 0 (pv 0)) (we_popA (we_fld ho_Body (we_var 0 (pv 0)))))))))
abbrev st_Body_twin : Stmt := clsS 25 14
abbrev N_Body_twin : List Str := ["self", "other"]
theorem sc_Body_twin : FnScope N_Body_twin ["self"] (defScope st_Body_twin) := ⟨rfl, rfl, rfl, by decide +kernel, rfl, by decide +kernel, by decide +kernel⟩
theorem tm_Body_twin {P : Program} {w : World} {K : PySem.W.Frag} {mg : Str → Option Value} {base : Heap} {f : Addr} (F_Body___init__ : FnK P w K mg base 1 "Body" sp_Body___init__) (ho_Body : ClsO K "Body" [PySem.Str.ofString "here", PySem.Str.ofString "kept", PySem.Str.ofString "behind", PySem.Str.ofString "ahead"]) (hb_list : mg "list" = none) (cdv : Value) (A : Around) (outer : List Env) (s : Shared) (H : Hp) (E : XK) (hr : Room 2 (A.deeper (envOfC "Body.twin" (defScope st_Body_twin) s.heap.objs.size f cdv)))
    (tk : Takes (cxOf (L2.CX P w) P w K mg base N_Body_twin "Body.twin" (defScope st_Body_twin) f cdv A outer s H E) (fun cls d _ H => E cls d H)) (po : PassesOwn (model P w) (A.deeper (envOfC "Body.twin" (defScope st_Body_twin) s.heap.objs.size f cdv)) (envOfC "Body.twin" (defScope st_Body_twin) s.heap.objs.size f cdv) (cxOf (L2.CX P w) P w K mg base N_Body_twin "Body.twin" (defScope st_Body_twin) f cdv A outer s H E).xe) :
    WXs (cxOf (L2.CX P w) P w K mg base N_Body_twin "Body.twin" (defScope st_Body_twin) f cdv A outer s H E) (fun cls d _ H => E cls d H) (defBody st_Body_twin) w_Body_twin := by
  have nd := sc_Body_twin.nd
  unfold w_Body_twin
  exact (xs_cons (xs_l (ws_set (i := 1) nd rfl (by first | exact Or.inl rfl | exact Or.inr rfl) (we_mk0 F_Body___init__ hr (by rfl))))
    (xs_cons (xs_l (ws_stF ho_Body (we_var 1 (pv 1)) (we_fld ho_Body (we_var 0 (pv 0)))))
    (xs_cons (xs_l (ws_stF ho_Body (we_var 1 (pv 1)) (we_fld ho_Body (we_var 0 (pv 0)))))
    (xs_cons (xs_l (ws_stF ho_Body (we_var 1 (pv 1)) (we_ty f_cpLa (by rfl) hb_list PyProof.Rows.boot_list (wa_cons (we_fld ho_Body (we_var 0 (pv 0))) wa_nil))))
    (xs_cons (xs_l (ws_stF ho_Body (we_var 1 (pv 1)) (we_ty f_cpLa (by rfl) hb_list PyProof.Rows.boot_list (wa_cons (we_fld ho_Body (we_var 0 (pv 0))) wa_nil))))
    (xs_one (xs_l (ws_ret (we_var 1 (pv 1))))))))))
abbrev st_Chain___init__ : Stmt := clsS 34 0
abbrev N_Chain___init__ : List Str := ["self"]
theorem sc_Chain___init__ : FnScope N_Chain___init__ ["self"] (defScope st_Chain___init__) := ⟨rfl, rfl, rfl, by decide +kernel, rfl, by decide +kernel, by decide +kernel⟩
theorem tm_Chain___init__ {P : Program} {w : World} {K : PySem.W.Frag} {mg : Str → Option Value} {base : Heap} {f : Addr} (ho_Chain : ClsO K "Chain" [PySem.Str.ofString "rows", PySem.Str.ofString "behind", PySem.Str.ofString "ahead"]) (cdv : Value) (A : Around) (outer : List Env) (s : Shared) (H : Hp) (E : XK) (hr : Room 0 (A.deeper (envOfC "Chain.__init__" (defScope st_Chain___init__) s.heap.objs.size f cdv)))
    (tk : Takes (cxOf (L2.CX P w) P w K mg base N_Chain___init__ "Chain.__init__" (defScope st_Chain___init__) f cdv A outer s H E) (fun cls d _ H => E cls d H)) (po : PassesOwn (model P w) (A.deeper (envOfC "Chain.__init__" (defScope st_Chain___init__) s.heap.objs.size f cdv)) (envOfC "Chain.__init__" (defScope st_Chain___init__) s.heap.objs.size f cdv) (cxOf (L2.CX P w) P w K mg base N_Chain___init__ "Chain.__init__" (defScope st_Chain___init__) f cdv A outer s H E).xe) :
    WXs (cxOf (L2.CX P w) P w K mg base N_Chain___init__ "Chain.__init__" (defScope st_Chain___init__) f cdv A outer s H E) (fun cls d _ H => E cls d H) (defBody st_Chain___init__) w_Chain___init__ := by
  have nd := sc_Chain___init__.nd
  unfold w_Chain___init__
  exact (xs_cons (xs_l (ws_stF ho_Chain (we_var 0 (pv 0)) (we_lstA wa_nil)))
    (xs_cons (xs_l (ws_stF ho_Chain (we_var 0 (pv 0)) (we_lstA wa_nil)))
    (xs_one (xs_l (ws_stF ho_Chain (we_var 0 (pv 0)) (we_lstA wa_nil))))))
abbrev st_Chain_come_to : Stmt := clsS 34 1
abbrev N_Chain_come_to : List Str := ["self", "rows"]
theorem sc_Chain_come_to : FnScope N_Chain_come_to ["self", "rows"] (defScope st_Chain_come_to) := ⟨rfl, rfl, rfl, by decide +kernel, rfl, by decide +kernel, by decide +kernel⟩
theorem tm_Chain_come_to {P : Program} {w : World} {K : PySem.W.Frag} {mg : Str → Option Value} {base : Heap} {f : Addr} (ho_Chain : ClsO K "Chain" [PySem.Str.ofString "rows", PySem.Str.ofString "behind", PySem.Str.ofString "ahead"]) (cdv : Value) (A : Around) (outer : List Env) (s : Shared) (H : Hp) (E : XK) (hr : Room 0 (A.deeper (envOfC "Chain.come_to" (defScope st_Chain_come_to) s.heap.objs.size f cdv)))
    (tk : Takes (cxOf (L2.CX P w) P w K mg base N_Chain_come_to "Chain.come_to" (defScope st_Chain_come_to) f cdv A outer s H E) (fun cls d _ H => E cls d H)) (po : PassesOwn (model P w) (A.deeper (envOfC "Chain.come_to" (defScope st_Chain_come_to) s.heap.objs.size f cdv)) (envOfC "Chain.come_to" (defScope st_Chain_come_to) s.heap.objs.size f cdv) (cxOf (L2.CX P w) P w K mg base N_Chain_come_to "Chain.come_to" (defScope st_Chain_come_to) f cdv A outer s H E).xe) :
    WXs (cxOf (L2.CX P w) P w K mg base N_Chain_come_to "Chain.come_to" (defScope st_Chain_come_to) f cdv A outer s H E) (fun cls d _ H => E cls d H) (defBody st_Chain_come_to) w_Chain_come_to := by
  have nd := sc_Chain_come_to.nd
  unfold w_Chain_come_to
  exact (xs_cons (xs_l (ws_drop (we_appA (we_fld ho_Chain (we_var 0 (pv 0))) (we_fld ho_Chain (we_var 0 (pv 0))))))
    (xs_cons (xs_l (ws_stF ho_Chain (we_var 0 (pv 0)) (we_lstA wa_nil)))
    (xs_one (xs_l (ws_stF ho_Chain (we_var 0 (pv 0)) (we_var 1 (pv 1)))))))
abbrev st_Chain_look_at : Stmt := clsS 34 2
abbrev N_Chain_look_at : List Str := ["self", "joint"]
theorem sc_Chain_look_at : FnScope N_Chain_look_at ["self", "joint"] (defScope st_Chain_look_at) := ⟨rfl, rfl, rfl, by decide +kernel, rfl, by decide +kernel, by decide +kernel⟩
theorem tm_Chain_look_at {P : Program} {w : World} {K : PySem.W.Frag} {mg : Str → Option Value} {base : Heap} {f : Addr} (ho_Chain : ClsO K "Chain" [PySem.Str.ofString "rows", PySem.Str.ofString "behind", PySem.Str.ofString "ahead"]) (hX_cls_NoJoint : ClsX K mg (PySem.Str.ofString "NoJoint")) (hb_len : mg "len" = none) (cdv : Value) (A : Around) (outer : List Env) (s : Shared) (H : Hp) (E : XK) (hr : Room 0 (A.deeper (envOfC "Chain.look_at" (defScope st_Chain_look_at) s.heap.objs.size f cdv)))
    (tk : Takes (cxOf (L2.CX P w) P w K mg base N_Chain_look_at "Chain.look_at" (defScope st_Chain_look_at) f cdv A outer s H E) (fun cls d _ H => E cls d H)) (po : PassesOwn (model P w) (A.deeper (envOfC "Chain.look_at" (defScope st_Chain_look_at) s.heap.objs.size f cdv)) (envOfC "Chain.look_at" (defScope st_Chain_look_at) s.heap.objs.size f cdv) (cxOf (L2.CX P w) P w K mg base N_Chain_look_at "Chain.look_at" (defScope st_Chain_look_at) f cdv A outer s H E).xe) :
    WXs (cxOf (L2.CX P w) P w K mg base N_Chain_look_at "Chain.look_at" (defScope st_Chain_look_at) f cdv A outer s H E) (fun cls d _ H => E cls d H) (defBody st_Chain_look_at) w_Chain_look_at := by
  have nd := sc_Chain_look_at.nd
  unfold w_Chain_look_at
  exact (xs_one (xs_if ((ww_or (wt_cmp o_lt (we_var 1 (pv 1)) we_int (nomark _)) (ww_or1 (wt_cmp o_ge (we_var 1 (pv 1)) (we_blt f_lenA (by rfl) hb_len PySem.boot_len (wa_cons (we_fld ho_Chain (we_var 0 (pv 0))) wa_nil)) (nomark _))))).wt (xs_one (xs_raise rfl tk hX_cls_NoJoint (by rfl))) xs_nil))
abbrev st_Chain_add : Stmt := clsS 34 3
abbrev N_Chain_add : List Str := ["self", "way", "arm", "setting"]
theorem sc_Chain_add : FnScope N_Chain_add ["self", "way", "arm", "setting"] (defScope st_Chain_add) := ⟨rfl, rfl, rfl, by decide +kernel, rfl, by decide +kernel, by decide +kernel⟩
theorem tm_Chain_add {P : Program} {w : World} {K : PySem.W.Frag} {mg : Str → Option Value} {base : Heap} {f : Addr} (F_Chain_come_to : FnM P w K mg base 4 "Chain" "come_to" 2 sp_Chain_come_to) (F_plain_setting : FnZ P w K mg base 4 "plain_setting" 2 sp_plain_setting) (ho_Chain : ClsO K "Chain" [PySem.Str.ofString "rows", PySem.Str.ofString "behind", PySem.Str.ofString "ahead"]) (hX_cls_TooMany : ClsX K mg (PySem.Str.ofString "TooMany")) (hb_len : mg "len" = none) (hc_MOST : ConAt K mg "MOST" (.int 6)) (cdv : Value) (A : Around) (outer : List Env) (s : Shared) (H : Hp) (E : XK) (hr : Room 4 (A.deeper (envOfC "Chain.add" (defScope st_Chain_add) s.heap.objs.size f cdv)))
    (tk : Takes (cxOf (L2.CX P w) P w K mg base N_Chain_add "Chain.add" (defScope st_Chain_add) f cdv A outer s H E) (fun cls d _ H => E cls d H)) (po : PassesOwn (model P w) (A.deeper (envOfC "Chain.add" (defScope st_Chain_add) s.heap.objs.size f cdv)) (envOfC "Chain.add" (defScope st_Chain_add) s.heap.objs.size f cdv) (cxOf (L2.CX P w) P w K mg base N_Chain_add "Chain.add" (defScope st_Chain_add) f cdv A outer s H E).xe) :
    WXs (cxOf (L2.CX P w) P w K mg base N_Chain_add "Chain.add" (defScope st_Chain_add) f cdv A outer s H E) (fun cls d _ H => E cls d H) (defBody st_Chain_add) w_Chain_add := by
  have nd := sc_Chain_add.nd
  unfold w_Chain_add
  exact (xs_cons (xs_if (wt_cmp (o_eq hr.units) (we_blt f_lenA (by rfl) hb_len PySem.boot_len (wa_cons (we_fld ho_Chain (we_var 0 (pv 0))) wa_nil)) (we_gc (by rfl) hc_MOST) (nomark _)) (xs_one (xs_raise rfl tk hX_cls_TooMany (by rfl))) xs_nil)
    (xs_one (xs_l (ws_drop (we_wmeth F_Chain_come_to hr (we_var 0 (pv 0)) (wa_cons (we_atL (we_bin o_catA (we_fld ho_Chain (we_var 0 (pv 0))) (we_lst (wa_cons (we_tup (wa_cons (we_var 1 (pv 1)) (wa_cons (we_var 2 (pv 2)) (wa_cons (we_call F_plain_setting hr (by rfl) (wa_cons (we_ix (we_var 3 (pv 3)) we_int (fun _ _ => rfl)) (wa_cons (we_ix (we_var 3 (pv 3)) we_int (fun _ _ => rfl)) wa_nil))) wa_nil)))) wa_nil)))) wa_nil))))))
abbrev st_Chain_off : Stmt := clsS 34 4
abbrev N_Chain_off : List Str := ["self"]
theorem sc_Chain_off : FnScope N_Chain_off ["self"] (defScope st_Chain_off) := ⟨rfl, rfl, rfl, by decide +kernel, rfl, by decide +kernel, by decide +kernel⟩
theorem tm_Chain_off {P : Program} {w : World} {K : PySem.W.Frag} {mg : Str → Option Value} {base : Heap} {f : Addr} (F_Chain_look_at : FnM P w K mg base 1 "Chain" "look_at" 2 sp_Chain_look_at) (F_Chain_come_to : FnM P w K mg base 1 "Chain" "come_to" 2 sp_Chain_come_to) (ho_Chain : ClsO K "Chain" [PySem.Str.ofString "rows", PySem.Str.ofString "behind", PySem.Str.ofString "ahead"]) (hb_len : mg "len" = none) (cdv : Value) (A : Around) (outer : List Env) (s : Shared) (H : Hp) (E : XK) (hr : Room 1 (A.deeper (envOfC "Chain.off" (defScope st_Chain_off) s.heap.objs.size f cdv)))
    (tk : Takes (cxOf (L2.CX P w) P w K mg base N_Chain_off "Chain.off" (defScope st_Chain_off) f cdv A outer s H E) (fun cls d _ H => E cls d H)) (po : PassesOwn (model P w) (A.deeper (envOfC "Chain.off" (defScope st_Chain_off) s.heap.objs.size f cdv)) (envOfC "Chain.off" (defScope st_Chain_off) s.heap.objs.size f cdv) (cxOf (L2.CX P w) P w K mg base N_Chain_off "Chain.off" (defScope st_Chain_off) f cdv A outer s H E).xe) :
    WXs (cxOf (L2.CX P w) P w K mg base N_Chain_off "Chain.off" (defScope st_Chain_off) f cdv A outer s H E) (fun cls d _ H => E cls d H) (defBody st_Chain_off) w_Chain_off := by
  have nd := sc_Chain_off.nd
  unfold w_Chain_off
  exact (xs_cons (xs_l (ws_drop (we_wmeth F_Chain_look_at hr (we_var 0 (pv 0)) (wa_cons (we_bin o_sub (we_blt f_lenA (by rfl) hb_len PySem.boot_len (wa_cons (we_fld ho_Chain (we_var 0 (pv 0))) wa_nil)) we_int) wa_nil))))
    (xs_one (xs_l (ws_drop (we_wmeth F_Chain_come_to hr (we_var 0 (pv 0)) (wa_cons (we_atL (we_slA (we_fld ho_Chain (we_var 0 (pv 0))) wo_none (wo_some (we_un u_neg we_int)))) wa_nil))))))
abbrev st_Chain_bend : Stmt := clsS 34 5
abbrev N_Chain_bend : List Str := ["self", "joint", "setting", "way", "arm", "old", "row"]
theorem sc_Chain_bend : FnScope N_Chain_bend ["self", "joint", "setting"] (defScope st_Chain_bend) := ⟨rfl, rfl, rfl, by decide +kernel, rfl, by decide +kernel, by decide +kernel⟩
theorem tm_Chain_bend {P : Program} {w : World} {K : PySem.W.Frag} {mg : Str → Option Value} {base : Heap} {f : Addr} (F_Chain_look_at : FnM P w K mg base 4 "Chain" "look_at" 2 sp_Chain_look_at) (F_plain_setting : FnZ P w K mg base 4 "plain_setting" 2 sp_plain_setting) (F_Chain_come_to : FnM P w K mg base 4 "Chain" "come_to" 2 sp_Chain_come_to) (ho_Chain : ClsO K "Chain" [PySem.Str.ofString "rows", PySem.Str.ofString "behind", PySem.Str.ofString "ahead"]) (cdv : Value) (A : Around) (outer : List Env) (s : Shared) (H : Hp) (E : XK) (hr : Room 4 (A.deeper (envOfC "Chain.bend" (defScope st_Chain_bend) s.heap.objs.size f cdv)))
    (tk : Takes (cxOf (L2.CX P w) P w K mg base N_Chain_bend "Chain.bend" (defScope st_Chain_bend) f cdv A outer s H E) (fun cls d _ H => E cls d H)) (po : PassesOwn (model P w) (A.deeper (envOfC "Chain.bend" (defScope st_Chain_bend) s.heap.objs.size f cdv)) (envOfC "Chain.bend" (defScope st_Chain_bend) s.heap.objs.size f cdv) (cxOf (L2.CX P w) P w K mg base N_Chain_bend "Chain.bend" (defScope st_Chain_bend) f cdv A outer s H E).xe) :
    WXs (cxOf (L2.CX P w) P w K mg base N_Chain_bend "Chain.bend" (defScope st_Chain_bend) f cdv A outer s H E) (fun cls d _ H => E cls d H) (defBody st_Chain_bend) w_Chain_bend := by
  have nd := sc_Chain_bend.nd
  unfold w_Chain_bend
  exact (xs_cons (xs_l (ws_drop (we_wmeth F_Chain_look_at hr (we_var 0 (pv 0)) (wa_cons (we_var 1 (pv 1)) wa_nil))))
    (xs_cons (xs_l (ws_unp (we_ixA (we_fld ho_Chain (we_var 0 (pv 0))) (we_var 1 (pv 1)) (fun _ _ => rfl)) (pg_tup rfl (pgs_cons (pg_name (i := 3) nd rfl (by first | exact Or.inl rfl | exact Or.inr rfl)) (pgs_cons (pg_name (i := 4) nd rfl (by first | exact Or.inl rfl | exact Or.inr rfl)) (pgs_cons (pg_name (i := 5) nd rfl (by first | exact Or.inl rfl | exact Or.inr rfl)) pgs_nil)))) (tg_tup (n := 3) (tgs_cons (tg_name 3) (tgs_cons (tg_name 4) (tgs_cons (tg_name 5) tgs_nil))))))
    (xs_cons (xs_l (ws_set (i := 6) nd rfl (by first | exact Or.inl rfl | exact Or.inr rfl) (we_tup (wa_cons (we_var 3 (pv 3)) (wa_cons (we_var 4 (pv 4)) (wa_cons (we_call F_plain_setting hr (by rfl) (wa_cons (we_ix (we_var 2 (pv 2)) we_int (fun _ _ => rfl)) (wa_cons (we_ix (we_var 2 (pv 2)) we_int (fun _ _ => rfl)) wa_nil))) wa_nil))))))
    (xs_one (xs_l (ws_drop (we_wmeth F_Chain_come_to hr (we_var 0 (pv 0)) (wa_cons (we_atL (we_bin o_cat (we_bin o_cat (we_slA (we_fld ho_Chain (we_var 0 (pv 0))) wo_none (wo_some (we_var 1 (pv 1)))) (we_lst (wa_cons (we_var 6 (pv 6)) wa_nil))) (we_slA (we_fld ho_Chain (we_var 0 (pv 0))) (wo_some (we_bin o_addI (we_var 1 (pv 1)) we_int)) wo_none))) wa_nil))))))))
abbrev st_Chain_frames : Stmt := clsS 34 6
abbrev N_Chain_frames : List Str := ["self", "many", "stands", "places", "way", "arm", "setting"]
theorem sc_Chain_frames : FnScope N_Chain_frames ["self", "many"] (defScope st_Chain_frames) := ⟨rfl, rfl, rfl, by decide +kernel, rfl, by decide +kernel, by decide +kernel⟩
theorem tm_Chain_frames {P : Program} {w : World} {K : PySem.W.Frag} {mg : Str → Option Value} {base : Heap} {f : Addr} (F_then : FnZ P w K mg base 5 "then" 2 sp_then) (F_about : FnZ P w K mg base 5 "about" 2 sp_about) (F_put_on : FnZ P w K mg base 5 "put_on" 2 sp_put_on) (F_turned : FnZ P w K mg base 5 "turned" 2 sp_turned) (ho_Chain : ClsO K "Chain" [PySem.Str.ofString "rows", PySem.Str.ofString "behind", PySem.Str.ofString "ahead"]) (hc_STILL : ConAt K mg "STILL" (.tup [.int 1, .int 0, .int 0, .int 0])) (hc_MIDDLE : ConAt K mg "MIDDLE" (.tup [.tup [.int 0, .int 1], .tup [.int 0, .int 1], .tup [.int 0, .int 1]])) (cdv : Value) (A : Around) (outer : List Env) (s : Shared) (H : Hp) (E : XK) (hr : Room 5 (A.deeper (envOfC "Chain.frames" (defScope st_Chain_frames) s.heap.objs.size f cdv)))
    (tk : Takes (cxOf (L2.CX P w) P w K mg base N_Chain_frames "Chain.frames" (defScope st_Chain_frames) f cdv A outer s H E) (fun cls d _ H => E cls d H)) (po : PassesOwn (model P w) (A.deeper (envOfC "Chain.frames" (defScope st_Chain_frames) s.heap.objs.size f cdv)) (envOfC "Chain.frames" (defScope st_Chain_frames) s.heap.objs.size f cdv) (cxOf (L2.CX P w) P w K mg base N_Chain_frames "Chain.frames" (defScope st_Chain_frames) f cdv A outer s H E).xe) :
    WXs (cxOf (L2.CX P w) P w K mg base N_Chain_frames "Chain.frames" (defScope st_Chain_frames) f cdv A outer s H E) (fun cls d _ H => E cls d H) (defBody st_Chain_frames) w_Chain_frames := by
  have nd := sc_Chain_frames.nd
  unfold w_Chain_frames
  exact (xs_cons (xs_l (ws_set (i := 2) nd rfl (by first | exact Or.inl rfl | exact Or.inr rfl) (we_lst (wa_cons (we_gc (by rfl) hc_STILL) wa_nil))))
    (xs_cons (xs_l (ws_set (i := 3) nd rfl (by first | exact Or.inl rfl | exact Or.inr rfl) (we_lst (wa_cons (we_gc (by rfl) hc_MIDDLE) wa_nil))))
    (xs_cons (xs_l (ws_for po rfl (wi_seq (we_slA (we_fld ho_Chain (we_var 0 (pv 0))) wo_none (wo_some (we_var 1 (pv 1))))) (pg_tup rfl (pgs_cons (pg_name (i := 4) nd rfl (by first | exact Or.inl rfl | exact Or.inr rfl)) (pgs_cons (pg_name (i := 5) nd rfl (by first | exact Or.inl rfl | exact Or.inr rfl)) (pgs_cons (pg_name (i := 6) nd rfl (by first | exact Or.inl rfl | exact Or.inr rfl)) pgs_nil)))) (tg_tup (n := 3) (tgs_cons (tg_name 4) (tgs_cons (tg_name 5) (tgs_cons (tg_name 6) tgs_nil)))) (ws_cons (ws_drop (we_app (we_var 2 (pv 2)) (we_call F_then hr (by rfl) (wa_cons (we_call F_about hr (by rfl) (wa_cons (we_var 4 (pv 4)) (wa_cons (we_var 6 (pv 6)) wa_nil))) (wa_cons (we_ix (we_var 2 (pv 2)) (we_un u_neg we_int) (fun _ _ => rfl)) wa_nil)))))
    (ws_one (ws_drop (we_app (we_var 3 (pv 3)) (we_call F_put_on hr (by rfl) (wa_cons (we_ix (we_var 3 (pv 3)) (we_un u_neg we_int) (fun _ _ => rfl)) (wa_cons (we_call F_turned hr (by rfl) (wa_cons (we_ix (we_var 2 (pv 2)) (we_un u_neg we_int) (fun _ _ => rfl)) (wa_cons (we_var 5 (pv 5)) wa_nil))) wa_nil)))))))))
    (xs_one (xs_l (ws_ret (we_tupR (wa_cons (we_var 2 (pv 2)) (wa_cons (we_var 3 (pv 3)) wa_nil)))))))))
abbrev st_Chain_joints : Stmt := clsS 34 7
abbrev N_Chain_joints : List Str := ["self"]
theorem sc_Chain_joints : FnScope N_Chain_joints ["self"] (defScope st_Chain_joints) := ⟨rfl, rfl, rfl, by decide +kernel, rfl, by decide +kernel, by decide +kernel⟩
theorem tm_Chain_joints {P : Program} {w : World} {K : PySem.W.Frag} {mg : Str → Option Value} {base : Heap} {f : Addr} (ho_Chain : ClsO K "Chain" [PySem.Str.ofString "rows", PySem.Str.ofString "behind", PySem.Str.ofString "ahead"]) (hb_list : mg "list" = none) (cdv : Value) (A : Around) (outer : List Env) (s : Shared) (H : Hp) (E : XK) (hr : Room 0 (A.deeper (envOfC "Chain.joints" (defScope st_Chain_joints) s.heap.objs.size f cdv)))
    (tk : Takes (cxOf (L2.CX P w) P w K mg base N_Chain_joints "Chain.joints" (defScope st_Chain_joints) f cdv A outer s H E) (fun cls d _ H => E cls d H)) (po : PassesOwn (model P w) (A.deeper (envOfC "Chain.joints" (defScope st_Chain_joints) s.heap.objs.size f cdv)) (envOfC "Chain.joints" (defScope st_Chain_joints) s.heap.objs.size f cdv) (cxOf (L2.CX P w) P w K mg base N_Chain_joints "Chain.joints" (defScope st_Chain_joints) f cdv A outer s H E).xe) :
    WXs (cxOf (L2.CX P w) P w K mg base N_Chain_joints "Chain.joints" (defScope st_Chain_joints) f cdv A outer s H E) (fun cls d _ H => E cls d H) (defBody st_Chain_joints) w_Chain_joints := by
  have nd := sc_Chain_joints.nd
  unfold w_Chain_joints
  exact (xs_one (xs_l (ws_ret (we_ty f_listA (by rfl) hb_list PyProof.Rows.boot_list (wa_cons (we_fld ho_Chain (we_var 0 (pv 0))) wa_nil)))))
abbrev st_Chain_stands : Stmt := clsS 34 8
abbrev N_Chain_stands : List Str := ["self"]
theorem sc_Chain_stands : FnScope N_Chain_stands ["self"] (defScope st_Chain_stands) := ⟨rfl, rfl, rfl, by decide +kernel, rfl, by decide +kernel, by decide +kernel⟩
theorem tm_Chain_stands {P : Program} {w : World} {K : PySem.W.Frag} {mg : Str → Option Value} {base : Heap} {f : Addr} (F_Chain_frames : FnM P w K mg base 6 "Chain" "frames" 2 sp_Chain_frames) (hc_MOST : ConAt K mg "MOST" (.int 6)) (cdv : Value) (A : Around) (outer : List Env) (s : Shared) (H : Hp) (E : XK) (hr : Room 6 (A.deeper (envOfC "Chain.stands" (defScope st_Chain_stands) s.heap.objs.size f cdv)))
    (tk : Takes (cxOf (L2.CX P w) P w K mg base N_Chain_stands "Chain.stands" (defScope st_Chain_stands) f cdv A outer s H E) (fun cls d _ H => E cls d H)) (po : PassesOwn (model P w) (A.deeper (envOfC "Chain.stands" (defScope st_Chain_stands) s.heap.objs.size f cdv)) (envOfC "Chain.stands" (defScope st_Chain_stands) s.heap.objs.size f cdv) (cxOf (L2.CX P w) P w K mg base N_Chain_stands "Chain.stands" (defScope st_Chain_stands) f cdv A outer s H E).xe) :
    WXs (cxOf (L2.CX P w) P w K mg base N_Chain_stands "Chain.stands" (defScope st_Chain_stands) f cdv A outer s H E) (fun cls d _ H => E cls d H) (defBody st_Chain_stands) w_Chain_stands := by
  have nd := sc_Chain_stands.nd
  unfold w_Chain_stands
  exact (xs_one (xs_l (ws_ret (we_slice (we_ixT (we_wmeth F_Chain_frames hr (we_var 0 (pv 0)) (wa_cons (we_gc (by rfl) hc_MOST) wa_nil)) we_int (fun _ _ => rfl)) (wo_some we_int) wo_none))))
abbrev st_Chain_places : Stmt := clsS 34 9
abbrev N_Chain_places : List Str := ["self"]
theorem sc_Chain_places : FnScope N_Chain_places ["self"] (defScope st_Chain_places) := ⟨rfl, rfl, rfl, by decide +kernel, rfl, by decide +kernel, by decide +kernel⟩
theorem tm_Chain_places {P : Program} {w : World} {K : PySem.W.Frag} {mg : Str → Option Value} {base : Heap} {f : Addr} (F_Chain_frames : FnM P w K mg base 6 "Chain" "frames" 2 sp_Chain_frames) (hc_MOST : ConAt K mg "MOST" (.int 6)) (cdv : Value) (A : Around) (outer : List Env) (s : Shared) (H : Hp) (E : XK) (hr : Room 6 (A.deeper (envOfC "Chain.places" (defScope st_Chain_places) s.heap.objs.size f cdv)))
    (tk : Takes (cxOf (L2.CX P w) P w K mg base N_Chain_places "Chain.places" (defScope st_Chain_places) f cdv A outer s H E) (fun cls d _ H => E cls d H)) (po : PassesOwn (model P w) (A.deeper (envOfC "Chain.places" (defScope st_Chain_places) s.heap.objs.size f cdv)) (envOfC "Chain.places" (defScope st_Chain_places) s.heap.objs.size f cdv) (cxOf (L2.CX P w) P w K mg base N_Chain_places "Chain.places" (defScope st_Chain_places) f cdv A outer s H E).xe) :
    WXs (cxOf (L2.CX P w) P w K mg base N_Chain_places "Chain.places" (defScope st_Chain_places) f cdv A outer s H E) (fun cls d _ H => E cls d H) (defBody st_Chain_places) w_Chain_places := by
  have nd := sc_Chain_places.nd
  unfold w_Chain_places
  exact (xs_one (xs_l (ws_ret (we_slice (we_ixT (we_wmeth F_Chain_frames hr (we_var 0 (pv 0)) (wa_cons (we_gc (by rfl) hc_MOST) wa_nil)) we_int (fun _ _ => rfl)) (wo_some we_int) wo_none))))
abbrev st_Chain_tip : Stmt := clsS 34 10
abbrev N_Chain_tip : List Str := ["self"]
theorem sc_Chain_tip : FnScope N_Chain_tip ["self"] (defScope st_Chain_tip) := ⟨rfl, rfl, rfl, by decide +kernel, rfl, by decide +kernel, by decide +kernel⟩
theorem tm_Chain_tip {P : Program} {w : World} {K : PySem.W.Frag} {mg : Str → Option Value} {base : Heap} {f : Addr} (F_Chain_frames : FnM P w K mg base 6 "Chain" "frames" 2 sp_Chain_frames) (hc_MOST : ConAt K mg "MOST" (.int 6)) (cdv : Value) (A : Around) (outer : List Env) (s : Shared) (H : Hp) (E : XK) (hr : Room 6 (A.deeper (envOfC "Chain.tip" (defScope st_Chain_tip) s.heap.objs.size f cdv)))
    (tk : Takes (cxOf (L2.CX P w) P w K mg base N_Chain_tip "Chain.tip" (defScope st_Chain_tip) f cdv A outer s H E) (fun cls d _ H => E cls d H)) (po : PassesOwn (model P w) (A.deeper (envOfC "Chain.tip" (defScope st_Chain_tip) s.heap.objs.size f cdv)) (envOfC "Chain.tip" (defScope st_Chain_tip) s.heap.objs.size f cdv) (cxOf (L2.CX P w) P w K mg base N_Chain_tip "Chain.tip" (defScope st_Chain_tip) f cdv A outer s H E).xe) :
    WXs (cxOf (L2.CX P w) P w K mg base N_Chain_tip "Chain.tip" (defScope st_Chain_tip) f cdv A outer s H E) (fun cls d _ H => E cls d H) (defBody st_Chain_tip) w_Chain_tip := by
  have nd := sc_Chain_tip.nd
  unfold w_Chain_tip
  exact (xs_one (xs_l (ws_ret (we_ix (we_ixT (we_wmeth F_Chain_frames hr (we_var 0 (pv 0)) (wa_cons (we_gc (by rfl) hc_MOST) wa_nil)) we_int (fun _ _ => rfl)) (we_un u_neg we_int) (fun _ _ => rfl)))))
abbrev st_Chain_back : Stmt := clsS 34 13
abbrev N_Chain_back : List Str := ["self"]
theorem sc_Chain_back : FnScope N_Chain_back ["self"] (defScope st_Chain_back) := ⟨rfl, rfl, rfl, by decide +kernel, rfl, by decide +kernel, by decide +kernel⟩
theorem tm_Chain_back {P : Program} {w : World} {K : PySem.W.Frag} {mg : Str → Option Value} {base : Heap} {f : Addr} (ho_Chain : ClsO K "Chain" [PySem.Str.ofString "rows", PySem.Str.ofString "behind", PySem.Str.ofString "ahead"]) (hX_cls_NoDeed : ClsX K mg (PySem.Str.ofString "NoDeed")) (cdv : Value) (A : Around) (outer : List Env) (s : Shared) (H : Hp) (E : XK) (hr : Room 0 (A.deeper (envOfC "Chain.back" (defScope st_Chain_back) s.heap.objs.size f cdv)))
    (tk : Takes (cxOf (L2.CX P w) P w K mg base N_Chain_back "Chain.back" (defScope st_Chain_back) f cdv A outer s H E) (fun cls d _ H => E cls d H)) (po : PassesOwn (model P w) (A.deeper (envOfC "Chain.back" (defScope st_Chain_back) s.heap.objs.size f cdv)) (envOfC "Chain.back" (defScope st_Chain_back) s.heap.objs.size f cdv) (cxOf (L2.CX P w) P w K mg base N_Chain_back "Chain.back" (defScope st_Chain_back) f cdv A outer s H E).xe) :
    WXs (cxOf (L2.CX P w) P w K mg base N_Chain_back "Chain.back" (defScope st_Chain_back) f cdv A outer s H E) (fun cls d _ H => E cls d H) (defBody st_Chain_back) w_Chain_back := by
  have nd := sc_Chain_back.nd
  unfold w_Chain_back
  exact (xs_cons (xs_if (wt_cmp (o_emA hr.units) (we_fld ho_Chain (we_var 0 (pv 0))) (we_lst wa_nil) (nomark _)) (xs_one (xs_raise rfl tk hX_cls_NoDeed (by rfl))) xs_nil)
    (xs_cons (xs_l (ws_drop (we_appA (we_fld ho_Chain (we_var 0 (pv 0))) (we_fld ho_Chain (we_var 0 (pv 0))))))
    (xs_one (xs_l (ws_stF ho_Chain (we_var 0 (pv 0)) (we_popA (we_fld ho_Chain (we_var 0 (pv 0)))))))))
abbrev st_Chain_again : Stmt := clsS 34 14
abbrev N_Chain_again : List Str := ["self"]
theorem sc_Chain_again : FnScope N_Chain_again ["self"] (defScope st_Chain_again) := ⟨rfl, rfl, rfl, by decide +kernel, rfl, by decide +kernel, by decide +kernel⟩
theorem tm_Chain_again {P : Program} {w : World} {K : PySem.W.Frag} {mg : Str → Option Value} {base : Heap} {f : Addr} (ho_Chain : ClsO K "Chain" [PySem.Str.ofString "rows", PySem.Str.ofString "behind", PySem.Str.ofString "ahead"]) (hX_cls_NoDeed : ClsX K mg (PySem.Str.ofString "NoDeed")) (cdv : Value) (A : Around) (outer : List Env) (s : Shared) (H : Hp) (E : XK) (hr : Room 0 (A.deeper (envOfC "Chain.again" (defScope st_Chain_again) s.heap.objs.size f cdv)))
    (tk : Takes (cxOf (L2.CX P w) P w K mg base N_Chain_again "Chain.again" (defScope st_Chain_again) f cdv A outer s H E) (fun cls d _ H => E cls d H)) (po : PassesOwn (model P w) (A.deeper (envOfC "Chain.again" (defScope st_Chain_again) s.heap.objs.size f cdv)) (envOfC "Chain.again" (defScope st_Chain_again) s.heap.objs.size f cdv) (cxOf (L2.CX P w) P w K mg base N_Chain_again "Chain.again" (defScope st_Chain_again) f cdv A outer s H E).xe) :
    WXs (cxOf (L2.CX P w) P w K mg base N_Chain_again "Chain.again" (defScope st_Chain_again) f cdv A outer s H E) (fun cls d _ H => E cls d H) (defBody st_Chain_again) w_Chain_again := by
  have nd := sc_Chain_again.nd
  unfold w_Chain_again
  exact (xs_cons (xs_if (wt_cmp (o_emA hr.units) (we_fld ho_Chain (we_var 0 (pv 0))) (we_lst wa_nil) (nomark _)) (xs_one (xs_raise rfl tk hX_cls_NoDeed (by rfl))) xs_nil)
    (xs_cons (xs_l (ws_drop (we_appA (we_fld ho_Chain (we_var 0 (pv 0))) (we_fld ho_Chain (we_var 0 (pv 0))))))
    (xs_one (xs_l (ws_stF ho_Chain (we_var 0 (pv 0)) (we_popA (we_fld ho_Chain (we_var 0 (pv 0)))))))))
abbrev st_Chain_twin : Stmt := clsS 34 15
abbrev N_Chain_twin : List Str := ["self", "other"]
theorem sc_Chain_twin : FnScope N_Chain_twin ["self"] (defScope st_Chain_twin) := ⟨rfl, rfl, rfl, by decide +kernel, rfl, by decide +kernel, by decide +kernel⟩
theorem tm_Chain_twin {P : Program} {w : World} {K : PySem.W.Frag} {mg : Str → Option Value} {base : Heap} {f : Addr} (F_Chain___init__ : FnK P w K mg base 1 "Chain" sp_Chain___init__) (ho_Chain : ClsO K "Chain" [PySem.Str.ofString "rows", PySem.Str.ofString "behind", PySem.Str.ofString "ahead"]) (hb_list : mg "list" = none) (cdv : Value) (A : Around) (outer : List Env) (s : Shared) (H : Hp) (E : XK) (hr : Room 2 (A.deeper (envOfC "Chain.twin" (defScope st_Chain_twin) s.heap.objs.size f cdv)))
    (tk : Takes (cxOf (L2.CX P w) P w K mg base N_Chain_twin "Chain.twin" (defScope st_Chain_twin) f cdv A outer s H E) (fun cls d _ H => E cls d H)) (po : PassesOwn (model P w) (A.deeper (envOfC "Chain.twin" (defScope st_Chain_twin) s.heap.objs.size f cdv)) (envOfC "Chain.twin" (defScope st_Chain_twin) s.heap.objs.size f cdv) (cxOf (L2.CX P w) P w K mg base N_Chain_twin "Chain.twin" (defScope st_Chain_twin) f cdv A outer s H E).xe) :
    WXs (cxOf (L2.CX P w) P w K mg base N_Chain_twin "Chain.twin" (defScope st_Chain_twin) f cdv A outer s H E) (fun cls d _ H => E cls d H) (defBody st_Chain_twin) w_Chain_twin := by
  have nd := sc_Chain_twin.nd
  unfold w_Chain_twin
  exact (xs_cons (xs_l (ws_set (i := 1) nd rfl (by first | exact Or.inl rfl | exact Or.inr rfl) (we_mk0 F_Chain___init__ hr (by rfl))))
    (xs_cons (xs_l (ws_stF ho_Chain (we_var 1 (pv 1)) (we_atL (we_ty f_listA (by rfl) hb_list PyProof.Rows.boot_list (wa_cons (we_fld ho_Chain (we_var 0 (pv 0))) wa_nil)))))
    (xs_cons (xs_l (ws_stF ho_Chain (we_var 1 (pv 1)) (we_ty f_cpLa (by rfl) hb_list PyProof.Rows.boot_list (wa_cons (we_fld ho_Chain (we_var 0 (pv 0))) wa_nil))))
    (xs_cons (xs_l (ws_stF ho_Chain (we_var 1 (pv 1)) (we_ty f_cpLa (by rfl) hb_list PyProof.Rows.boot_list (wa_cons (we_fld ho_Chain (we_var 0 (pv 0))) wa_nil))))
    (xs_one (xs_l (ws_ret (we_var 1 (pv 1)))))))))
theorem all_mk {l : PySem.W.OpenLaw} {w : World} {K : PySem.W.Frag} {h : Heap} {mg : Str → Option Value} {fa : Addr} (X : K.In h) (G : h.Ns mainGlobals mg) (hfa : mg "law" = some (.ref fa))
    {fL : Addr} {odL anL : Option Addr} {slL : Array (Option Value)} {ocL kVL dcL pmL cdL ctL : Value}
    (aL : PySem.W.nsIn K mainGlobals "law" = some (some (.ref fL))) (lL : K.lookup fL = some ⟨ocL, odL, .func (PySem.W.fnOf "law" "law" (defArgs st_law) (defBody st_law) (defScope st_law) .none kVL dcL pmL anL cdL ctL), slL⟩) (cL : PySem.W.codeIn K cdL "law" = true) (kL : PySem.W.keepIn K (.ref fL) = true)
    {A_NoDeed A_NoName A_NoMark A_NoJoint A_TooMany : Addr}
    (a_NoDeed : PySem.W.nsIn K mainGlobals (PySem.Str.ofString "NoDeed") = some (some (.ref A_NoDeed)))
    (p_NoDeed : PySem.W.isClsIn K A_NoDeed = true)
    (t_NoDeed : PySem.W.typeIn K (.ref A_NoDeed) = some (.type "type"))
    (a_NoName : PySem.W.nsIn K mainGlobals (PySem.Str.ofString "NoName") = some (some (.ref A_NoName)))
    (p_NoName : PySem.W.isClsIn K A_NoName = true)
    (t_NoName : PySem.W.typeIn K (.ref A_NoName) = some (.type "type"))
    (a_NoMark : PySem.W.nsIn K mainGlobals (PySem.Str.ofString "NoMark") = some (some (.ref A_NoMark)))
    (p_NoMark : PySem.W.isClsIn K A_NoMark = true)
    (t_NoMark : PySem.W.typeIn K (.ref A_NoMark) = some (.type "type"))
    (a_NoJoint : PySem.W.nsIn K mainGlobals (PySem.Str.ofString "NoJoint") = some (some (.ref A_NoJoint)))
    (p_NoJoint : PySem.W.isClsIn K A_NoJoint = true)
    (t_NoJoint : PySem.W.typeIn K (.ref A_NoJoint) = some (.type "type"))
    (a_TooMany : PySem.W.nsIn K mainGlobals (PySem.Str.ofString "TooMany") = some (some (.ref A_TooMany)))
    (p_TooMany : PySem.W.isClsIn K A_TooMany = true)
    (t_TooMany : PySem.W.typeIn K (.ref A_TooMany) = some (.type "type"))
    (k_NoDeed : PySem.W.keepIn K (.ref A_NoDeed) = true)
    (x_NoDeed : PySem.W.excIn K A_NoDeed veMro "ValueError.__new__" = true)
    (b_NoDeed : PySem.W.subIn K (.ref A_NoDeed) (.type "BaseException") = some true)
    (e_NoDeed : ExcC K A_NoDeed)
    (v_NoDeed : PySem.W.subIn K (.ref A_NoDeed) (.type "ValueError") = some true)
    (s_NoDeed_NoDeed : PySem.W.subIn K (.ref A_NoDeed) (.ref A_NoDeed) = some true)
    (s_NoDeed_NoName : PySem.W.subIn K (.ref A_NoDeed) (.ref A_NoName) = some false)
    (s_NoDeed_NoMark : PySem.W.subIn K (.ref A_NoDeed) (.ref A_NoMark) = some false)
    (s_NoDeed_NoJoint : PySem.W.subIn K (.ref A_NoDeed) (.ref A_NoJoint) = some false)
    (s_NoDeed_TooMany : PySem.W.subIn K (.ref A_NoDeed) (.ref A_TooMany) = some false)
    (k_NoJoint : PySem.W.keepIn K (.ref A_NoJoint) = true)
    (x_NoJoint : PySem.W.excIn K A_NoJoint veMro "ValueError.__new__" = true)
    (b_NoJoint : PySem.W.subIn K (.ref A_NoJoint) (.type "BaseException") = some true)
    (e_NoJoint : ExcC K A_NoJoint)
    (k_NoMark : PySem.W.keepIn K (.ref A_NoMark) = true)
    (x_NoMark : PySem.W.excIn K A_NoMark veMro "ValueError.__new__" = true)
    (b_NoMark : PySem.W.subIn K (.ref A_NoMark) (.type "BaseException") = some true)
    (e_NoMark : ExcC K A_NoMark)
    (k_NoName : PySem.W.keepIn K (.ref A_NoName) = true)
    (x_NoName : PySem.W.excIn K A_NoName veMro "ValueError.__new__" = true)
    (b_NoName : PySem.W.subIn K (.ref A_NoName) (.type "BaseException") = some true)
    (e_NoName : ExcC K A_NoName)
    (k_TooMany : PySem.W.keepIn K (.ref A_TooMany) = true)
    (x_TooMany : PySem.W.excIn K A_TooMany veMro "ValueError.__new__" = true)
    (b_TooMany : PySem.W.subIn K (.ref A_TooMany) (.type "BaseException") = some true)
    (e_TooMany : ExcC K A_TooMany)
    (y_NoDeed : PySem.W.subIn K (.ref A_NoDeed) (.type "BaseException") = some true)
    (d_divisor : DefAt K mg "divisor" st_divisor ["one", "other"])
    (d_divisor_of : DefAt K mg "divisor_of" st_divisor_of ["numbers"])
    (d_made : DefAt K mg "made" st_made ["top", "bottom"])
    (d_added : DefAt K mg "added" st_added ["one", "other"])
    (d_plain_row : DefAt K mg "plain_row" st_plain_row ["numbers"])
    (d_plain : DefAt K mg "plain" st_plain ["four"])
    (d_size : DefAt K mg "size" st_size ["four"])
    (d_product : DefAt K mg "product" st_product ["one", "other"])
    (d_then : DefAt K mg "then" st_then ["one", "other"])
    (d_rows_of : DefAt K mg "rows_of" st_rows_of ["four"])
    (d_turned : DefAt K mg "turned" st_turned ["four", "point"])
    (d_is_name : DefAt K mg "is_name" st_is_name ["text"])
    (d_plain_setting : DefAt K mg "plain_setting" st_plain_setting ["k", "l"])
    (d_about : DefAt K mg "about" st_about ["way", "setting"])
    (d_put_on : DefAt K mg "put_on" st_put_on ["point", "other"])
    (d_l_mixed : DefAt K mg "_law_mixed" st_l_mixed ["_law_cell", "_law_k"])
    (d_l_purse : DefAt K mg "_law_purse" st_l_purse ["_law_script"])
    (d_l_draw : DefAt K mg "_law_draw" st_l_draw ["_law_purse_here", "_law_out_of"])
    (d_l_number : DefAt K mg "_law_number" st_l_number ["_law_purse_here"])
    (d_l_row : DefAt K mg "_law_row" st_l_row ["_law_purse_here", "_law_many"])
    (d_l_divisor : DefAt K mg "_law_divisor" st_l_divisor ["_law_one", "_law_other"])
    (d_l_lowest : DefAt K mg "_law_lowest" st_l_lowest ["_law_top", "_law_bottom"])
    (d_l_point : DefAt K mg "_law_point" st_l_point ["_law_purse_here"])
    (d_l_names : DefAt K mg "_law_names" st_l_names ["_law_purse_here"])
    (d_l_body_deed : DefAt K mg "_law_body_deed" st_l_body_deed ["_law_purse_here", "_law_body", "_law_names_here"])
    (d_l_chain_deed : DefAt K mg "_law_chain_deed" st_l_chain_deed ["_law_purse_here", "_law_chain"])
    (d_l_body_told : DefAt K mg "_law_body_told" st_l_body_told ["_law_body"])
    (d_l_chain_told : DefAt K mg "_law_chain_told" st_l_chain_told ["_law_chain"])
    (d_l_no_deed_Body : DefAt K mg "_law_no_deed" st_l_no_deed_Body ["_law_thing", "_law_again"])
    (d_l_no_deed_Chain : DefAt K mg "_law_no_deed" st_l_no_deed_Chain ["_law_thing", "_law_again"])
    (d_l_held_Body : DefAt K mg "_law_held" st_l_held_Body ["_law_thing", "_law_told", "_law_seen", "_law_number_here"])
    (d_l_held_Chain : DefAt K mg "_law_held" st_l_held_Chain ["_law_thing", "_law_told", "_law_seen", "_law_number_here"])
    (d_Body___init__ : InitAt K mg "Body" "Body.__init__" st_Body___init__ ["self"])
    (d_Body_come_to : MethAt K "Body" "come_to" "Body.come_to" st_Body_come_to ["self", "here", "kept"])
    (d_Body_room : MethAt K "Body" "room" "Body.room" st_Body_room ["self", "four"])
    (d_Body_own : MethAt K "Body" "own" "Body.own" st_Body_own ["self", "four"])
    (d_Body_mark : MethAt K "Body" "mark" "Body.mark" st_Body_mark ["self", "name"])
    (d_Body_marked : MethAt K "Body" "marked" "Body.marked" st_Body_marked ["self", "name"])
    (d_Body_to : MethAt K "Body" "to" "Body.to" st_Body_to ["self", "name"])
    (d_Body_stand : MethAt K "Body" "stand" "Body.stand" st_Body_stand ["self"])
    (d_Body_marks : MethAt K "Body" "marks" "Body.marks" st_Body_marks ["self"])
    (d_Body_path : MethAt K "Body" "path" "Body.path" st_Body_path ["self"])
    (d_Body_back : MethAt K "Body" "back" "Body.back" st_Body_back ["self"])
    (d_Body_again : MethAt K "Body" "again" "Body.again" st_Body_again ["self"])
    (d_Body_twin : MethAt K "Body" "twin" "Body.twin" st_Body_twin ["self"])
    (d_Chain___init__ : InitAt K mg "Chain" "Chain.__init__" st_Chain___init__ ["self"])
    (d_Chain_come_to : MethAt K "Chain" "come_to" "Chain.come_to" st_Chain_come_to ["self", "rows"])
    (d_Chain_look_at : MethAt K "Chain" "look_at" "Chain.look_at" st_Chain_look_at ["self", "joint"])
    (d_Chain_add : MethAt K "Chain" "add" "Chain.add" st_Chain_add ["self", "way", "arm", "setting"])
    (d_Chain_off : MethAt K "Chain" "off" "Chain.off" st_Chain_off ["self"])
    (d_Chain_bend : MethAt K "Chain" "bend" "Chain.bend" st_Chain_bend ["self", "joint", "setting"])
    (d_Chain_frames : MethAt K "Chain" "frames" "Chain.frames" st_Chain_frames ["self", "many"])
    (d_Chain_joints : MethAt K "Chain" "joints" "Chain.joints" st_Chain_joints ["self"])
    (d_Chain_stands : MethAt K "Chain" "stands" "Chain.stands" st_Chain_stands ["self"])
    (d_Chain_places : MethAt K "Chain" "places" "Chain.places" st_Chain_places ["self"])
    (d_Chain_tip : MethAt K "Chain" "tip" "Chain.tip" st_Chain_tip ["self"])
    (d_Chain_back : MethAt K "Chain" "back" "Chain.back" st_Chain_back ["self"])
    (d_Chain_again : MethAt K "Chain" "again" "Chain.again" st_Chain_again ["self"])
    (d_Chain_twin : MethAt K "Chain" "twin" "Chain.twin" st_Chain_twin ["self"])
    (ho_Body : ClsO K "Body" [PySem.Str.ofString "here", PySem.Str.ofString "kept", PySem.Str.ofString "behind", PySem.Str.ofString "ahead"])
    (ho_Chain : ClsO K "Chain" [PySem.Str.ofString "rows", PySem.Str.ofString "behind", PySem.Str.ofString "ahead"])
    (hb_abs : mg "abs" = none)
    (hb_len : mg "len" = none)
    (hb_list : mg "list" = none)
    (hb_range : mg "range" = none)
    (hb_sorted : mg "sorted" = none)
    (hb_sum : mg "sum" = none)
    (hb_tuple : mg "tuple" = none)
    (hb_zip : mg "zip" = none)
    (hc_LETTERS : ConAt K mg "LETTERS" (.str (PySem.Str.ofString "abcdefghijklmnopqrstuvwxyz")))
    (hc_LONGEST : ConAt K mg "LONGEST" (.int 8))
    (hc_MIDDLE : ConAt K mg "MIDDLE" (.tup [.tup [.int 0, .int 1], .tup [.int 0, .int 1], .tup [.int 0, .int 1]]))
    (hc_MOST : ConAt K mg "MOST" (.int 6))
    (hc_STILL : ConAt K mg "STILL" (.tup [.int 1, .int 0, .int 0, .int 0]))
    : ∃ fd : FuncData, (∀ (s : Shared) (v : Value), BindsTo s fd ⟨[v], []⟩ [("_law_script", v)]) ∧ ∀ base : Heap, K.In base → base.Ns mainGlobals mg → FnOk l.prog w K mg base CX0 10 fa fd ["_law_script"] (liftSp K 1 sp_law) := by
  have e := hfa.symm.trans (PySem.W.mg_of X G aL)
  cases e
  have FL := fun_mk (st := st_law) lL cL kL
  have hX_cat1_NoDeed : XC K mg [PySem.Str.ofString "NoDeed"] (PySem.Str.ofString "NoDeed") := ⟨A_NoDeed, PySem.W.mg_of X G a_NoDeed, (List.forall_mem_cons.mpr ⟨⟨A_NoDeed, a_NoDeed, exm_own y_NoDeed p_NoDeed t_NoDeed s_NoDeed_NoDeed⟩, (fun _ h => by cases h)⟩)⟩
  have hX_cls_NoDeed : ClsX K mg (PySem.Str.ofString "NoDeed") := ⟨A_NoDeed, a_NoDeed, PySem.W.mg_of X G a_NoDeed, k_NoDeed, x_NoDeed, b_NoDeed, t_NoDeed, e_NoDeed⟩
  have hX_cls_NoJoint : ClsX K mg (PySem.Str.ofString "NoJoint") := ⟨A_NoJoint, a_NoJoint, PySem.W.mg_of X G a_NoJoint, k_NoJoint, x_NoJoint, b_NoJoint, t_NoJoint, e_NoJoint⟩
  have hX_cls_NoMark : ClsX K mg (PySem.Str.ofString "NoMark") := ⟨A_NoMark, a_NoMark, PySem.W.mg_of X G a_NoMark, k_NoMark, x_NoMark, b_NoMark, t_NoMark, e_NoMark⟩
  have hX_cls_NoName : ClsX K mg (PySem.Str.ofString "NoName") := ⟨A_NoName, a_NoName, PySem.W.mg_of X G a_NoName, k_NoName, x_NoName, b_NoName, t_NoName, e_NoName⟩
  have hX_cls_TooMany : ClsX K mg (PySem.Str.ofString "TooMany") := ⟨A_TooMany, a_TooMany, PySem.W.mg_of X G a_TooMany, k_TooMany, x_TooMany, b_TooMany, t_TooMany, e_TooMany⟩
  refine ⟨PySem.W.fnOf "law" "law" (defArgs st_law) (defBody st_law) (defScope st_law) .none kVL dcL pmL anL cdL ctL, fun s v => .of_eq rfl, fun base _ _ => ?_⟩
  have F_divisor : FnZ l.prog w K mg base 1 "divisor" 2 sp_divisor := d_divisor.fn sc_divisor (fun f => tm_divisor (f := f) hb_abs) rd_divisor
  have F_size : FnZ l.prog w K mg base 1 "size" 1 sp_size := d_size.fn sc_size (fun f => tm_size (f := f) hb_sum) rd_size
  have F_product : FnZ l.prog w K mg base 1 "product" 2 sp_product := d_product.fn sc_product (fun f => tm_product (f := f)) rd_product
  have F_rows_of : FnZ l.prog w K mg base 1 "rows_of" 1 sp_rows_of := d_rows_of.fn sc_rows_of (fun f => tm_rows_of (f := f)) rd_rows_of
  have F_is_name : FnZ l.prog w K mg base 1 "is_name" 1 sp_is_name := d_is_name.fn sc_is_name (fun f => tm_is_name (f := f) hb_len hc_LONGEST hc_LETTERS) rd_is_name
  have F_l_mixed : FnZ l.prog w K mg base 1 "_law_mixed" 2 sp_l_mixed := d_l_mixed.fn sc_l_mixed (fun f => tm_l_mixed (f := f)) rd_l_mixed
  have F_l_draw : FnZ l.prog w K mg base 1 "_law_draw" 2 sp_l_draw := d_l_draw.fn sc_l_draw (fun f => tm_l_draw (f := f)) rd_l_draw
  have F_l_divisor : FnZ l.prog w K mg base 1 "_law_divisor" 2 sp_l_divisor := d_l_divisor.fn sc_l_divisor (fun f => tm_l_divisor (f := f) hb_abs) rd_l_divisor
  have F_Body___init__ : FnK l.prog w K mg base 1 "Body" sp_Body___init__ := d_Body___init__.fnk sc_Body___init__ (fun f => tm_Body___init__ (f := f) ho_Body) rd_Body___init__
  have F_Body_come_to : FnM l.prog w K mg base 1 "Body" "come_to" 3 sp_Body_come_to := d_Body_come_to.fnm sc_Body_come_to (fun f => tm_Body_come_to (f := f) ho_Body) rd_Body_come_to
  have F_Body_marks : FnM l.prog w K mg base 1 "Body" "marks" 1 sp_Body_marks := d_Body_marks.fnm sc_Body_marks (fun f => tm_Body_marks (f := f) ho_Body hb_sorted) rd_Body_marks
  have F_Body_path : FnM l.prog w K mg base 1 "Body" "path" 1 sp_Body_path := d_Body_path.fnm sc_Body_path (fun f => tm_Body_path (f := f) ho_Body) rd_Body_path
  have F_Body_back : FnM l.prog w K mg base 1 "Body" "back" 1 sp_Body_back := d_Body_back.fnm sc_Body_back (fun f => tm_Body_back (f := f) ho_Body hX_cls_NoDeed) rd_Body_back
  have F_Body_again : FnM l.prog w K mg base 1 "Body" "again" 1 sp_Body_again := d_Body_again.fnm sc_Body_again (fun f => tm_Body_again (f := f) ho_Body hX_cls_NoDeed) rd_Body_again
  have F_Chain___init__ : FnK l.prog w K mg base 1 "Chain" sp_Chain___init__ := d_Chain___init__.fnk sc_Chain___init__ (fun f => tm_Chain___init__ (f := f) ho_Chain) rd_Chain___init__
  have F_Chain_come_to : FnM l.prog w K mg base 1 "Chain" "come_to" 2 sp_Chain_come_to := d_Chain_come_to.fnm sc_Chain_come_to (fun f => tm_Chain_come_to (f := f) ho_Chain) rd_Chain_come_to
  have F_Chain_look_at : FnM l.prog w K mg base 1 "Chain" "look_at" 2 sp_Chain_look_at := d_Chain_look_at.fnm sc_Chain_look_at (fun f => tm_Chain_look_at (f := f) ho_Chain hX_cls_NoJoint hb_len) rd_Chain_look_at
  have F_Chain_joints : FnM l.prog w K mg base 1 "Chain" "joints" 1 sp_Chain_joints := d_Chain_joints.fnm sc_Chain_joints (fun f => tm_Chain_joints (f := f) ho_Chain hb_list) rd_Chain_joints
  have F_Chain_back : FnM l.prog w K mg base 1 "Chain" "back" 1 sp_Chain_back := d_Chain_back.fnm sc_Chain_back (fun f => tm_Chain_back (f := f) ho_Chain hX_cls_NoDeed) rd_Chain_back
  have F_Chain_again : FnM l.prog w K mg base 1 "Chain" "again" 1 sp_Chain_again := d_Chain_again.fnm sc_Chain_again (fun f => tm_Chain_again (f := f) ho_Chain hX_cls_NoDeed) rd_Chain_again
  have F_divisor_of : FnZ l.prog w K mg base 2 "divisor_of" 1 sp_divisor_of := d_divisor_of.fn sc_divisor_of (fun f => tm_divisor_of (f := f) (F_divisor.mono (by decide))) rd_divisor_of
  have F_made : FnZ l.prog w K mg base 2 "made" 2 sp_made := d_made.fn sc_made (fun f => tm_made (f := f) (F_divisor.mono (by decide))) rd_made
  have F_l_purse : FnZ l.prog w K mg base 2 "_law_purse" 1 sp_l_purse := d_l_purse.fn sc_l_purse (fun f => tm_l_purse (f := f) (F_l_mixed.mono (by decide)) hb_range hb_len) rd_l_purse
  have F_l_number : FnZ l.prog w K mg base 2 "_law_number" 1 sp_l_number := d_l_number.fn sc_l_number (fun f => tm_l_number (f := f) (F_l_draw.mono (by decide))) rd_l_number
  have F_l_lowest : FnZ l.prog w K mg base 2 "_law_lowest" 2 sp_l_lowest := d_l_lowest.fn sc_l_lowest (fun f => tm_l_lowest (f := f) (F_l_divisor.mono (by decide))) rd_l_lowest
  have F_l_names : FnZ l.prog w K mg base 2 "_law_names" 1 sp_l_names := d_l_names.fn sc_l_names (fun f => tm_l_names (f := f) (F_l_draw.mono (by decide)) hb_range) rd_l_names
  have F_l_no_deed_Body : FnW l.prog w K mg base 2 "_law_no_deed" 2 sp_l_no_deed_Body := d_l_no_deed_Body.fnw sc_l_no_deed_Body (fun f => tm_l_no_deed_Body (f := f) (F_Body_again.mono (by decide)) (F_Body_back.mono (by decide)) hX_cat1_NoDeed) rd_l_no_deed_Body
  have F_l_no_deed_Chain : FnW l.prog w K mg base 2 "_law_no_deed" 2 sp_l_no_deed_Chain := d_l_no_deed_Chain.fnw sc_l_no_deed_Chain (fun f => tm_l_no_deed_Chain (f := f) (F_Chain_again.mono (by decide)) (F_Chain_back.mono (by decide)) hX_cat1_NoDeed) rd_l_no_deed_Chain
  have F_Body_mark : FnM l.prog w K mg base 2 "Body" "mark" 2 sp_Body_mark := d_Body_mark.fnm sc_Body_mark (fun f => tm_Body_mark (f := f) (F_is_name.mono (by decide)) (F_Body_come_to.mono (by decide)) ho_Body hX_cls_NoName) rd_Body_mark
  have F_Body_marked : FnM l.prog w K mg base 2 "Body" "marked" 2 sp_Body_marked := d_Body_marked.fnm sc_Body_marked (fun f => tm_Body_marked (f := f) (F_is_name.mono (by decide)) ho_Body hX_cls_NoName hX_cls_NoMark) rd_Body_marked
  have F_Chain_off : FnM l.prog w K mg base 2 "Chain" "off" 1 sp_Chain_off := d_Chain_off.fnm sc_Chain_off (fun f => tm_Chain_off (f := f) (F_Chain_look_at.mono (by decide)) (F_Chain_come_to.mono (by decide)) ho_Chain hb_len) rd_Chain_off
  have F_added : FnZ l.prog w K mg base 3 "added" 2 sp_added := d_added.fn sc_added (fun f => tm_added (f := f) (F_made.mono (by decide))) rd_added
  have F_plain_row : FnZ l.prog w K mg base 3 "plain_row" 1 sp_plain_row := d_plain_row.fn sc_plain_row (fun f => tm_plain_row (f := f) (F_divisor_of.mono (by decide)) hb_tuple) rd_plain_row
  have F_turned : FnZ l.prog w K mg base 3 "turned" 2 sp_turned := d_turned.fn sc_turned (fun f => tm_turned (f := f) (F_divisor.mono (by decide)) (F_rows_of.mono (by decide)) (F_made.mono (by decide)) (F_size.mono (by decide)) hb_range hb_sum hb_tuple) rd_turned
  have F_l_row : FnZ l.prog w K mg base 3 "_law_row" 2 sp_l_row := d_l_row.fn sc_l_row (fun f => tm_l_row (f := f) (F_l_number.mono (by decide)) hb_range hb_tuple) rd_l_row
  have F_l_point : FnZ l.prog w K mg base 3 "_law_point" 1 sp_l_point := d_l_point.fn sc_l_point (fun f => tm_l_point (f := f) (F_l_lowest.mono (by decide)) (F_l_draw.mono (by decide)) hb_range hb_tuple) rd_l_point
  have F_Body_to : FnM l.prog w K mg base 3 "Body" "to" 2 sp_Body_to := d_Body_to.fnm sc_Body_to (fun f => tm_Body_to (f := f) (F_Body_come_to.mono (by decide)) (F_Body_marked.mono (by decide)) ho_Body) rd_Body_to
  have F_Body_twin : FnM l.prog w K mg base 3 "Body" "twin" 1 sp_Body_twin := d_Body_twin.fnm sc_Body_twin (fun f => tm_Body_twin (f := f) (F_Body___init__.mono (by decide)) ho_Body hb_list) rd_Body_twin
  have F_Chain_twin : FnM l.prog w K mg base 3 "Chain" "twin" 1 sp_Chain_twin := d_Chain_twin.fnm sc_Chain_twin (fun f => tm_Chain_twin (f := f) (F_Chain___init__.mono (by decide)) ho_Chain hb_list) rd_Chain_twin
  have F_plain : FnZ l.prog w K mg base 4 "plain" 1 sp_plain := d_plain.fn sc_plain (fun f => tm_plain (f := f) (F_plain_row.mono (by decide)) hb_tuple) rd_plain
  have F_plain_setting : FnZ l.prog w K mg base 4 "plain_setting" 2 sp_plain_setting := d_plain_setting.fn sc_plain_setting (fun f => tm_plain_setting (f := f) (F_plain_row.mono (by decide))) rd_plain_setting
  have F_put_on : FnZ l.prog w K mg base 4 "put_on" 2 sp_put_on := d_put_on.fn sc_put_on (fun f => tm_put_on (f := f) (F_added.mono (by decide)) hb_zip hb_tuple) rd_put_on
  have F_then : FnZ l.prog w K mg base 5 "then" 2 sp_then := d_then.fn sc_then (fun f => tm_then (f := f) (F_plain.mono (by decide)) (F_product.mono (by decide))) rd_then
  have F_about : FnZ l.prog w K mg base 5 "about" 2 sp_about := d_about.fn sc_about (fun f => tm_about (f := f) (F_plain.mono (by decide))) rd_about
  have F_Body_stand : FnM l.prog w K mg base 5 "Body" "stand" 1 sp_Body_stand := d_Body_stand.fnm sc_Body_stand (fun f => tm_Body_stand (f := f) (F_plain.mono (by decide)) ho_Body) rd_Body_stand
  have F_Chain_add : FnM l.prog w K mg base 5 "Chain" "add" 4 sp_Chain_add := d_Chain_add.fnm sc_Chain_add (fun f => tm_Chain_add (f := f) (F_Chain_come_to.mono (by decide)) (F_plain_setting.mono (by decide)) ho_Chain hX_cls_TooMany hb_len hc_MOST) rd_Chain_add
  have F_Chain_bend : FnM l.prog w K mg base 5 "Chain" "bend" 3 sp_Chain_bend := d_Chain_bend.fnm sc_Chain_bend (fun f => tm_Chain_bend (f := f) (F_Chain_look_at.mono (by decide)) (F_plain_setting.mono (by decide)) (F_Chain_come_to.mono (by decide)) ho_Chain) rd_Chain_bend
  have F_l_chain_deed : FnW l.prog w K mg base 6 "_law_chain_deed" 2 sp_l_chain_deed := d_l_chain_deed.fnw sc_l_chain_deed (fun f => tm_l_chain_deed (f := f) (F_l_draw.mono (by decide)) (F_Chain_joints.mono (by decide)) (F_Chain_add.mono (by decide)) (F_l_point.mono (by decide)) (F_l_row.mono (by decide)) (F_Chain_off.mono (by decide)) (F_Chain_bend.mono (by decide)) hb_len) rd_l_chain_deed
  have F_l_body_told : FnW l.prog w K mg base 6 "_law_body_told" 1 sp_l_body_told := d_l_body_told.fnwC sc_l_body_told (fun f => tm_l_body_told (f := f) (F_Body_marks.mono (by decide)) (F_Body_path.mono (by decide)) (F_Body_stand.mono (by decide))) rd_l_body_told
  obtain ⟨fa_l_body_told, _, _, _, hv_l_body_told, _⟩ := F_l_body_told.ok
  have F_Body_room : FnM l.prog w K mg base 6 "Body" "room" 2 sp_Body_room := d_Body_room.fnm sc_Body_room (fun f => tm_Body_room (f := f) (F_Body_come_to.mono (by decide)) (F_then.mono (by decide)) ho_Body) rd_Body_room
  have F_Body_own : FnM l.prog w K mg base 6 "Body" "own" 2 sp_Body_own := d_Body_own.fnm sc_Body_own (fun f => tm_Body_own (f := f) (F_Body_come_to.mono (by decide)) (F_then.mono (by decide)) ho_Body) rd_Body_own
  have F_Chain_frames : FnM l.prog w K mg base 6 "Chain" "frames" 2 sp_Chain_frames := d_Chain_frames.fnm sc_Chain_frames (fun f => tm_Chain_frames (f := f) (F_then.mono (by decide)) (F_about.mono (by decide)) (F_put_on.mono (by decide)) (F_turned.mono (by decide)) ho_Chain hc_STILL hc_MIDDLE) rd_Chain_frames
  have F_l_body_deed : FnW l.prog w K mg base 7 "_law_body_deed" 3 sp_l_body_deed := d_l_body_deed.fnw sc_l_body_deed (fun f => tm_l_body_deed (f := f) (F_l_draw.mono (by decide)) (F_Body_marks.mono (by decide)) (F_Body_room.mono (by decide)) (F_l_row.mono (by decide)) (F_Body_own.mono (by decide)) (F_Body_to.mono (by decide)) (F_Body_mark.mono (by decide)) hb_len) rd_l_body_deed
  have F_l_held_Body : FnW l.prog w K mg base 7 "_law_held" 4 (sp_l_held_Body fa_l_body_told) := d_l_held_Body.fnw sc_l_held_Body (fun f => tm_l_held_Body (f := f) hv_l_body_told (F_Body_back.mono (by decide)) (F_l_body_told.mono (by decide)) (F_Body_twin.mono (by decide)) (F_Body_again.mono (by decide)) (F_l_no_deed_Body.mono (by decide)) hb_len hb_range) (rd_l_held_Body fa_l_body_told)
  have F_Chain_stands : FnM l.prog w K mg base 7 "Chain" "stands" 1 sp_Chain_stands := d_Chain_stands.fnm sc_Chain_stands (fun f => tm_Chain_stands (f := f) (F_Chain_frames.mono (by decide)) hc_MOST) rd_Chain_stands
  have F_Chain_places : FnM l.prog w K mg base 7 "Chain" "places" 1 sp_Chain_places := d_Chain_places.fnm sc_Chain_places (fun f => tm_Chain_places (f := f) (F_Chain_frames.mono (by decide)) hc_MOST) rd_Chain_places
  have F_Chain_tip : FnM l.prog w K mg base 7 "Chain" "tip" 1 sp_Chain_tip := d_Chain_tip.fnm sc_Chain_tip (fun f => tm_Chain_tip (f := f) (F_Chain_frames.mono (by decide)) hc_MOST) rd_Chain_tip
  have F_l_chain_told : FnW l.prog w K mg base 8 "_law_chain_told" 1 sp_l_chain_told := d_l_chain_told.fnwC sc_l_chain_told (fun f => tm_l_chain_told (f := f) (F_Chain_tip.mono (by decide)) (F_Chain_places.mono (by decide)) (F_Chain_stands.mono (by decide)) (F_Chain_joints.mono (by decide))) rd_l_chain_told
  obtain ⟨fa_l_chain_told, _, _, _, hv_l_chain_told, _⟩ := F_l_chain_told.ok
  have F_l_held_Chain : FnW l.prog w K mg base 9 "_law_held" 4 (sp_l_held_Chain fa_l_chain_told) := d_l_held_Chain.fnw sc_l_held_Chain (fun f => tm_l_held_Chain (f := f) hv_l_chain_told (F_Chain_back.mono (by decide)) (F_l_chain_told.mono (by decide)) (F_Chain_twin.mono (by decide)) (F_Chain_again.mono (by decide)) (F_l_no_deed_Chain.mono (by decide)) hb_len hb_range) (rd_l_held_Chain fa_l_chain_told)
  exact fn_ok FL sc_law (tm_law hv_l_body_told hv_l_chain_told (F_l_purse.mono (by decide)) (F_l_names.mono (by decide)) (F_Body___init__.mono (by decide)) (F_Chain___init__.mono (by decide)) (F_l_body_told.mono (by decide)) (F_l_draw.mono (by decide)) (F_l_body_deed.mono (by decide)) (F_l_chain_told.mono (by decide)) (F_l_chain_deed.mono (by decide)) (F_l_held_Body.mono (by decide)) (F_l_held_Chain.mono (by decide)) (F_Body_room.mono (by decide)) (F_Body_back.mono (by decide)) (F_Body_twin.mono (by decide)) (F_Body_mark.mono (by decide)) (F_l_no_deed_Body.mono (by decide)) hb_range) (rd_law fa_l_body_told fa_l_chain_told)
end Z
open PySem PySem.W PyProof.Rows
set_option maxHeartbeats 0 in
theorem PySem.Challenge.cw_hangrings_k88_whole_back_and_again_holds : PySem.Challenge.rw_hangrings_k88_whole_back_and_again.Holds := by
  w_on; o_law; k_head; (case hw => w_witness2)
  k_fill
  refine L2.walk_ofB (l := PySem.Challenge.rw_hangrings_k88_whole_back_and_again) (n := 63) (k := 10) (x := "_law_script") (CX := fun _ => L2.CX0) (sp := fun w => Z.liftSp _ 1 Z.sp_law) rfl (by decide) rfl ⟨rfl, by decide, by decide⟩ (fun w h Y => PySem.W.kIn_of Y) ?F (fun _ _ a ns hl hb hO hS => Z.law_start hl hb hO hS) (fun _ _ _ _ _ h => h)
  case F =>
    intro w mg fa h KX G hmg
    refine' Z.all_mk KX G hmg ?aL ?lL ?cL ?kL ?a_NoDeed ?p_NoDeed ?t_NoDeed ?a_NoName ?p_NoName ?t_NoName ?a_NoMark ?p_NoMark ?t_NoMark ?a_NoJoint ?p_NoJoint ?t_NoJoint ?a_TooMany ?p_TooMany ?t_TooMany ?k_NoDeed ?x_NoDeed ?b_NoDeed ?e_NoDeed ?v_NoDeed ?s_NoDeed_NoDeed ?s_NoDeed_NoName ?s_NoDeed_NoMark ?s_NoDeed_NoJoint ?s_NoDeed_TooMany ?k_NoJoint ?x_NoJoint ?b_NoJoint ?e_NoJoint ?k_NoMark ?x_NoMark ?b_NoMark ?e_NoMark ?k_NoName ?x_NoName ?b_NoName ?e_NoName ?k_TooMany ?x_TooMany ?b_TooMany ?e_TooMany ?y_NoDeed ?d_divisor ?d_divisor_of ?d_made ?d_added ?d_plain_row ?d_plain ?d_size ?d_product ?d_then ?d_rows_of ?d_turned ?d_is_name ?d_plain_setting ?d_about ?d_put_on ?d_l_mixed ?d_l_purse ?d_l_draw ?d_l_number ?d_l_row ?d_l_divisor ?d_l_lowest ?d_l_point ?d_l_names ?d_l_body_deed ?d_l_chain_deed ?d_l_body_told ?d_l_chain_told ?d_l_no_deed_Body ?d_l_no_deed_Chain ?d_l_held_Body ?d_l_held_Chain ?d_Body___init__ ?d_Body_come_to ?d_Body_room ?d_Body_own ?d_Body_mark ?d_Body_marked ?d_Body_to ?d_Body_stand ?d_Body_marks ?d_Body_path ?d_Body_back ?d_Body_again ?d_Body_twin ?d_Chain___init__ ?d_Chain_come_to ?d_Chain_look_at ?d_Chain_add ?d_Chain_off ?d_Chain_bend ?d_Chain_frames ?d_Chain_joints ?d_Chain_stands ?d_Chain_places ?d_Chain_tip ?d_Chain_back ?d_Chain_again ?d_Chain_twin ?ho_Body ?ho_Chain ?hb_abs ?hb_len ?hb_list ?hb_range ?hb_sorted ?hb_sum ?hb_tuple ?hb_zip ?hc_LETTERS ?hc_LONGEST ?hc_MIDDLE ?hc_MOST ?hc_STILL
    (case aL => k_is)
    (case lL => k_is)
    (case cL => k_is)
    (case kL => k_is)
    (case a_NoDeed => k_is)
    (case p_NoDeed => k_is)
    (case t_NoDeed => k_is)
    (case a_NoName => k_is)
    (case p_NoName => k_is)
    (case t_NoName => k_is)
    (case a_NoMark => k_is)
    (case p_NoMark => k_is)
    (case t_NoMark => k_is)
    (case a_NoJoint => k_is)
    (case p_NoJoint => k_is)
    (case t_NoJoint => k_is)
    (case a_TooMany => k_is)
    (case p_TooMany => k_is)
    (case t_TooMany => k_is)
    (case k_NoDeed => k_is)
    (case x_NoDeed => k_exc)
    (case b_NoDeed => k_is)
    (case e_NoDeed => exact ⟨by k_is, by k_is, by k_is, by k_is, by k_is, by k_is, by k_is, by k_is⟩)
    (case v_NoDeed => k_is)
    (case s_NoDeed_NoDeed => first | rfl | k_is)
    (case s_NoDeed_NoName => first | rfl | k_is)
    (case s_NoDeed_NoMark => first | rfl | k_is)
    (case s_NoDeed_NoJoint => first | rfl | k_is)
    (case s_NoDeed_TooMany => first | rfl | k_is)
    (case k_NoJoint => k_is)
    (case x_NoJoint => k_exc)
    (case b_NoJoint => k_is)
    (case e_NoJoint => exact ⟨by k_is, by k_is, by k_is, by k_is, by k_is, by k_is, by k_is, by k_is⟩)
    (case k_NoMark => k_is)
    (case x_NoMark => k_exc)
    (case b_NoMark => k_is)
    (case e_NoMark => exact ⟨by k_is, by k_is, by k_is, by k_is, by k_is, by k_is, by k_is, by k_is⟩)
    (case k_NoName => k_is)
    (case x_NoName => k_exc)
    (case b_NoName => k_is)
    (case e_NoName => exact ⟨by k_is, by k_is, by k_is, by k_is, by k_is, by k_is, by k_is, by k_is⟩)
    (case k_TooMany => k_is)
    (case x_TooMany => k_exc)
    (case b_TooMany => k_is)
    (case e_TooMany => exact ⟨by k_is, by k_is, by k_is, by k_is, by k_is, by k_is, by k_is, by k_is⟩)
    (case y_NoDeed => k_is)
    (case ho_Body => refine' ⟨_, ?a, Z.cls_mk ?pg ?hd ?po ?sa, ?n⟩; (case a => (show PySem.W.nsIn _ _ _ = _); k_is); (case pg => k_is); (case hd => k_is); (case po => k_is); (case sa => k_is); (case n => intro f hf; simp only [List.mem_cons, List.not_mem_nil, or_false] at hf; rcases hf with rfl | rfl | rfl | rfl <;> ((show PySem.W.findIn _ _ _ = _); k_is)))
    (case ho_Chain => refine' ⟨_, ?a, Z.cls_mk ?pg ?hd ?po ?sa, ?n⟩; (case a => (show PySem.W.nsIn _ _ _ = _); k_is); (case pg => k_is); (case hd => k_is); (case po => k_is); (case sa => k_is); (case n => intro f hf; simp only [List.mem_cons, List.not_mem_nil, or_false] at hf; rcases hf with rfl | rfl | rfl <;> ((show PySem.W.findIn _ _ _ = _); k_is)))
    (case d_divisor => refine' Z.DefAt.mk' KX G ?a ?l ?c ?k (fun _ _ _ _ _ _ us hl => match us, hl with | [_, _], _ => rfl); (case a => k_is); (case l => k_is); (case c => k_is); (case k => k_is))
    (case d_divisor_of => refine' Z.DefAt.mk' KX G ?a ?l ?c ?k (fun _ _ _ _ _ _ us hl => match us, hl with | [_], _ => rfl); (case a => k_is); (case l => k_is); (case c => k_is); (case k => k_is))
    (case d_made => refine' Z.DefAt.mk' KX G ?a ?l ?c ?k (fun _ _ _ _ _ _ us hl => match us, hl with | [_, _], _ => rfl); (case a => k_is); (case l => k_is); (case c => k_is); (case k => k_is))
    (case d_added => refine' Z.DefAt.mk' KX G ?a ?l ?c ?k (fun _ _ _ _ _ _ us hl => match us, hl with | [_, _], _ => rfl); (case a => k_is); (case l => k_is); (case c => k_is); (case k => k_is))
    (case d_plain_row => refine' Z.DefAt.mk' KX G ?a ?l ?c ?k (fun _ _ _ _ _ _ us hl => match us, hl with | [_], _ => rfl); (case a => k_is); (case l => k_is); (case c => k_is); (case k => k_is))
    (case d_plain => refine' Z.DefAt.mk' KX G ?a ?l ?c ?k (fun _ _ _ _ _ _ us hl => match us, hl with | [_], _ => rfl); (case a => k_is); (case l => k_is); (case c => k_is); (case k => k_is))
    (case d_size => refine' Z.DefAt.mk' KX G ?a ?l ?c ?k (fun _ _ _ _ _ _ us hl => match us, hl with | [_], _ => rfl); (case a => k_is); (case l => k_is); (case c => k_is); (case k => k_is))
    (case d_product => refine' Z.DefAt.mk' KX G ?a ?l ?c ?k (fun _ _ _ _ _ _ us hl => match us, hl with | [_, _], _ => rfl); (case a => k_is); (case l => k_is); (case c => k_is); (case k => k_is))
    (case d_then => refine' Z.DefAt.mk' KX G ?a ?l ?c ?k (fun _ _ _ _ _ _ us hl => match us, hl with | [_, _], _ => rfl); (case a => k_is); (case l => k_is); (case c => k_is); (case k => k_is))
    (case d_rows_of => refine' Z.DefAt.mk' KX G ?a ?l ?c ?k (fun _ _ _ _ _ _ us hl => match us, hl with | [_], _ => rfl); (case a => k_is); (case l => k_is); (case c => k_is); (case k => k_is))
    (case d_turned => refine' Z.DefAt.mk' KX G ?a ?l ?c ?k (fun _ _ _ _ _ _ us hl => match us, hl with | [_, _], _ => rfl); (case a => k_is); (case l => k_is); (case c => k_is); (case k => k_is))
    (case d_is_name => refine' Z.DefAt.mk' KX G ?a ?l ?c ?k (fun _ _ _ _ _ _ us hl => match us, hl with | [_], _ => rfl); (case a => k_is); (case l => k_is); (case c => k_is); (case k => k_is))
    (case d_plain_setting => refine' Z.DefAt.mk' KX G ?a ?l ?c ?k (fun _ _ _ _ _ _ us hl => match us, hl with | [_, _], _ => rfl); (case a => k_is); (case l => k_is); (case c => k_is); (case k => k_is))
    (case d_about => refine' Z.DefAt.mk' KX G ?a ?l ?c ?k (fun _ _ _ _ _ _ us hl => match us, hl with | [_, _], _ => rfl); (case a => k_is); (case l => k_is); (case c => k_is); (case k => k_is))
    (case d_put_on => refine' Z.DefAt.mk' KX G ?a ?l ?c ?k (fun _ _ _ _ _ _ us hl => match us, hl with | [_, _], _ => rfl); (case a => k_is); (case l => k_is); (case c => k_is); (case k => k_is))
    (case d_l_mixed => refine' Z.DefAt.mk' KX G ?a ?l ?c ?k (fun _ _ _ _ _ _ us hl => match us, hl with | [_, _], _ => rfl); (case a => k_is); (case l => k_is); (case c => k_is); (case k => k_is))
    (case d_l_purse => refine' Z.DefAt.mk' KX G ?a ?l ?c ?k (fun _ _ _ _ _ _ us hl => match us, hl with | [_], _ => rfl); (case a => k_is); (case l => k_is); (case c => k_is); (case k => k_is))
    (case d_l_draw => refine' Z.DefAt.mk' KX G ?a ?l ?c ?k (fun _ _ _ _ _ _ us hl => match us, hl with | [_, _], _ => rfl); (case a => k_is); (case l => k_is); (case c => k_is); (case k => k_is))
    (case d_l_number => refine' Z.DefAt.mk' KX G ?a ?l ?c ?k (fun _ _ _ _ _ _ us hl => match us, hl with | [_], _ => rfl); (case a => k_is); (case l => k_is); (case c => k_is); (case k => k_is))
    (case d_l_row => refine' Z.DefAt.mk' KX G ?a ?l ?c ?k (fun _ _ _ _ _ _ us hl => match us, hl with | [_, _], _ => rfl); (case a => k_is); (case l => k_is); (case c => k_is); (case k => k_is))
    (case d_l_divisor => refine' Z.DefAt.mk' KX G ?a ?l ?c ?k (fun _ _ _ _ _ _ us hl => match us, hl with | [_, _], _ => rfl); (case a => k_is); (case l => k_is); (case c => k_is); (case k => k_is))
    (case d_l_lowest => refine' Z.DefAt.mk' KX G ?a ?l ?c ?k (fun _ _ _ _ _ _ us hl => match us, hl with | [_, _], _ => rfl); (case a => k_is); (case l => k_is); (case c => k_is); (case k => k_is))
    (case d_l_point => refine' Z.DefAt.mk' KX G ?a ?l ?c ?k (fun _ _ _ _ _ _ us hl => match us, hl with | [_], _ => rfl); (case a => k_is); (case l => k_is); (case c => k_is); (case k => k_is))
    (case d_l_names => refine' Z.DefAt.mk' KX G ?a ?l ?c ?k (fun _ _ _ _ _ _ us hl => match us, hl with | [_], _ => rfl); (case a => k_is); (case l => k_is); (case c => k_is); (case k => k_is))
    (case d_l_body_deed => refine' Z.DefAt.mk' KX G ?a ?l ?c ?k (fun _ _ _ _ _ _ us hl => match us, hl with | [_, _, _], _ => rfl); (case a => k_is); (case l => k_is); (case c => k_is); (case k => k_is))
    (case d_l_chain_deed => refine' Z.DefAt.mk' KX G ?a ?l ?c ?k (fun _ _ _ _ _ _ us hl => match us, hl with | [_, _], _ => rfl); (case a => k_is); (case l => k_is); (case c => k_is); (case k => k_is))
    (case d_l_body_told => refine' Z.DefAt.mk' KX G ?a ?l ?c ?k (fun _ _ _ _ _ _ us hl => match us, hl with | [_], _ => rfl); (case a => k_is); (case l => k_is); (case c => k_is); (case k => k_is))
    (case d_l_chain_told => refine' Z.DefAt.mk' KX G ?a ?l ?c ?k (fun _ _ _ _ _ _ us hl => match us, hl with | [_], _ => rfl); (case a => k_is); (case l => k_is); (case c => k_is); (case k => k_is))
    (case d_l_no_deed_Body => refine' Z.DefAt.mk' KX G ?a ?l ?c ?k (fun _ _ _ _ _ _ us hl => match us, hl with | [_, _], _ => rfl); (case a => k_is); (case l => k_is); (case c => k_is); (case k => k_is))
    (case d_l_no_deed_Chain => refine' Z.DefAt.mk' KX G ?a ?l ?c ?k (fun _ _ _ _ _ _ us hl => match us, hl with | [_, _], _ => rfl); (case a => k_is); (case l => k_is); (case c => k_is); (case k => k_is))
    (case d_l_held_Body => refine' Z.DefAt.mk' KX G ?a ?l ?c ?k (fun _ _ _ _ _ _ us hl => match us, hl with | [_, _, _, _], _ => rfl); (case a => k_is); (case l => k_is); (case c => k_is); (case k => k_is))
    (case d_l_held_Chain => refine' Z.DefAt.mk' KX G ?a ?l ?c ?k (fun _ _ _ _ _ _ us hl => match us, hl with | [_, _, _, _], _ => rfl); (case a => k_is); (case l => k_is); (case c => k_is); (case k => k_is))
    (case d_Body___init__ => refine' Z.InitAt.mk' KX G ?z ?m ?kc ?a ?i ?l ?c ?k (fun _ _ _ _ _ _ us hl => match us, hl with | [_], _ => rfl); (case z => k_is); (case m => k_is); (case kc => k_is); (case a => k_is); (case i => k_is); (case l => k_is); (case c => k_is); (case k => k_is))
    (case d_Body_come_to => refine' Z.MethAt.mk' ?z (Z.cls_mk ?pg ?hd ?po ?sa) ?a ?i ?l ?c ?k (fun _ _ _ _ _ _ us hl => match us, hl with | [_, _, _], _ => rfl); (case z => k_is); (case pg => k_is); (case hd => k_is); (case po => k_is); (case sa => k_is); (case a => k_is); (case i => k_is); (case l => k_is); (case c => k_is); (case k => k_is))
    (case d_Body_room => refine' Z.MethAt.mk' ?z (Z.cls_mk ?pg ?hd ?po ?sa) ?a ?i ?l ?c ?k (fun _ _ _ _ _ _ us hl => match us, hl with | [_, _], _ => rfl); (case z => k_is); (case pg => k_is); (case hd => k_is); (case po => k_is); (case sa => k_is); (case a => k_is); (case i => k_is); (case l => k_is); (case c => k_is); (case k => k_is))
    (case d_Body_own => refine' Z.MethAt.mk' ?z (Z.cls_mk ?pg ?hd ?po ?sa) ?a ?i ?l ?c ?k (fun _ _ _ _ _ _ us hl => match us, hl with | [_, _], _ => rfl); (case z => k_is); (case pg => k_is); (case hd => k_is); (case po => k_is); (case sa => k_is); (case a => k_is); (case i => k_is); (case l => k_is); (case c => k_is); (case k => k_is))
    (case d_Body_mark => refine' Z.MethAt.mk' ?z (Z.cls_mk ?pg ?hd ?po ?sa) ?a ?i ?l ?c ?k (fun _ _ _ _ _ _ us hl => match us, hl with | [_, _], _ => rfl); (case z => k_is); (case pg => k_is); (case hd => k_is); (case po => k_is); (case sa => k_is); (case a => k_is); (case i => k_is); (case l => k_is); (case c => k_is); (case k => k_is))
    (case d_Body_marked => refine' Z.MethAt.mk' ?z (Z.cls_mk ?pg ?hd ?po ?sa) ?a ?i ?l ?c ?k (fun _ _ _ _ _ _ us hl => match us, hl with | [_, _], _ => rfl); (case z => k_is); (case pg => k_is); (case hd => k_is); (case po => k_is); (case sa => k_is); (case a => k_is); (case i => k_is); (case l => k_is); (case c => k_is); (case k => k_is))
    (case d_Body_to => refine' Z.MethAt.mk' ?z (Z.cls_mk ?pg ?hd ?po ?sa) ?a ?i ?l ?c ?k (fun _ _ _ _ _ _ us hl => match us, hl with | [_, _], _ => rfl); (case z => k_is); (case pg => k_is); (case hd => k_is); (case po => k_is); (case sa => k_is); (case a => k_is); (case i => k_is); (case l => k_is); (case c => k_is); (case k => k_is))
    (case d_Body_stand => refine' Z.MethAt.mk' ?z (Z.cls_mk ?pg ?hd ?po ?sa) ?a ?i ?l ?c ?k (fun _ _ _ _ _ _ us hl => match us, hl with | [_], _ => rfl); (case z => k_is); (case pg => k_is); (case hd => k_is); (case po => k_is); (case sa => k_is); (case a => k_is); (case i => k_is); (case l => k_is); (case c => k_is); (case k => k_is))
    (case d_Body_marks => refine' Z.MethAt.mk' ?z (Z.cls_mk ?pg ?hd ?po ?sa) ?a ?i ?l ?c ?k (fun _ _ _ _ _ _ us hl => match us, hl with | [_], _ => rfl); (case z => k_is); (case pg => k_is); (case hd => k_is); (case po => k_is); (case sa => k_is); (case a => k_is); (case i => k_is); (case l => k_is); (case c => k_is); (case k => k_is))
    (case d_Body_path => refine' Z.MethAt.mk' ?z (Z.cls_mk ?pg ?hd ?po ?sa) ?a ?i ?l ?c ?k (fun _ _ _ _ _ _ us hl => match us, hl with | [_], _ => rfl); (case z => k_is); (case pg => k_is); (case hd => k_is); (case po => k_is); (case sa => k_is); (case a => k_is); (case i => k_is); (case l => k_is); (case c => k_is); (case k => k_is))
    (case d_Body_back => refine' Z.MethAt.mk' ?z (Z.cls_mk ?pg ?hd ?po ?sa) ?a ?i ?l ?c ?k (fun _ _ _ _ _ _ us hl => match us, hl with | [_], _ => rfl); (case z => k_is); (case pg => k_is); (case hd => k_is); (case po => k_is); (case sa => k_is); (case a => k_is); (case i => k_is); (case l => k_is); (case c => k_is); (case k => k_is))
    (case d_Body_again => refine' Z.MethAt.mk' ?z (Z.cls_mk ?pg ?hd ?po ?sa) ?a ?i ?l ?c ?k (fun _ _ _ _ _ _ us hl => match us, hl with | [_], _ => rfl); (case z => k_is); (case pg => k_is); (case hd => k_is); (case po => k_is); (case sa => k_is); (case a => k_is); (case i => k_is); (case l => k_is); (case c => k_is); (case k => k_is))
    (case d_Body_twin => refine' Z.MethAt.mk' ?z (Z.cls_mk ?pg ?hd ?po ?sa) ?a ?i ?l ?c ?k (fun _ _ _ _ _ _ us hl => match us, hl with | [_], _ => rfl); (case z => k_is); (case pg => k_is); (case hd => k_is); (case po => k_is); (case sa => k_is); (case a => k_is); (case i => k_is); (case l => k_is); (case c => k_is); (case k => k_is))
    (case d_Chain___init__ => refine' Z.InitAt.mk' KX G ?z ?m ?kc ?a ?i ?l ?c ?k (fun _ _ _ _ _ _ us hl => match us, hl with | [_], _ => rfl); (case z => k_is); (case m => k_is); (case kc => k_is); (case a => k_is); (case i => k_is); (case l => k_is); (case c => k_is); (case k => k_is))
    (case d_Chain_come_to => refine' Z.MethAt.mk' ?z (Z.cls_mk ?pg ?hd ?po ?sa) ?a ?i ?l ?c ?k (fun _ _ _ _ _ _ us hl => match us, hl with | [_, _], _ => rfl); (case z => k_is); (case pg => k_is); (case hd => k_is); (case po => k_is); (case sa => k_is); (case a => k_is); (case i => k_is); (case l => k_is); (case c => k_is); (case k => k_is))
    (case d_Chain_look_at => refine' Z.MethAt.mk' ?z (Z.cls_mk ?pg ?hd ?po ?sa) ?a ?i ?l ?c ?k (fun _ _ _ _ _ _ us hl => match us, hl with | [_, _], _ => rfl); (case z => k_is); (case pg => k_is); (case hd => k_is); (case po => k_is); (case sa => k_is); (case a => k_is); (case i => k_is); (case l => k_is); (case c => k_is); (case k => k_is))
    (case d_Chain_add => refine' Z.MethAt.mk' ?z (Z.cls_mk ?pg ?hd ?po ?sa) ?a ?i ?l ?c ?k (fun _ _ _ _ _ _ us hl => match us, hl with | [_, _, _, _], _ => rfl); (case z => k_is); (case pg => k_is); (case hd => k_is); (case po => k_is); (case sa => k_is); (case a => k_is); (case i => k_is); (case l => k_is); (case c => k_is); (case k => k_is))
    (case d_Chain_off => refine' Z.MethAt.mk' ?z (Z.cls_mk ?pg ?hd ?po ?sa) ?a ?i ?l ?c ?k (fun _ _ _ _ _ _ us hl => match us, hl with | [_], _ => rfl); (case z => k_is); (case pg => k_is); (case hd => k_is); (case po => k_is); (case sa => k_is); (case a => k_is); (case i => k_is); (case l => k_is); (case c => k_is); (case k => k_is))
    (case d_Chain_bend => refine' Z.MethAt.mk' ?z (Z.cls_mk ?pg ?hd ?po ?sa) ?a ?i ?l ?c ?k (fun _ _ _ _ _ _ us hl => match us, hl with | [_, _, _], _ => rfl); (case z => k_is); (case pg => k_is); (case hd => k_is); (case po => k_is); (case sa => k_is); (case a => k_is); (case i => k_is); (case l => k_is); (case c => k_is); (case k => k_is))
    (case d_Chain_frames => refine' Z.MethAt.mk' ?z (Z.cls_mk ?pg ?hd ?po ?sa) ?a ?i ?l ?c ?k (fun _ _ _ _ _ _ us hl => match us, hl with | [_, _], _ => rfl); (case z => k_is); (case pg => k_is); (case hd => k_is); (case po => k_is); (case sa => k_is); (case a => k_is); (case i => k_is); (case l => k_is); (case c => k_is); (case k => k_is))
    (case d_Chain_joints => refine' Z.MethAt.mk' ?z (Z.cls_mk ?pg ?hd ?po ?sa) ?a ?i ?l ?c ?k (fun _ _ _ _ _ _ us hl => match us, hl with | [_], _ => rfl); (case z => k_is); (case pg => k_is); (case hd => k_is); (case po => k_is); (case sa => k_is); (case a => k_is); (case i => k_is); (case l => k_is); (case c => k_is); (case k => k_is))
    (case d_Chain_stands => refine' Z.MethAt.mk' ?z (Z.cls_mk ?pg ?hd ?po ?sa) ?a ?i ?l ?c ?k (fun _ _ _ _ _ _ us hl => match us, hl with | [_], _ => rfl); (case z => k_is); (case pg => k_is); (case hd => k_is); (case po => k_is); (case sa => k_is); (case a => k_is); (case i => k_is); (case l => k_is); (case c => k_is); (case k => k_is))
    (case d_Chain_places => refine' Z.MethAt.mk' ?z (Z.cls_mk ?pg ?hd ?po ?sa) ?a ?i ?l ?c ?k (fun _ _ _ _ _ _ us hl => match us, hl with | [_], _ => rfl); (case z => k_is); (case pg => k_is); (case hd => k_is); (case po => k_is); (case sa => k_is); (case a => k_is); (case i => k_is); (case l => k_is); (case c => k_is); (case k => k_is))
    (case d_Chain_tip => refine' Z.MethAt.mk' ?z (Z.cls_mk ?pg ?hd ?po ?sa) ?a ?i ?l ?c ?k (fun _ _ _ _ _ _ us hl => match us, hl with | [_], _ => rfl); (case z => k_is); (case pg => k_is); (case hd => k_is); (case po => k_is); (case sa => k_is); (case a => k_is); (case i => k_is); (case l => k_is); (case c => k_is); (case k => k_is))
    (case d_Chain_back => refine' Z.MethAt.mk' ?z (Z.cls_mk ?pg ?hd ?po ?sa) ?a ?i ?l ?c ?k (fun _ _ _ _ _ _ us hl => match us, hl with | [_], _ => rfl); (case z => k_is); (case pg => k_is); (case hd => k_is); (case po => k_is); (case sa => k_is); (case a => k_is); (case i => k_is); (case l => k_is); (case c => k_is); (case k => k_is))
    (case d_Chain_again => refine' Z.MethAt.mk' ?z (Z.cls_mk ?pg ?hd ?po ?sa) ?a ?i ?l ?c ?k (fun _ _ _ _ _ _ us hl => match us, hl with | [_], _ => rfl); (case z => k_is); (case pg => k_is); (case hd => k_is); (case po => k_is); (case sa => k_is); (case a => k_is); (case i => k_is); (case l => k_is); (case c => k_is); (case k => k_is))
    (case d_Chain_twin => refine' Z.MethAt.mk' ?z (Z.cls_mk ?pg ?hd ?po ?sa) ?a ?i ?l ?c ?k (fun _ _ _ _ _ _ us hl => match us, hl with | [_], _ => rfl); (case z => k_is); (case pg => k_is); (case hd => k_is); (case po => k_is); (case sa => k_is); (case a => k_is); (case i => k_is); (case l => k_is); (case c => k_is); (case k => k_is))
    (case hb_abs => exact PySem.W.mg_none_of KX G (by k_is))
    (case hb_len => exact PySem.W.mg_none_of KX G (by k_is))
    (case hb_list => exact PySem.W.mg_none_of KX G (by k_is))
    (case hb_range => exact PySem.W.mg_none_of KX G (by k_is))
    (case hb_sorted => exact PySem.W.mg_none_of KX G (by k_is))
    (case hb_sum => exact PySem.W.mg_none_of KX G (by k_is))
    (case hb_tuple => exact PySem.W.mg_none_of KX G (by k_is))
    (case hb_zip => exact PySem.W.mg_none_of KX G (by k_is))
    (case hc_LETTERS => refine' Z.ConAt.str KX G ?e; (case e => k_is))
    (case hc_LONGEST => refine' Z.ConAt.int KX G ?e; (case e => k_is))
    (case hc_MIDDLE => refine' Z.ConAt.rows (nss := [[0, 1], [0, 1], [0, 1]]) KX G ?e ?l ?z ?v; (case e => k_is); (case l => k_is); (case z => rw [sizeLine_eq]; decide); (case v => refine' .cons ?t0 (.cons ?t1 (.cons ?t2 (.nil))); (case t0 => refine' Z.TupI.mk ?l ?z ?v; (case l => k_is); (case z => rw [sizeLine_eq]; decide); (case v => exact .cons ⟨_, rfl⟩ (.cons ⟨_, rfl⟩ (.nil)))); (case t1 => refine' Z.TupI.mk ?l ?z ?v; (case l => k_is); (case z => rw [sizeLine_eq]; decide); (case v => exact .cons ⟨_, rfl⟩ (.cons ⟨_, rfl⟩ (.nil)))); (case t2 => refine' Z.TupI.mk ?l ?z ?v; (case l => k_is); (case z => rw [sizeLine_eq]; decide); (case v => exact .cons ⟨_, rfl⟩ (.cons ⟨_, rfl⟩ (.nil))))))
    (case hc_MOST => refine' Z.ConAt.int KX G ?e; (case e => k_is))
    (case hc_STILL => refine' Z.ConAt.ints (ns := [1, 0, 0, 0]) KX G ?e ?l ?z ?v; (case e => k_is); (case l => k_is); (case z => rw [sizeLine_eq]; decide); (case v => exact .cons ⟨_, rfl⟩ (.cons ⟨_, rfl⟩ (.cons ⟨_, rfl⟩ (.cons ⟨_, rfl⟩ (.nil))))))
