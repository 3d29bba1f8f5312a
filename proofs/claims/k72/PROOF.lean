import PyProof.Rows.All
import Wide.All
import OpenK.AllK
import Wide.FinOn
import HandS.ForMost
import HandS.Wide
import HandS.WideBits
import HandS.EndBits
import HandS.IsInst
import HandS.TupAny
import HandS.TupMul
import HandS.Conv
import HandS.Walk
import HandS.Zip
import HandS.Flow
import HandS.Exc
import HandS.ExcOwn
import HandS.ExcIs
import HandS.WordsExc
import HandS.Lambda
import KE.DataEq
import KE.KDictKeyed
import HandS.NoneIn
import HandS.Rev
import HandS.Replace
import PyProof.Draws
import PyProof.StrWalks
import HandS.Text
import KE.KDictDisplayH
import KE.SortKeyed
import KE.DataCmp
import KE.DataMinMax
import HandS.Style
import HandS.ExcValue
import HandS.TupLen
import KE.SortData
import KE.KDictCopyH
import KE.KDictSum
import HandS.SetFor
import HandS.DictTup
import PyProof.Rows.SeqGen
import HandS.ExcBuiltin
import HandS.Codes
import PyProof.StrBlock2
import HandS.SortKw
import KE.SortKeyHeap
import HandS.EndTab
import HandS.Flt
import PySem.Challenge.RW_hangrings_k72_points_of_several_turns
set_option compiler.extract_closed false
set_option Elab.async false
set_option linter.all false
set_option maxRecDepth 100000
/-! Z1: data as trees, lists in a store by number; what it is to be represented over the hand layer's heap. -/
namespace Z
open PySem PySem.Spec PyProof.Rows L2
/-- data: never changes -/
inductive D where
  | non | bl (b : Bool) | int (i : Int) | str (x : Str) | tup (xs : List D) | lst (xs : List D)
/-- a value: data; a list of the store; a list that nobody writes; a tuple of values -/
inductive R where
  | d (x : D) | loc (n : Nat) | ro (xs : List D) | tr (xs : List R) | ex (x : Str)
  /-- a thing at a known place -/
  | ad (a : Addr)
/-- what stands in the store -/
inductive O where
  | lst (xs : List D)
  /-- a dict whose keys are tuples (of ints, None and such tuples); how often it was written -/
  | dct (ep : Nat) (kvs : List (D × D))
  /-- a dict whose keys are ints and texts -/
  | dk (kvs : List (Key × D))
  /-- a list at a known place, of any values -/
  | la (a : Addr) (xs : List R)
  /-- a dict at a known place, of ints and texts -/
  | da (a : Addr) (kvs : List (Key × R))
  /-- an instance of an own class at a known place -/
  | ob (a : Addr) (C : Str) (fs : List (Str × R))
abbrev Rho := List (Option R)
abbrev Sto := List O
/-- a caught exception of the class at C, kept at a -/
def XO (C : Addr) (a : Addr) : HO := .ext fun h => ∃ (oe : Obj), h.get? a = some oe ∧ Zc (.ref C) none oe ∧ ∃ vs, oe.data = .fields vs
/-- the dict at a, its entries -/
def DX (a : Addr) (ep : Nat) (es : List DictEntry) : HO := .ext fun h => ∃ (o : Obj), h.get? a = some o ∧ o.ExactDict ∧ o.data = .dict es.toArray ep
mutual
/-- data as a key -/
def keyN : D → Option NestedKey
  | .non => some .none
  | .int i => some (.num i)
  | .tup xs => match keysN xs with
    | some ks => some (.tup ks)
    | none => none
  | _ => none
def keysN : List D → Option (List NestedKey)
  | [] => some []
  | x :: xs => match keyN x, keysN xs with
    | some k, some ks => some (k :: ks)
    | _, _ => none
end
section
variable (K : PySem.W.Frag)
/-- a list that stays as it is -/
def Fz (H : Hp) (a : Addr) (vs : List V) : Prop :=
  (∃ o, H a = some (.frz o (.lst vs))) ∨
    ∃ (o : Obj) (its : Array Value) (n : Nat), K.lookup a = some o ∧ o.cls = .type "list" ∧ o.dict = none ∧ o.data = .seq its n ∧ its.size ≤ sizeLine ∧ Vals vs its.toList
mutual
def RepD (H : Hp) : D → V → Prop
  | .non, v => v = .non
  | .bl b, v => v = .bl b
  | .int i, v => v = .int i
  | .str x, v => v = .str x
  | .tup xs, v => ∃ a vs, v = .ref a ∧ SqT K H a vs ∧ RepDs H xs vs
  | .lst xs, v => ∃ a vs, v = .ref a ∧ Fz K H a vs ∧ RepDs H xs vs
def RepDs (H : Hp) : List D → List V → Prop
  | [], vs => vs = []
  | x :: xs, vs => ∃ v r, vs = v :: r ∧ RepD H x v ∧ RepDs H xs r
end
mutual
def RepR (m : List Addr) (H : Hp) : R → V → Prop
  | .d x, v => RepD K H x v
  | .loc n, v => ∃ a, m[n]? = some a ∧ v = .ref a
  | .ro xs, v => ∃ a vs, v = .ref a ∧ Fz K H a vs ∧ RepDs K H xs vs
  | .tr xs, v => ∃ a vs, v = .ref a ∧ SqT K H a vs ∧ RepRs m H xs vs
  | .ex x, v => ∃ a C, v = .ref a ∧ PySem.W.nsIn K mainGlobals x = some (some (.ref C)) ∧ H a = some (XO C a)
  | .ad a, v => v = .ref a
def RepRs (m : List Addr) (H : Hp) : List R → List V → Prop
  | [], vs => vs = []
  | x :: xs, vs => ∃ v r, vs = v :: r ∧ RepR m H x v ∧ RepRs m H xs r
end
def RepEn (H : Hp) (p : D × D) (e : DictEntry) : Prop := ∃ (b : Addr) (k : NestedKey), e.key = .ref b ∧ keyN p.1 = some k ∧ k.depth ≤ 8 ∧ (∀ w, e.hash = k.hash w) ∧ RepD K H p.1 (.ref b) ∧ ∃ v, RelV v e.val ∧ RepD K H p.2 v
def RepO (H : Hp) (a : Addr) : O → Prop
  | .lst xs => ∃ vs, H a = some (.lst vs) ∧ RepDs K H xs vs
  | .dct ep kvs => ∃ es, H a = some (DX a ep es) ∧ (a == sysModules) = false ∧ kvs.length ≤ sizeLine ∧ Paired (RepEn K H) kvs es ∧ (kvs.map fun p => keyN p.1).Nodup
  | .dk kvs => ∃ ks : List (Key × V), H a = some (.dK ks) ∧ Paired (fun (p : Key × D) (q : Key × V) => q.1 = p.1 ∧ RepD K H p.2 q.2) kvs ks
  | .la b xs => b = a ∧ ∃ vs, H a = some (.lst vs) ∧ RepRs K [] H xs vs
  | .da b kvs => b = a ∧ ∃ ks : List (Key × V), H a = some (.dK ks) ∧ Paired (fun (p : Key × R) (q : Key × V) => q.1 = p.1 ∧ RepR K [] H p.2 q.2) kvs ks
  | .ob b C fs => b = a ∧ ∃ (Ca dx : Addr) (vs : List (Str × V)), PySem.W.nsIn K mainGlobals C = some (some (.ref Ca)) ∧ H a = some (.ins Ca dx vs) ∧ Paired (fun (p : Str × R) (q : Str × V) => q.1 = p.1 ∧ RepR K [] H p.2 q.2) fs vs
def lamQ : Str := "gathered.<locals>.<lambda>"
/-- the table of the code of the def gathered -/
def LamTab (P : Addr) : Prop := ∃ (f c : Addr) (oc : Obj) (fd : FuncData), PySem.W.nsIn K mainGlobals ("gathered" : Str) = some (some (.ref f)) ∧ K.lookup f = some oc ∧ oc.data = .func fd ∧ fd.code = .ref c ∧ PySem.W.codeHdIn K c P = true
structure RepS (m : List Addr) (H : Hp) (S : Sto) : Prop where
  nd : m.Nodup
  len : m.length = S.length
  at_ : ∀ (n : Nat) (o : O), S[n]? = some o → ∃ a, m[n]? = some a ∧ RepO K H a o
  tab : ∀ P, LamTab K P → LamX.TabS H P lamQ
structure RepE (m : List Addr) (H : Hp) (r : Rho) (s : L2.St) : Prop where
  len : s.length = r.length
  at_ : ∀ (i : Nat) (x : R), r[i]? = some (some x) → ∃ v, s[i]? = some (some v) ∧ RepR K m H x v
end
/-- tables of code objects stay such -/
structure TbK (H H' : Hp) : Prop where
  tab : ∀ P, LamX.TabS H P lamQ → LamX.TabS H' P lamQ
  tbl : ∀ b ps, H b = some (.tbl ps) → ∃ ps', H' b = some (.tbl ps')
theorem TbK.refl {H : Hp} : TbK H H := ⟨fun _ h => h, fun _ ps h => ⟨ps, h⟩⟩
theorem TbK.trans {H H1 H2 : Hp} (a : TbK H H1) (b : TbK H1 H2) : TbK H H2 := ⟨fun P h => b.tab P (a.tab P h), fun c ps h => by
  obtain ⟨p1, h1⟩ := a.tbl c ps h
  exact b.tbl c p1 h1⟩
theorem TbK.ext {H H1 : Hp} (h : ∀ b o, H b = some o → H1 b = some o) : TbK H H1 := ⟨fun _ t => t.ext h, fun b ps e => ⟨ps, h b _ e⟩⟩
theorem TbK.none {H : Hp} {p : Addr} {o : HO} (h : H p = none) : TbK H (upd H p o) := TbK.ext fun b u e => by rw [upd_ne (ne_of_none e h)]; exact e
theorem TbK.write {H : Hp} {p : Addr} {u u' : HO} (e : H p = some u) (h1 : ∀ ps, u ≠ .tbl ps) (h2 : ∀ q, u ≠ LamX.CodeO p q) : TbK H (upd H p u') := by
  have n1 : ∀ b ps, H b = some (.tbl ps) → b ≠ p := fun b ps h q => by subst q; rw [e] at h; exact h1 ps (Option.some.inj h)
  refine ⟨fun P ⟨ps, a1, a2, a3⟩ => ⟨ps, by rw [upd_ne (n1 P ps a1)]; exact a1, a2, fun pos cv hc => ?_⟩, fun b ps h => ⟨ps, by rw [upd_ne (n1 b ps h)]; exact h⟩⟩
  obtain ⟨c, e1, e2⟩ := a3 pos cv hc
  refine ⟨c, e1, ?_⟩
  rw [upd_ne fun z => by subst z; rw [e] at e2; exact h2 _ (Option.some.inj e2)]
  exact e2
structure Grow (m : List Addr) (H : Hp) (m' : List Addr) (H' : Hp) : Prop where
  pre : ∀ (n : Nat) a, m[n]? = some a → m'[n]? = some a
  tup : ∀ b xs, H b = some (.tup xs) → H' b = some (.tup xs)
  frz : ∀ b o u, H b = some (.frz o u) → H' b = some (.frz o u)
  xt : ∀ b C, H b = some (XO C b) → H' b = some (XO C b)
  frame : ∀ b o, H b = some o → b ∉ m → (∀ ps, o ≠ .tbl ps) → H' b = some o
  new : ∀ b, b ∈ m' → b ∉ m → H b = none
  tb : TbK H H'
section
variable {K : PySem.W.Frag} {m m1 m2 : List Addr} {H H1 H2 : Hp} {S S1 : Sto} {a b p : Addr} {o : HO}
theorem Grow.refl : Grow m H m H := ⟨fun _ _ h => h, fun _ _ h => h, fun _ _ _ h => h, fun _ _ h => h, fun _ _ h _ _ => h, fun _ h n => absurd h n, TbK.refl⟩
theorem mem_of_pre (h : ∀ (n : Nat) a, m[n]? = some a → m1[n]? = some a) : ∀ a, a ∈ m → a ∈ m1 := fun a ha => by
  obtain ⟨n, hn⟩ := List.getElem?_of_mem ha
  exact List.mem_of_getElem? (h n a hn)
theorem Grow.trans (g : Grow m H m1 H1) (k : Grow m1 H1 m2 H2) : Grow m H m2 H2 := by
  refine ⟨fun n a h => k.pre n a (g.pre n a h), fun b xs h => k.tup b xs (g.tup b xs h), fun b o u h => k.frz b o u (g.frz b o u h), fun b o h => k.xt b o (g.xt b o h), fun b o h hb hn => ?_, fun b hb hm => ?_, g.tb.trans k.tb⟩
  · refine k.frame b o (g.frame b o h hb hn) (fun hm => ?_) hn
    rw [g.new b hm hb] at h; cases h
  · by_cases h1 : b ∈ m1
    · exact g.new b h1 hm
    · cases e : H b with
      | none => rfl
      | some o =>
        by_cases z : ∃ ps, o = .tbl ps
        · obtain ⟨ps, rfl⟩ := z
          obtain ⟨ps', q⟩ := g.tb.tbl b ps e
          rw [k.new b hb h1] at q; cases q
        · have q := g.frame b o e hm (fun ps w => z ⟨ps, w⟩); rw [k.new b hb h1] at q; cases q
theorem rd_tup (g : Grow m H m1 H1) {xs : List V} (h : SqT K H a xs) : SqT K H1 a xs := by
  rcases h with (h | ⟨o, h⟩) | h
  · exact .inl (.inl (g.tup _ _ h))
  · exact .inl (.inr ⟨o, g.frz _ _ _ h⟩)
  · exact .inr h
theorem Fz.grow (g : Grow m H m1 H1) {xs : List V} (h : Fz K H a xs) : Fz K H1 a xs := by
  rcases h with ⟨o, h⟩ | h
  · exact .inl ⟨o, g.frz _ _ _ h⟩
  · exact .inr h
theorem Fz.sq {xs : List V} (h : Fz K H a xs) : SqL K H a xs := by
  rcases h with ⟨o, h⟩ | h
  · exact .inl (.inr ⟨o, h⟩)
  · exact .inr h
mutual
theorem RepD.grow (g : Grow m H m1 H1) : ∀ (x : D) (v : V), RepD K H x v → RepD K H1 x v
  | .non, _, h => h
  | .bl _, _, h => h
  | .int _, _, h => h
  | .str _, _, h => h
  | .tup xs, _, ⟨a, vs, e, h, r⟩ => ⟨a, vs, e, rd_tup g h, RepDs.grow g xs vs r⟩
  | .lst xs, _, ⟨a, vs, e, h, r⟩ => ⟨a, vs, e, h.grow g, RepDs.grow g xs vs r⟩
theorem RepDs.grow (g : Grow m H m1 H1) : ∀ (xs : List D) (vs : List V), RepDs K H xs vs → RepDs K H1 xs vs
  | [], _, h => h
  | x :: xs, _, ⟨v, r, e, h, t⟩ => ⟨v, r, e, RepD.grow g x v h, RepDs.grow g xs r t⟩
end
mutual
theorem RepR.grow (g : Grow m H m1 H1) : ∀ (x : R) (v : V), RepR K m H x v → RepR K m1 H1 x v
  | .d x, v, h => RepD.grow g x v h
  | .loc n, v, ⟨a, h, e⟩ => ⟨a, g.pre n a h, e⟩
  | .ro xs, v, ⟨a, vs, e, h, r⟩ => ⟨a, vs, e, h.grow g, RepDs.grow g xs vs r⟩
  | .tr xs, v, ⟨a, vs, e, h, r⟩ => ⟨a, vs, e, rd_tup g h, RepRs.grow g xs vs r⟩
  | .ex x, v, ⟨a, C, e, n, h⟩ => ⟨a, C, e, n, g.xt _ _ h⟩
  | .ad _, _, h => h
theorem RepRs.grow (g : Grow m H m1 H1) : ∀ (xs : List R) (vs : List V), RepRs K m H xs vs → RepRs K m1 H1 xs vs
  | [], _, h => h
  | x :: xs, _, ⟨v, r, e, h, t⟩ => ⟨v, r, e, RepR.grow g x v h, RepRs.grow g xs r t⟩
end
mutual
theorem RepR.conv (pre : ∀ (n : Nat) a, m[n]? = some a → m1[n]? = some a) (kd : ∀ x v, RepD K H x v → RepD K H1 x v) (kt : ∀ b xs, H b = some (.tup xs) → H1 b = some (.tup xs)) (kf : ∀ b o u, H b = some (.frz o u) → H1 b = some (.frz o u)) (kx : ∀ b C, H b = some (XO C b) → H1 b = some (XO C b)) : ∀ (x : R) (v : V), RepR K m H x v → RepR K m1 H1 x v
  | .d x, v, h => kd x v h
  | .loc n, v, ⟨a, h, e⟩ => ⟨a, pre n a h, e⟩
  | .ro xs, v, ⟨a, vs, e, h, r⟩ => by
    obtain ⟨a2, vs2, e2, h2, r2⟩ := kd (.lst xs) v ⟨a, vs, e, h, r⟩
    exact ⟨a2, vs2, e2, h2, r2⟩
  | .tr xs, v, ⟨a, vs, e, h, r⟩ => ⟨a, vs, e, (by
    rcases h with (h | ⟨o, h⟩) | h
    · exact .inl (.inl (kt _ _ h))
    · exact .inl (.inr ⟨o, kf _ _ _ h⟩)
    · exact .inr h), RepRs.conv pre kd kt kf kx xs vs r⟩
  | .ex x, v, ⟨a, C, e, n, h⟩ => ⟨a, C, e, n, kx _ _ h⟩
  | .ad _, _, h => h
theorem RepRs.conv (pre : ∀ (n : Nat) a, m[n]? = some a → m1[n]? = some a) (kd : ∀ x v, RepD K H x v → RepD K H1 x v) (kt : ∀ b xs, H b = some (.tup xs) → H1 b = some (.tup xs)) (kf : ∀ b o u, H b = some (.frz o u) → H1 b = some (.frz o u)) (kx : ∀ b C, H b = some (XO C b) → H1 b = some (XO C b)) : ∀ (xs : List R) (vs : List V), RepRs K m H xs vs → RepRs K m1 H1 xs vs
  | [], _, h => h
  | x :: xs, _, ⟨v, r, e, h, t⟩ => ⟨v, r, e, RepR.conv pre kd kt kf kx x v h, RepRs.conv pre kd kt kf kx xs r t⟩
end
theorem RepR.grow0 (g : Grow m H m1 H1) (x : R) (v : V) (h : RepR K [] H x v) : RepR K [] H1 x v := RepR.conv (fun _ _ h => h) (fun x v => RepD.grow g x v) g.tup g.frz g.xt x v h
theorem RepE.grow (g : Grow m H m1 H1) {r : Rho} {s : L2.St} (h : RepE K m H r s) : RepE K m1 H1 r s :=
  ⟨h.len, fun i x e => let ⟨v, e1, q⟩ := h.at_ i x e; ⟨v, e1, RepR.grow g x v q⟩⟩
theorem RepDs.len : ∀ {xs : List D} {vs : List V}, RepDs K H xs vs → vs.length = xs.length
  | [], _, h => by cases h; rfl
  | x :: xs, _, ⟨v, r, e, _, t⟩ => by subst e; simp [RepDs.len t]
theorem RepRs.len : ∀ {xs : List R} {vs : List V}, RepRs K m H xs vs → vs.length = xs.length
  | [], _, h => by cases h; rfl
  | x :: xs, _, ⟨v, r, e, _, t⟩ => by subst e; simp [RepRs.len t]
theorem RepDs.get : ∀ {xs : List D} {vs : List V} {i : Nat} {x : D}, RepDs K H xs vs → xs[i]? = some x → ∃ v, vs[i]? = some v ∧ RepD K H x v
  | [], _, _, _, _, e => by simp at e
  | x :: xs, _, 0, _, ⟨v, r, e, h, t⟩, q => by subst e; simp at q; subst q; exact ⟨v, rfl, h⟩
  | x :: xs, _, i + 1, y, ⟨v, r, e, h, t⟩, q => by
    subst e
    obtain ⟨u, h1, h2⟩ := RepDs.get (i := i) (x := y) t (by simpa using q)
    exact ⟨u, by simpa using h1, h2⟩
theorem RepRs.get : ∀ {xs : List R} {vs : List V} {i : Nat} {x : R}, RepRs K m H xs vs → xs[i]? = some x → ∃ v, vs[i]? = some v ∧ RepR K m H x v
  | [], _, _, _, _, e => by simp at e
  | x :: xs, _, 0, _, ⟨v, r, e, h, t⟩, q => by subst e; simp at q; subst q; exact ⟨v, rfl, h⟩
  | x :: xs, _, i + 1, y, ⟨v, r, e, h, t⟩, q => by
    subst e
    obtain ⟨u, h1, h2⟩ := RepRs.get (i := i) (x := y) t (by simpa using q)
    exact ⟨u, by simpa using h1, h2⟩
theorem RepDs.app : ∀ {xs ys : List D} {vs us : List V}, RepDs K H xs vs → RepDs K H ys us → RepDs K H (xs ++ ys) (vs ++ us)
  | [], _, _, _, h, k => by cases h; exact k
  | x :: xs, _, _, _, ⟨v, r, e, h, t⟩, k => by subst e; exact ⟨v, r ++ _, rfl, h, RepDs.app t k⟩
theorem RepDs.take : ∀ {xs : List D} {vs : List V} (n : Nat), RepDs K H xs vs → RepDs K H (xs.take n) (vs.take n)
  | _, _, 0, h => by simp [RepDs]
  | [], _, n + 1, h => by cases h; simp [RepDs]
  | x :: xs, _, n + 1, ⟨v, r, e, h, t⟩ => by subst e; exact ⟨v, r.take n, rfl, h, RepDs.take n t⟩
theorem RepDs.drop : ∀ {xs : List D} {vs : List V} (n : Nat), RepDs K H xs vs → RepDs K H (xs.drop n) (vs.drop n)
  | _, _, 0, h => by simpa using h
  | [], _, n + 1, h => by cases h; simp [RepDs]
  | x :: xs, _, n + 1, ⟨v, r, e, h, t⟩ => by subst e; simpa using RepDs.drop n t
theorem RepDs.set : ∀ {xs : List D} {vs : List V} {y : D} {u : V} (n : Nat), RepDs K H xs vs → RepD K H y u → RepDs K H (xs.set n y) (vs.set n u)
  | [], _, _, _, n, h, k => by cases h; simp [RepDs]
  | x :: xs, _, _, _, 0, ⟨v, r, e, h, t⟩, k => by subst e; exact ⟨_, r, rfl, k, t⟩
  | x :: xs, _, _, _, n + 1, ⟨v, r, e, h, t⟩, k => by subst e; exact ⟨v, _, rfl, h, RepDs.set n t k⟩
theorem RepDs.one {x : D} {v : V} (h : RepD K H x v) : RepDs K H [x] [v] := ⟨v, [], rfl, h, rfl⟩
theorem RepO.some {o : O} (h : RepO K H a o) : ∃ u, H a = some u := by
  cases o with
  | lst xs => obtain ⟨vs, e, _⟩ := h; exact ⟨_, e⟩
  | dct ep kvs => obtain ⟨vs, e, _⟩ := h; exact ⟨_, e⟩
  | dk kvs => obtain ⟨vs, e, _⟩ := h; exact ⟨_, e⟩
  | la b xs => obtain ⟨_, vs, e, _⟩ := h; exact ⟨_, e⟩
  | da b xs => obtain ⟨_, vs, e, _⟩ := h; exact ⟨_, e⟩
  | ob b C xs => obtain ⟨_, _, _, vs, _, e, _⟩ := h; exact ⟨_, e⟩
theorem RepO.ntbl {o : O} {u : HO} (h : RepO K H a o) (e : H a = Option.some u) : ∀ ps, u ≠ .tbl ps := fun ps z => by
  subst z
  cases o with
  | lst xs => obtain ⟨vs, e1, _⟩ := h; rw [e] at e1; cases e1
  | dct ep kvs => obtain ⟨vs, e1, _⟩ := h; rw [e] at e1; exact (nomatch (Option.some.inj e1))
  | dk kvs => obtain ⟨vs, e1, _⟩ := h; rw [e] at e1; cases e1
  | la b xs => obtain ⟨_, vs, e1, _⟩ := h; rw [e] at e1; cases e1
  | da b xs => obtain ⟨_, vs, e1, _⟩ := h; rw [e] at e1; cases e1
  | ob b C xs => obtain ⟨_, _, _, vs, _, e1, _⟩ := h; rw [e] at e1; cases e1
theorem RepS.tracked (r : RepS K m H S) (h : a ∈ m) : ∃ (n : Nat) (o : O), m[n]? = some a ∧ S[n]? = some o ∧ RepO K H a o := by
  obtain ⟨n, hn⟩ := List.getElem?_of_mem h
  have hl : n < m.length := (List.getElem?_eq_some_iff.mp hn).1
  have hs : n < S.length := by rw [← r.len]; exact hl
  obtain ⟨a', h1, h2⟩ := r.at_ n S[n] (List.getElem?_eq_getElem hs)
  rw [hn] at h1; cases h1
  exact ⟨n, _, hn, List.getElem?_eq_getElem hs, h2⟩
theorem RepS.notmem (r : RepS K m H S) (h : H p = none) : p ∉ m := fun hp => by
  obtain ⟨n, o, _, _, q⟩ := r.tracked hp
  obtain ⟨u, e⟩ := q.some
  rw [e] at h; cases h
theorem Grow.alloc (h : H p = none) : Grow m H m (upd H p o) :=
  ⟨fun _ _ e => e, fun b xs e => by rw [upd_ne (ne_of_none e h)]; exact e, fun b ob u e => by rw [upd_ne (ne_of_none e h)]; exact e, fun b u e => by rw [upd_ne (ne_of_none e h)]; exact e, fun b u e _ _ => by rw [upd_ne (ne_of_none e h)]; exact e, fun _ h n => absurd h n, TbK.none h⟩
theorem RepDs.via (f : ∀ x v, RepD K H x v → RepD K H1 x v) : ∀ (xs : List D) (vs : List V), RepDs K H xs vs → RepDs K H1 xs vs
  | [], _, h => h
  | x :: xs, _, ⟨v, r, e, h, t⟩ => ⟨v, r, e, f x v h, RepDs.via f xs r t⟩
theorem RepEn.via (f : ∀ x v, RepD K H x v → RepD K H1 x v) {p : D × D} {e : DictEntry} (h : RepEn K H p e) : RepEn K H1 p e := by
  obtain ⟨b, k, h1, h2, h3, h4, h5, v, h6, h7⟩ := h
  exact ⟨b, k, h1, h2, h3, h4, f _ _ h5, v, h6, f _ _ h7⟩
/-- what stands at an address, where all data stays -/
theorem RepRs.via (f : ∀ x v, RepR K m H x v → RepR K m1 H1 x v) : ∀ (xs : List R) (vs : List V), RepRs K m H xs vs → RepRs K m1 H1 xs vs
  | [], _, h => h
  | x :: xs, _, ⟨v, r, e, h, t⟩ => ⟨v, r, e, f x v h, RepRs.via f xs r t⟩
theorem RepO.via {o : O} (f0 : ∀ x v, RepR K [] H x v → RepR K [] H1 x v) (h : RepO K H a o) (e : H1 a = H a) : RepO K H1 a o := by
  have f : ∀ x v, RepD K H x v → RepD K H1 x v := fun x v h => f0 (.d x) v h
  cases o with
  | la b xs => obtain ⟨h0, vs, e1, r⟩ := h; exact ⟨h0, vs, by rw [e]; exact e1, RepRs.via f0 xs vs r⟩
  | da b kvs => obtain ⟨h0, ks, e1, r⟩ := h; exact ⟨h0, ks, by rw [e]; exact e1, Paired.mapP r fun _ _ z => ⟨z.1, f0 _ _ z.2⟩⟩
  | ob b C fs => obtain ⟨h0, Ca, dx, vs, n, e1, r⟩ := h; exact ⟨h0, Ca, dx, vs, n, by rw [e]; exact e1, Paired.mapP r fun _ _ z => ⟨z.1, f0 _ _ z.2⟩⟩
  | lst xs => obtain ⟨vs, e1, r⟩ := h; exact ⟨vs, by rw [e]; exact e1, RepDs.via f xs vs r⟩
  | dct ep kvs => obtain ⟨es, e1, h2, h3, r, h4⟩ := h; exact ⟨es, by rw [e]; exact e1, h2, h3, Paired.mapP r fun _ _ z => z.via f, h4⟩
  | dk kvs => obtain ⟨ks, e1, r⟩ := h; exact ⟨ks, by rw [e]; exact e1, Paired.mapP r fun _ _ z => ⟨z.1, f _ _ z.2⟩⟩
theorem RepO.grow {o : O} (g : Grow m H m1 H1) (h : RepO K H a o) (e : H1 a = H a) : RepO K H1 a o := h.via (fun x v => RepR.grow0 g x v) e
theorem RepS.alloc (r : RepS K m H S) (h : H p = none) : RepS K m (upd H p o) S :=
  ⟨r.nd, r.len, fun n ob e => by
    obtain ⟨a, h1, h2⟩ := r.at_ n ob e
    obtain ⟨u, e2⟩ := h2.some
    exact ⟨a, h1, h2.grow (Grow.alloc (m := m) h) (upd_ne (ne_of_none e2 h))⟩, fun P hP => (TbK.none h).tab P (r.tab P hP)⟩
/-- what stands at an address of no number yet is given the next number -/
theorem RepS.pushO (r : RepS K m H S) (hp : p ∉ m) {o : O} (h : RepO K H p o) : RepS K (m ++ [p]) H (S ++ [o]) := by
  refine ⟨?_, by simp [r.len], fun n ob e1 => ?_, r.tab⟩
  · rw [List.nodup_append]
    exact ⟨r.nd, by simp, fun a ha b hb => by simp at hb; subst hb; exact fun q => hp (q ▸ ha)⟩
  · by_cases hn : n < S.length
    · rw [List.getElem?_append_left hn] at e1
      obtain ⟨a, h1, h2⟩ := r.at_ n ob e1
      exact ⟨a, by rw [List.getElem?_append_left (by rw [r.len]; exact hn)]; exact h1, h2⟩
    · rw [List.getElem?_append_right (by omega)] at e1
      by_cases h0 : n = S.length
      · subst h0
        simp at e1
        subst e1
        exact ⟨p, by rw [← r.len]; simp, h⟩
      · have : 0 < n - S.length := by omega
        rw [List.getElem?_eq_none (by simp; omega)] at e1; cases e1
theorem RepS.push (r : RepS K m H S) (hp : p ∉ m) {xs : List D} {vs : List V} (e : H p = some (.lst vs)) (h : RepDs K H xs vs) : RepS K (m ++ [p]) H (S ++ [.lst xs]) := r.pushO hp ⟨vs, e, h⟩
theorem Grow.push (h : H p = none) (g : Grow m H m1 H1) : Grow m H (m1 ++ [p]) H1 :=
  ⟨fun n a e => by rw [List.getElem?_append_left (List.getElem?_eq_some_iff.mp (g.pre n a e)).1]; exact g.pre n a e, g.tup, g.frz, g.xt, g.frame, fun b hb hn => by
    rcases List.mem_append.mp hb with q | q
    · exact g.new b q hn
    · simp at q; subst q; exact h, g.tb⟩
/-- what can be written: it is no tuple, nothing locked, no exception -/
def Wr (p : Addr) (u : HO) : Prop := (∀ xs, u ≠ .tup xs) ∧ (∀ o v, u ≠ .frz o v) ∧ (∀ C, u ≠ XO C p) ∧ (∀ ps, u ≠ .tbl ps) ∧ ∀ q, u ≠ LamX.CodeO p q
theorem wr_lst {vs : List V} : Wr p (.lst vs) := ⟨fun _ => (nomatch ·), fun _ _ => (nomatch ·), fun _ => (nomatch ·), fun _ => (nomatch ·), fun _ => (nomatch ·)⟩
theorem Grow.writeO {n : Nat} {u u' : HO} (hn : m[n]? = some p) (e : H p = some u) (w : Wr p u) : Grow m H m (upd H p u') := by
  obtain ⟨w1, w2, w3, w4, w5⟩ := w
  refine ⟨fun _ _ e => e, fun b xs e1 => ?_, fun b ob v e1 => ?_, fun b C e1 => ?_, fun b v e1 hb _ => by rw [upd_ne (fun q => hb (by rw [show b = p from q]; exact List.mem_of_getElem? hn))]; exact e1, fun _ h n => absurd h n, TbK.write e w4 w5⟩
  · rw [upd_ne (ne_of e1 e (w1 xs).symm)]; exact e1
  · rw [upd_ne (ne_of e1 e (w2 ob v).symm)]; exact e1
  · by_cases hb : b = p
    · subst hb; rw [e] at e1; exact absurd (Option.some.inj e1) (w3 C)
    · rw [upd_ne hb]; exact e1
theorem RepS.writeO (r : RepS K m H S) {n : Nat} {u u' : HO} {o : O} (hn : m[n]? = some p) (e : H p = some u) (w : Wr p u) (h : RepO K (upd H p u') p o) : RepS K m (upd H p u') (S.set n o) := by
  have g : Grow m H m (upd H p u') := Grow.writeO hn e w
  refine ⟨r.nd, by simp [r.len], fun k ob e1 => ?_, fun P hP => g.tb.tab P (r.tab P hP)⟩
  by_cases hk : n = k
  · subst hk
    have hl : n < S.length := by rw [← r.len]; exact (List.getElem?_eq_some_iff.mp hn).1
    rw [List.getElem?_set_self hl] at e1
    cases e1
    exact ⟨p, hn, h⟩
  · rw [List.getElem?_set_ne hk] at e1
    obtain ⟨a, h1, h2⟩ := r.at_ k ob e1
    refine ⟨a, h1, h2.grow g (upd_ne fun q => ?_)⟩
    subst q
    obtain ⟨l1, e2⟩ := List.getElem?_eq_some_iff.mp hn
    obtain ⟨l2, e3⟩ := List.getElem?_eq_some_iff.mp h1
    exact hk ((List.getElem_inj r.nd).mp (e2.trans e3.symm))
theorem Grow.write {n : Nat} {vs vs' : List V} (hn : m[n]? = some p) (e : H p = some (.lst vs)) : Grow m H m (upd H p (.lst vs')) := Grow.writeO hn e wr_lst
theorem RepS.write (r : RepS K m H S) {n : Nat} {vs vs' : List V} {xs : List D} (hn : m[n]? = some p) (e : H p = some (.lst vs)) (h : RepDs K H xs vs') : RepS K m (upd H p (.lst vs')) (S.set n (.lst xs)) :=
  r.writeO hn e wr_lst ⟨vs', upd_same, RepDs.grow (Grow.writeO (m := m) hn e wr_lst) xs vs' h⟩
theorem Grow.fresh (g : Grow m H m1 H1) (r : RepS K m1 H1 S) (h : H1 p = none) : H p = none := by
  cases e : H p with
  | none => rfl
  | some u =>
    have n1 : p ∉ m1 := r.notmem h
    by_cases z : ∃ ps, u = .tbl ps
    · obtain ⟨ps, rfl⟩ := z
      obtain ⟨ps', q⟩ := g.tb.tbl p ps e
      rw [h] at q; cases q
    have := g.frame p u e (fun hp => n1 (mem_of_pre g.pre p hp)) (fun ps w => z ⟨ps, w⟩)
    rw [h] at this; cases this
/-! ### a new list that nobody will write -/
mutual
theorem RepD.keep (kt : ∀ b xs, H b = some (.tup xs) → H1 b = some (.tup xs)) (kf : ∀ b o u, H b = some (.frz o u) → H1 b = some (.frz o u)) : ∀ (x : D) (v : V), RepD K H x v → RepD K H1 x v
  | .non, _, h => h
  | .bl _, _, h => h
  | .int _, _, h => h
  | .str _, _, h => h
  | .tup xs, _, ⟨a, vs, e, h, r⟩ => ⟨a, vs, e, (by
    rcases h with (h | ⟨o, h⟩) | h
    · exact .inl (.inl (kt _ _ h))
    · exact .inl (.inr ⟨o, kf _ _ _ h⟩)
    · exact .inr h), RepDs.keep kt kf xs vs r⟩
  | .lst xs, _, ⟨a, vs, e, h, r⟩ => ⟨a, vs, e, (by
    rcases h with ⟨o, h⟩ | h
    · exact .inl ⟨o, kf _ _ _ h⟩
    · exact .inr h), RepDs.keep kt kf xs vs r⟩
theorem RepDs.keep (kt : ∀ b xs, H b = some (.tup xs) → H1 b = some (.tup xs)) (kf : ∀ b o u, H b = some (.frz o u) → H1 b = some (.frz o u)) : ∀ (xs : List D) (vs : List V), RepDs K H xs vs → RepDs K H1 xs vs
  | [], _, h => h
  | x :: xs, _, ⟨v, r, e, h, t⟩ => ⟨v, r, e, RepD.keep kt kf x v h, RepDs.keep kt kf xs r t⟩
end
theorem kt_fz {vs : List V} {od : Obj} (e : H a = some (.lst vs)) : ∀ b xs, H b = some (.tup xs) → upd H a (.frz od (.lst vs)) b = some (.tup xs) := fun b xs h => by
  rw [upd_ne (ne_of h e (fun q => nomatch q))]; exact h
theorem kf_fz {vs : List V} {od : Obj} (e : H a = some (.lst vs)) : ∀ b o u, H b = some (.frz o u) → upd H a (.frz od (.lst vs)) b = some (.frz o u) := fun b o u h => by
  rw [upd_ne (ne_of h e (fun q => nomatch q))]; exact h
theorem RepS.frz (r : RepS K m H S) {vs : List V} {od : Obj} (ha : a ∉ m) (e : H a = some (.lst vs)) : RepS K m (upd H a (.frz od (.lst vs))) S :=
  ⟨r.nd, r.len, fun n ob e1 => by
    obtain ⟨b, h1, h2⟩ := r.at_ n ob e1
    refine ⟨b, h1, ?_⟩
    have hb : b ≠ a := fun q => ha (q ▸ List.mem_of_getElem? h1)
    exact h2.via (fun x v => RepR.conv (fun _ _ h => h) (fun x v => RepD.keep (kt_fz e) (kf_fz e) x v) (kt_fz e) (kf_fz e) (fun b C h => by rw [upd_ne (ne_of h e (fun q => nomatch q))]; exact h) x v) (upd_ne hb), fun P hP => (TbK.write e (fun _ => (nomatch ·)) (fun _ => (nomatch ·))).tab P (r.tab P hP)⟩
theorem Grow.frz_new (g : Grow m H m1 H1) {vs : List V} {od : Obj} (h0 : H a = none) (e : H1 a = some (.lst vs)) : Grow m H m1 (upd H1 a (.frz od (.lst vs))) :=
  ⟨g.pre, fun b xs h => kt_fz e b xs (g.tup b xs h), fun b o u h => kf_fz e b o u (g.frz b o u h), fun b φ h => by rw [upd_ne (ne_of (g.xt b φ h) e (fun q => nomatch q))]; exact g.xt b φ h, fun b o h hb hn => by rw [upd_ne (ne_of_none h h0)]; exact g.frame b o h hb hn, g.new, g.tb.trans (TbK.write e (fun _ => (nomatch ·)) (fun _ => (nomatch ·)))⟩
end
end Z
set_option Elab.async false
set_option linter.all false
set_option maxRecDepth 100000
/-! Z2: expressions over trees and a store; each rule is the hand layer's own, read there. -/
namespace Z
open PySem PySem.Spec PyProof.Rows L2
/-- what an expression hands on: a value, or a new list that stands at no number yet -/
inductive SV where
  | r (x : R) | f (xs : List D)
abbrev PK1 := SV → Sto → Prop
abbrev PE1 := Rho → Sto → PK1 → Prop
abbrev PT1 := Rho → Sto → (Bool → Sto → Prop) → Prop
abbrev PA1 := Rho → Sto → (List SV → Sto → Prop) → Prop
def RepV (K : PySem.W.Frag) (m : List Addr) (H H0 : Hp) : SV → V → Prop
  | .r x, v => RepR K m H x v
  | .f xs, v => ∃ a vs, v = .ref a ∧ H a = some (.lst vs) ∧ a ∉ m ∧ H0 a = none ∧ RepDs K H xs vs
def RepVs (K : PySem.W.Frag) (m : List Addr) (H H0 : Hp) : List SV → List V → Prop
  | [], vs => vs = []
  | x :: xs, vs => ∃ v r, vs = v :: r ∧ RepV K m H H0 x v ∧ RepVs K m H H0 xs r
section
variable {K : PySem.W.Frag} {m m1 m2 : List Addr} {H H0 H1 H2 : Hp} {S S1 S2 : Sto} {W : PK1} {Q : VK}
theorem RepV.grow (g : Grow m H m1 H1) {x : SV} {v : V} (h : RepV K m H H0 x v) : RepV K m1 H1 H0 x v := by
  cases x with
  | r x => exact RepR.grow g x v h
  | f xs =>
    obtain ⟨a, vs, e, h1, h2, h3, h4⟩ := h
    exact ⟨a, vs, e, g.frame a _ h1 h2 (fun _ => (nomatch ·)), fun q => (by rw [g.new a q h2] at h1; cases h1), h3, RepDs.grow g xs vs h4⟩
theorem RepVs.grow (g : Grow m H m1 H1) : ∀ {xs : List SV} {vs : List V}, RepVs K m H H0 xs vs → RepVs K m1 H1 H0 xs vs
  | [], _, h => h
  | x :: xs, _, ⟨v, r, e, h, t⟩ => ⟨v, r, e, h.grow g, RepVs.grow g t⟩
/-- a fresh thing of a later start is one of the first start -/
theorem RepV.back (g : Grow m H m1 H1) (r : RepS K m1 H1 S) {x : SV} {v : V} (h : RepV K m2 H2 H1 x v) : RepV K m2 H2 H x v := by
  cases x with
  | r x => exact h
  | f xs => obtain ⟨a, vs, e, h1, h2, h3, h4⟩ := h; exact ⟨a, vs, e, h1, h2, g.fresh r h3, h4⟩
/-- what is wanted behind -/
def Fin (K : PySem.W.Frag) (m : List Addr) (H : Hp) (W : PK1) (Q : VK) : Prop :=
  ∀ x S' v m' H', W x S' → Grow m H m' H' → RepS K m' H' S' → RepV K m' H' H x v → Q v H'
theorem Fin.later (f : Fin K m H W Q) (g : Grow m H m1 H1) (r : RepS K m1 H1 S1) : Fin K m1 H1 W Q :=
  fun x S' v m' H' w g' r' q => f x S' v m' H' w (g.trans g') r' (q.back g r)
theorem Fin.here (f : Fin K m H W Q) (r : RepS K m H S) {x : SV} {v : V} (q : RepV K m H H x v) (w : W x S) : Q v H := f x S v m H w Grow.refl r q
/-- a new tuple -/
theorem Fin.tup (f : Fin K m H W Q) (r : RepS K m H S) {xs : List D} {vs : List V} (h : RepDs K H xs vs) (w : W (.r (.d (.tup xs))) S) : ∀ p, H p = none → Q (.ref p) (upd H p (.tup vs)) := fun p hp =>
  f _ S _ m _ w (Grow.alloc hp) (r.alloc hp) ⟨p, vs, rfl, .inl (.inl upd_same), RepDs.grow (m := m) (m1 := m) (Grow.alloc hp) xs vs h⟩
/-- a new list -/
theorem Fin.lst (f : Fin K m H W Q) (r : RepS K m H S) {xs : List D} {vs : List V} (h : RepDs K H xs vs) (w : W (.f xs) S) : ∀ p, H p = none → Q (.ref p) (upd H p (.lst vs)) := fun p hp =>
  f _ S _ m _ w (Grow.alloc hp) (r.alloc hp) ⟨p, vs, rfl, upd_same, r.notmem hp, hp, RepDs.grow (m := m) (m1 := m) (Grow.alloc hp) xs vs h⟩
end
def up (K : PySem.W.Frag) (w : PE1) : TE := fun s H Q => ∃ m r S W, RepE K m H r s ∧ RepS K m H S ∧ w r S W ∧ Fin K m H W Q
def upT (K : PySem.W.Frag) (w : PT1) : TT := fun s H Q => ∃ m r S W, RepE K m H r s ∧ RepS K m H S ∧ w r S W ∧ ∀ b S' m' H', W b S' → Grow m H m' H' → RepS K m' H' S' → Q b H'
def upA (K : PySem.W.Frag) (w : PA1) : TA := fun s H Q => ∃ m r S W, RepE K m H r s ∧ RepS K m H S ∧ w r S W ∧ ∀ xs S' vs m' H', W xs S' → Grow m H m' H' → RepS K m' H' S' → RepVs K m' H' H xs vs → Q vs H'
structure WE (X : Cx) (e : Expr) (w : PE1) : Prop where
  pe : PE X e (up X.K w)
structure WT (X : Cx) (e : Expr) (w : PT1) : Prop where
  pt : PT X e (upT X.K w)
structure WA (X : Cx) (es : List Expr) (w : PA1) : Prop where
  pa : PA X es (upA X.K w)
section
variable {X : Cx} {e a b c : Expr} {es : List Expr} {pos : Pos} {wa wb wc : PE1} {was : PA1}
theorem peImp {t t' : TE} (h : PE X e t) (k : ∀ s H Q, t' s H Q → t s H Q) : PE X e t' := ⟨fun pins s z H Q I q => h.run pins s z H Q I (k _ _ _ q)⟩
theorem ptImp {t t' : TT} (h : PT X e t) (k : ∀ s H Q, t' s H Q → t s H Q) : PT X e t' := ⟨fun pins s z H Q I q => h.run pins s z H Q I (k _ _ _ q)⟩
theorem paImp {t t' : TA} (h : PA X es t) (k : ∀ s H Q, t' s H Q → t s H Q) : PA X es t' := ⟨fun pos pins s z H Q I q => h.run pos pins s z H Q I (k _ _ _ q)⟩
/-! ### names, constants -/
abbrev wVar (i : Nat) : PE1 := fun r S W => match r[i]? with
  | some (some x) => W (.r x) S
  | _ => False
abbrev wC (x : D) : PE1 := fun _ S W => W (.r (.d x)) S
theorem we_var (i : Nat) {x : Str} {pos : Pos} (h : PE X (.Name x pos) (tVar i)) : WE X (.Name x pos) (wVar i) := ⟨peImp h fun s H Q ⟨m, r, S, W, hE, hS, hw, hf⟩ => by
  unfold wVar at hw
  split at hw
  · rename_i x e
    obtain ⟨v, e1, q⟩ := hE.at_ i x e
    exact ⟨v, e1, hf.here hS (x := .r x) q hw⟩
  · exact hw.elim⟩
theorem we_c {v : V} {x : D} (h : PE X e (tC v)) (k : ∀ H, RepD X.K H x v) : WE X e (wC x) := ⟨peImp h fun s H Q ⟨m, r, S, W, hE, hS, hw, hf⟩ => hf.here hS (x := .r (.d x)) (k H) hw⟩
theorem we_int {i : Int} {k pos} : WE X (.Constant (.int i) k pos) (wC (.int i)) := we_c pe_int fun _ => rfl
theorem we_bl {b k pos} : WE X (.Constant (.bool b) k pos) (wC (.bl b)) := we_c pe_bl fun _ => rfl
/-! ### operators of two values -/
abbrev P2 := SV → SV → Sto → PK1 → Prop
def OpP (X : Cx) (f : Value → Value → Sem Value) (rp : P2) : Prop :=
  ∃ r : R2, OpR X f r ∧ ∀ x y S W v u m H H0 Q, RepS X.K m H S → RepV X.K m H H0 x v → RepV X.K m H H0 y u → rp x y S W → Fin X.K m H W Q → r v u H Q
theorem OpP.or {f : Value → Value → Sem Value} {p q : P2} (h : OpP X f p) (k : OpP X f q) : OpP X f (fun x y S W => p x y S W ∨ q x y S W) := by
  obtain ⟨r, h1, h2⟩ := h
  obtain ⟨t, k1, k2⟩ := k
  refine ⟨_, h1.or k1, fun x y S W v u m H H0 Q a b c d e => ?_⟩
  rcases d with d | d
  · exact .inl (h2 x y S W v u m H H0 Q a b c d e)
  · exact .inr (k2 x y S W v u m H H0 Q a b c d e)
theorem OpP.imp {f : Value → Value → Sem Value} {p q : P2} (h : OpP X f p) (k : ∀ x y S W, q x y S W → p x y S W) : OpP X f q := by
  obtain ⟨r, h1, h2⟩ := h
  exact ⟨r, h1, fun x y S W v u m H H0 Q a b c d e => h2 x y S W v u m H H0 Q a b c (k _ _ _ _ d) e⟩
abbrev wBin (rp : P2) (wa wb : PE1) : PE1 := fun r S W => wa r S fun x S1 => wb r S1 fun y S2 => rp x y S2 W
/-- two expressions in a row -/
theorem up2 {K : PySem.W.Frag} {s : L2.St} {H : Hp} {R : V → V → Hp → Prop} {m : List Addr} {r : Rho} {S : Sto} {Z : SV → SV → Sto → Prop} (hE : RepE K m H r s) (hS : RepS K m H S)
    (hw : wa r S fun x S1 => wb r S1 fun y S2 => Z x y S2)
    (h : ∀ x y S2 v u m2 H2, Z x y S2 → Grow m H m2 H2 → RepS K m2 H2 S2 → RepV K m2 H2 H x v → RepV K m2 H2 H y u → R v u H2) :
    up K wa s H fun v H1 => up K wb s H1 fun u H2 => R v u H2 :=
  ⟨m, r, S, _, hE, hS, hw, fun x S1 v m1 H1 h1 g1 r1 q1 => ⟨m1, r, S1, _, hE.grow g1, r1, h1, fun y S2 u m2 H2 h2 g2 r2 q2 => h x y S2 v u m2 H2 h2 (g1.trans g2) r2 (q1.grow g2) (q2.back g1 r1)⟩⟩
theorem op2 {f : Value → Value → Sem Value} {rp : P2} (ho : OpP X f rp) : ∃ r : R2, OpR X f r ∧ ∀ s H Q, up X.K (wBin rp wa wb) s H Q → tOp r (up X.K wa) (up X.K wb) s H Q := by
  obtain ⟨r, h1, h2⟩ := ho
  refine ⟨r, h1, fun s H Q ⟨m, ρ, S, W, hE, hS, hw, hf⟩ => up2 hE hS hw fun x y S2 v u m2 H2 z g2 r2 qx qy => ?_⟩
  exact h2 x y S2 W v u m2 H2 H Q r2 qx qy z (hf.later g2 r2)
theorem we_bin {op : Operator} {rp : P2} (ho : OpP X (binaryOp op) rp) (ha : WE X a wa) (hb : WE X b wb) : WE X (.BinOp a op b pos) (wBin rp wa wb) := by
  obtain ⟨r, h1, h2⟩ := op2 (wa := wa) (wb := wb) ho
  exact ⟨peImp (pe_op h1 ha.pe hb.pe) h2⟩
theorem we_cmp {op : CmpOp} {rp : P2} (ho : OpP X (compareOp op) rp) (ha : WE X a wa) (hb : WE X b wb) (hm : behindInMarks op b = false) : WE X (.Compare a [op] [b] pos) (wBin rp wa wb) := by
  obtain ⟨r, h1, h2⟩ := op2 (wa := wa) (wb := wb) ho
  exact ⟨peImp (pe_cmpR h1 ha.pe hb.pe hm) h2⟩
/-- a value that is a truth, as a test -/
abbrev wTest (w : PE1) : PT1 := fun r S W => w r S fun x S1 => match x with
  | .r (.d (.bl b)) => W b S1
  | _ => False
theorem upT_of {K : PySem.W.Frag} {w : PE1} {t : TE} (h : ∀ s H Q, up K w s H Q → t s H Q) : ∀ s H Q, upT K (wTest w) s H Q → tTest t s H Q := fun s H Q ⟨m, r, S, W, hE, hS, hw, hf⟩ => by
  refine h s H _ ⟨m, r, S, _, hE, hS, hw, fun x S' v m' H' hx g r' q => ?_⟩
  split at hx
  · rename_i b
    exact ⟨b, q, hf b S' m' H' hx g r'⟩
  · exact hx.elim
theorem wt_cmp {op : CmpOp} {rp : P2} (ho : OpP X (compareOp op) rp) (ha : WE X a wa) (hb : WE X b wb) (hm : behindInMarks op b = false) : WT X (.Compare a [op] [b] pos) (wTest (wBin rp wa wb)) := by
  obtain ⟨r, h1, h2⟩ := op2 (wa := wa) (wb := wb) ho
  exact ⟨ptImp (pt_cmpR h1 ha.pe hb.pe hm) (upT_of h2)⟩
theorem wt_val (ha : WE X a wa) (he : ∀ whole, isTrue a X.env whole = (do let v ← whole; standAt a.pos; holding [v] (truthy v)) := by intro _; rfl) : WT X a (wTest wa) :=
  ⟨ptImp (pt_val ha.pe he) (upT_of fun _ _ _ h => h)⟩
/-- the operators of one value -/
abbrev P1 := SV → Sto → PK1 → Prop
def UnP (X : Cx) (f : Value → Sem Value) (rp : P1) : Prop :=
  ∃ r : V → Hp → VK → Prop, UnR X f r ∧ ∀ x S W v m H H0 Q, RepS X.K m H S → RepV X.K m H H0 x v → rp x S W → Fin X.K m H W Q → r v H Q
abbrev wUn (rp : P1) (wa : PE1) : PE1 := fun r S W => wa r S fun x S1 => rp x S1 W
theorem up1 {K : PySem.W.Frag} {s : L2.St} {H : Hp} {R : V → Hp → Prop} {m : List Addr} {r : Rho} {S : Sto} {Z : SV → Sto → Prop} (hE : RepE K m H r s) (hS : RepS K m H S)
    (hw : wa r S fun x S1 => Z x S1) (h : ∀ x S2 v m2 H2, Z x S2 → Grow m H m2 H2 → RepS K m2 H2 S2 → RepV K m2 H2 H x v → R v H2) : up K wa s H fun v H1 => R v H1 :=
  ⟨m, r, S, _, hE, hS, hw, fun x S1 v m1 H1 h1 g1 r1 q1 => h x S1 v m1 H1 h1 g1 r1 q1⟩
theorem we_un {op : UnaryOp} {rp : P1} (ho : UnP X (unaryOp op) rp) (ha : WE X a wa) : WE X (.UnaryOp op a pos) (wUn rp wa) := by
  obtain ⟨r, h1, h2⟩ := ho
  exact ⟨peImp (pe_un h1 ha.pe) fun s H Q ⟨m, ρ, S, W, hE, hS, hw, hf⟩ => up1 hE hS hw fun x S2 v m2 H2 z g2 r2 qx => h2 x S2 W v m2 H2 H Q r2 qx z (hf.later g2 r2)⟩
/-! ### and, or, not -/
abbrev wAndT (t u : PT1) : PT1 := fun r S W => t r S fun b S1 => if b = true then u r S1 W else W false S1
abbrev wOrT (t u : PT1) : PT1 := fun r S W => t r S fun b S1 => if b = true then W true S1 else u r S1 W
abbrev wNotT (t : PT1) : PT1 := fun r S W => t r S fun b S1 => W (!b) S1
structure WW (X : Cx) (e : Expr) (w : PT1) : Prop where
  pw : PW X e (upT X.K w)
theorem pwImp {t t' : TT} (h : PW X e t) (k : ∀ s H Q, t' s H Q → t s H Q) : PW X e t' := ⟨fun wh pins s z H Q I q => h.run wh pins s z H Q I (k _ _ _ q)⟩
theorem WW.wt {w : PT1} (h : WW X e w) : WT X e w := ⟨h.pw.pt⟩
variable {ta tb : PT1} {rest : List Expr}
theorem ww_and1 (ha : WT X a ta) : WW X (.BoolOp .And [a] pos) ta := ⟨pw_and1 ha.pt⟩
theorem ww_or1 (ha : WT X a ta) : WW X (.BoolOp .Or [a] pos) ta := ⟨pw_or1 ha.pt⟩
theorem ww_and (ha : WT X a ta) (hb : WW X (.BoolOp .And (b :: rest) pos) tb) : WW X (.BoolOp .And (a :: b :: rest) pos) (wAndT ta tb) :=
  ⟨pwImp (pw_and ha.pt hb.pw) fun s H Q ⟨m, r, S, W, hE, hS, hw, hf⟩ => ⟨m, r, S, _, hE, hS, hw, fun b S1 m1 H1 h1 g1 r1 => by
    cases b with
    | true => exact ⟨m1, r, S1, W, hE.grow g1, r1, h1, fun b S2 m2 H2 h2 g2 r2 => hf b S2 m2 H2 h2 (g1.trans g2) r2⟩
    | false => exact hf false S1 m1 H1 h1 g1 r1⟩⟩
theorem ww_or (ha : WT X a ta) (hb : WW X (.BoolOp .Or (b :: rest) pos) tb) : WW X (.BoolOp .Or (a :: b :: rest) pos) (wOrT ta tb) :=
  ⟨pwImp (pw_or ha.pt hb.pw) fun s H Q ⟨m, r, S, W, hE, hS, hw, hf⟩ => ⟨m, r, S, _, hE, hS, hw, fun b S1 m1 H1 h1 g1 r1 => by
    cases b with
    | false => exact ⟨m1, r, S1, W, hE.grow g1, r1, h1, fun b S2 m2 H2 h2 g2 r2 => hf b S2 m2 H2 h2 (g1.trans g2) r2⟩
    | true => exact hf true S1 m1 H1 h1 g1 r1⟩⟩
theorem wt_not (ha : WT X a ta) : WT X (.UnaryOp .Not a pos) (wNotT ta) :=
  ⟨ptImp (pt_not ha.pt) fun s H Q ⟨m, r, S, W, hE, hS, hw, hf⟩ => ⟨m, r, S, _, hE, hS, hw, fun b S1 m1 H1 h1 g1 r1 => hf _ S1 m1 H1 h1 g1 r1⟩⟩
/-- .. as values -/
abbrev wAndV (wa wb : PE1) : PE1 := fun r S W => wa r S fun x S1 => match x with
  | .r (.d (.bl b)) => if b = true then wb r S1 W else W (.r (.d (.bl false))) S1
  | _ => False
abbrev wOrV (wa wb : PE1) : PE1 := fun r S W => wa r S fun x S1 => match x with
  | .r (.d (.bl b)) => if b = true then W (.r (.d (.bl true))) S1 else wb r S1 W
  | _ => False
abbrev wNotV (wa : PE1) : PE1 := fun r S W => wa r S fun x S1 => match x with
  | .r (.d (.bl b)) => W (.r (.d (.bl (!b)))) S1
  | _ => False
theorem we_one {op} (h : WE X a wa) : WE X (.BoolOp op [a] pos) wa := ⟨pe_one h.pe⟩
theorem we_and (ha : WE X a wa) (hb : WE X (.BoolOp .And (b :: rest) pos) wb) : WE X (.BoolOp .And (a :: b :: rest) pos) (wAndV wa wb) :=
  ⟨peImp (pe_and ha.pe hb.pe) fun s H Q ⟨m, r, S, W, hE, hS, hw, hf⟩ => up1 hE hS hw fun x S1 v m1 H1 h1 g1 r1 q1 => by
    split at h1
    · rename_i b
      refine ⟨b, q1, ?_⟩
      cases b with
      | true => exact ⟨m1, r, S1, W, hE.grow g1, r1, h1, hf.later g1 r1⟩
      | false => exact hf _ S1 _ m1 H1 h1 g1 r1 rfl
    · exact h1.elim⟩
/-- a if t else b -/
abbrev wIfE (t : PT1) (wa wb : PE1) : PE1 := fun r S W => t r S fun b S1 => if b = true then wa r S1 W else wb r S1 W
/-! ### rows of expressions, tuples, lists -/
abbrev wNil : PA1 := fun _ S W => W [] S
abbrev wCons (wa : PE1) (ws : PA1) : PA1 := fun r S W => wa r S fun x S1 => ws r S1 fun xs S2 => W (x :: xs) S2
theorem wa_nil : WA X [] wNil := ⟨paImp pa_nil fun s H Q ⟨m, r, S, W, hE, hS, hw, hf⟩ => hf [] S [] m H hw Grow.refl hS rfl⟩
theorem wa_cons (ha : WE X e wa) (hr : WA X es was) (hs : starEach (e :: es) X.env = (false, eval e X.env) :: starEach es X.env := by rfl) : WA X (e :: es) (wCons wa was) :=
  ⟨paImp (pa_cons ha.pe hr.pa hs) fun s H Q ⟨m, r, S, W, hE, hS, hw, hf⟩ => up1 hE hS hw fun x S1 v m1 H1 h1 g1 r1 q1 =>
    ⟨m1, r, S1, _, hE.grow g1, r1, h1, fun xs S2 vs m2 H2 h2 g2 r2 q2 => hf _ S2 _ m2 H2 h2 (g1.trans g2) r2 ⟨v, vs, rfl, q1.grow g2, (by
      have back : ∀ {xs : List SV} {vs : List V}, RepVs X.K m2 H2 H1 xs vs → RepVs X.K m2 H2 H xs vs := by
        intro xs
        induction xs with
        | nil => intro vs h; exact h
        | cons y ys ih => intro vs ⟨v, r, e, h, t⟩; exact ⟨v, r, e, h.back g1 r1, ih t⟩
      exact back q2)⟩⟩⟩
/-- a row of values, none of them a new list -/
def rsOf : List SV → Option (List R)
  | [] => some []
  | .r x :: xs => (rsOf xs).map (x :: ·)
  | .f _ :: _ => none
/-- a new list in a row (one at most) is given a number -/
def bindVs : List SV → Sto → (List R → Sto → Prop) → Prop
  | [], S, W => W [] S
  | .r x :: xs, S, W => bindVs xs S fun rs S1 => W (x :: rs) S1
  | .f l :: xs, S, W => match rsOf xs with
    | some rs => W (.loc S.length :: rs) (S ++ [.lst l])
    | none => False
abbrev dataOf : List SV → Option (List D)
  | [] => some []
  | .r (.d x) :: r => (dataOf r).map (x :: ·)
  | _ :: _ => none
theorem RepVs.data {K : PySem.W.Frag} {m : List Addr} {H H0 : Hp} : ∀ {xs : List SV} {vs : List V} {ds : List D}, RepVs K m H H0 xs vs → dataOf xs = some ds → RepDs K H ds vs
  | [], _, _, h, e => by simp [dataOf] at e; subst e; exact h
  | .r (.d x) :: xs, _, ds, ⟨v, r, e1, h, t⟩, e => by
    simp only [dataOf, Option.map_eq_some_iff] at e
    obtain ⟨ds', e2, rfl⟩ := e
    exact ⟨v, r, e1, h, RepVs.data t e2⟩
  | .r (.loc _) :: _, _, _, _, e => by cases e
  | .r (.ro _) :: _, _, _, _, e => by cases e
  | .r (.tr _) :: _, _, _, _, e => by cases e
  | .r (.ex _) :: _, _, _, _, e => by cases e
  | .r (.ad _) :: _, _, _, _, e => by cases e
  | .f _ :: _, _, _, _, e => by cases e
theorem RepVs.len {K : PySem.W.Frag} {m : List Addr} {H H0 : Hp} : ∀ {xs : List SV} {vs : List V}, RepVs K m H H0 xs vs → vs.length = xs.length
  | [], _, h => by cases h; rfl
  | x :: xs, _, ⟨v, r, e, _, t⟩ => by subst e; simp [RepVs.len t]
abbrev wTup (ws : PA1) : PE1 := fun r S W => ws r S fun xs S1 => match dataOf xs with
  | some ds => ds.length ≤ 16777216 ∧ W (.r (.d (.tup ds))) S1
  | none => False
abbrev wLst (ws : PA1) : PE1 := fun r S W => ws r S fun xs S1 => match dataOf xs with
  | some ds => ds.length ≤ 16777216 ∧ W (.f ds) S1
  | none => False
theorem we_tup {x1} (h : WA X es was) : WE X (.Tuple es x1 pos) (wTup was) :=
  ⟨peImp (pe_tup h.pa) fun s H Q ⟨m, r, S, W, hE, hS, hw, hf⟩ => ⟨m, r, S, _, hE, hS, hw, fun xs S1 vs m1 H1 h1 g1 r1 q1 => by
    split at h1
    · rename_i ds e
      have q := q1.data e
      exact ⟨by rw [q.len, sizeLine_eq]; exact h1.1, (hf.later g1 r1).tup r1 q h1.2⟩
    · exact h1.elim⟩⟩
theorem we_lst (h : WA X es was) : WE X (.List es pos) (wLst was) :=
  ⟨peImp (pe_lst h.pa) fun s H Q ⟨m, r, S, W, hE, hS, hw, hf⟩ => ⟨m, r, S, _, hE, hS, hw, fun xs S1 vs m1 H1 h1 g1 r1 q1 => by
    split at h1
    · rename_i ds e
      have q := q1.data e
      exact ⟨by rw [q.len, sizeLine_eq]; exact h1.1, (hf.later g1 r1).lst r1 q h1.2⟩
    · exact h1.elim⟩⟩
/-! ### what a value holds in a row -/
/-- is it a list of the store? -/
abbrev isLo (S : Sto) (n : Nat) : Bool := match S[n]? with
  | some (.lst _) => true
  | _ => false
theorem isLo_get {S : Sto} {n : Nat} (h : isLo S n = true) : ∃ xs, S[n]? = some (.lst xs) := by
  unfold isLo at h
  split at h
  · rename_i xs e; exact ⟨xs, e⟩
  · cases h
/-- the items of a list or a tuple -/
abbrev seqOf (S : Sto) : SV → Option (List D)
  | .r (.d (.tup xs)) => some xs
  | .r (.d (.lst xs)) => some xs
  | .r (.loc n) => match S[n]? with
    | some (.lst xs) => some xs
    | _ => none
  | .r (.ro xs) => some xs
  | .f xs => some xs
  | _ => none
/-- is it a list (no tuple)? -/
def isLst : SV → Bool
  | .r (.loc _) | .r (.ro _) | .f _ | .r (.d (.lst _)) => true
  | _ => false
theorem RepV.seq {K : PySem.W.Frag} {m : List Addr} {H H0 : Hp} {S : Sto} {x : SV} {v : V} {xs : List D} (h : RepV K m H H0 x v) (r : RepS K m H S) (e : seqOf S x = some xs) :
    ∃ a vs, v = .ref a ∧ RepDs K H xs vs ∧ if isLst x = true then SqL K H a vs else SqT K H a vs := by
  cases x with
  | f ys =>
    obtain ⟨a, vs, e1, h1, _, _, h4⟩ := h
    simp only [seqOf, Option.some.injEq] at e; subst e
    exact ⟨a, vs, e1, h4, .inl (.inl h1)⟩
  | r y =>
    cases y with
    | loc n =>
      obtain ⟨a, h1, e1⟩ := h
      simp only [seqOf] at e
      split at e
      · rename_i ys e2
        cases e
        obtain ⟨a', h1', vs, h2, h3⟩ := r.at_ n _ e2
        rw [h1] at h1'; cases h1'
        exact ⟨a, vs, e1, h3, .inl (.inl h2)⟩
      · cases e
    | ro ys =>
      obtain ⟨a, vs, e1, h1, h2⟩ := h
      simp only [seqOf, Option.some.injEq] at e; subst e
      exact ⟨a, vs, e1, h2, h1.sq⟩
    | tr ys => cases e
    | ex z => cases e
    | ad z => cases e
    | d y =>
      cases y with
      | tup ys =>
        obtain ⟨a, vs, e1, h1, h2⟩ := h
        simp only [seqOf, Option.some.injEq] at e; subst e
        exact ⟨a, vs, e1, h2, h1⟩
      | lst ys =>
        obtain ⟨a, vs, e1, h1, h2⟩ := h
        simp only [seqOf, Option.some.injEq] at e; subst e
        exact ⟨a, vs, e1, h2, h1.sq⟩
      | non => cases e
      | bl _ => cases e
      | int _ => cases e
      | str _ => cases e
/-- a list that may be added to: one of the store, or a new one -/
theorem RepV.lst {K : PySem.W.Frag} {m : List Addr} {H H0 : Hp} {S : Sto} {x : SV} {v : V} {xs : List D} (h : RepV K m H H0 x v) (r : RepS K m H S) (e : seqOf S x = some xs) (hl : isLst x = true) (ho : (∀ ys, x ≠ .r (.ro ys)) ∧ ∀ ys, x ≠ .r (.d (.lst ys))) :
    ∃ a vs, v = .ref a ∧ RepDs K H xs vs ∧ H a = some (.lst vs) := by
  cases x with
  | f ys =>
    obtain ⟨a, vs, e1, h1, _, _, h4⟩ := h
    simp only [seqOf, Option.some.injEq] at e; subst e
    exact ⟨a, vs, e1, h4, h1⟩
  | r y =>
    cases y with
    | loc n =>
      obtain ⟨a, h1, e1⟩ := h
      simp only [seqOf] at e
      split at e
      · rename_i ys e2
        cases e
        obtain ⟨a', h1', vs, h2, h3⟩ := r.at_ n _ e2
        rw [h1] at h1'; cases h1'
        exact ⟨a, vs, e1, h3, h2⟩
      · cases e
    | ro ys => exact absurd rfl (ho.1 ys)
    | tr ys => cases e
    | ex z => cases e
    | ad z => cases e
    | d y =>
      cases y with
      | lst ys => exact absurd rfl (ho.2 ys)
      | _ => cases hl
end
end Z
set_option Elab.async false
set_option linter.all false
set_option maxRecDepth 100000
/-! Z3: the operators and built-ins. -/
namespace Z
open PySem PySem.Spec PyProof.Rows L2
section
variable {X : Cx}
/-! ### ints -/
abbrev svi (i : Int) : SV := .r (.d (.int i))
abbrev svb (b : Bool) : SV := .r (.d (.bl b))
abbrev svt (xs : List D) : SV := .r (.d (.tup xs))
abbrev pInt (C : Int → Int → Prop) (g : Int → Int → Int) : P2 := fun x y S W => match x, y with
  | .r (.d (.int i)), .r (.d (.int j)) => C i j ∧ W (.r (.d (.int (g i j)))) S
  | _, _ => False
theorem opp_int {f : Value → Value → Sem Value} {C C' : Int → Int → Prop} {g : Int → Int → Int} (h : OpR X f (rI C' fun i j => .int (g i j))) (hc : ∀ i j, C i j → C' i j) : OpP X f (pInt C g) := by
  refine ⟨_, h, fun x y S W v u m H H0 Q r qx qy w f => ?_⟩
  unfold pInt at w
  split at w
  · rename_i i j
    exact ⟨i, j, qx, qy, hc i j w.1, f.here r (x := svi (g i j)) rfl w.2⟩
  · exact w.elim
structure CDv (i j : Int) : Prop where
  ne : j ≠ 0
  lt : j.natAbs < 2 ^ 9000 ∨ i.natAbs < 2 ^ 13500
theorem noPy_big {x y : Int} (h : x.natAbs.log2 < 13500) : Builtin.divisionGoesByPylong x y = false := by
  have kx : (if x == 0 then 0 else x.natAbs.log2 / 30 + 1) ≤ 450 := by
    by_cases hy : (x == 0) = true
    · rw [if_pos hy]; exact Nat.zero_le _
    · rw [if_neg hy]; omega
  show (decide ((if y == 0 then 0 else y.natAbs.log2 / 30 + 1) > 300) && decide ((if x == 0 then 0 else x.natAbs.log2 / 30 + 1) > (if y == 0 then 0 else y.natAbs.log2 / 30 + 1) + 150)) = false
  generalize (if y == 0 then 0 else y.natAbs.log2 / 30 + 1) = a at *
  generalize (if x == 0 then 0 else x.natAbs.log2 / 30 + 1) = b at *
  rw [Bool.and_eq_false_iff]
  by_cases c : a > 300
  · exact .inr (decide_eq_false (by omega))
  · exact .inl (decide_eq_false c)
/-- sealed: the kernel must not look inside -/
structure MulOk (i j : Int) : Prop where
  ok : IntMulOk i j
def CPw (i j : Int) : Prop := 0 ≤ j ∧ j ≤ 1000000 ∧ (i.natAbs < 2 ^ 64 ∨ (j ≤ 16 ∧ i.natAbs < 2 ^ 60000))
theorem CPw.sz {i j : Int} (h : CPw i j) : (Builtin.Int.intBits i : Int) * j ≤ 2 ^ 27 := by
  obtain ⟨h0, h1, h2 | ⟨h3, h4⟩⟩ := h
  · exact bits_mul_le h2 h0 h1
  · have hb := intBits_le h4
    have : (Builtin.Int.intBits i : Int) * j ≤ 60000 * j := Int.mul_le_mul_of_nonneg_right (by omega) h0
    omega
def CSh (i j : Int) : Prop := 0 ≤ j ∧ (Builtin.Int.intBits i : Int) + j ≤ 2 ^ 27
abbrev pSub : P2 := pInt (fun _ _ => True) fun i j => i - j
abbrev pDiv : P2 := pInt CDv fun i j => i.fdiv j
abbrev pMod : P2 := pInt (fun _ j => j ≠ 0) fun i j => i.fmod j
abbrev pPow : P2 := pInt CPw fun i j => i ^ j.toNat
abbrev pShl : P2 := pInt CSh fun i j => i * 2 ^ j.toNat
theorem op_mulI : OpR X (binaryOp .Mult) (rI MulOk fun i j => .int (i * j)) := opI fun _ _ _ _ _ _ _ hc q => mul_int q hc.ok
theorem op_divI : OpR X (binaryOp .FloorDiv) (rI CDv fun i j => .int (i.fdiv j)) := opI fun _ _ _ _ _ _ _ hc q => floordiv_int hc.1 q (.inl (hc.2.elim (fun h => PyProof.noPylong_of_log2 (PySem.Flt.log2_lt_of (by decide) h)) (fun h => noPy_big (PySem.Flt.log2_lt_of (by decide) h))))
theorem rI0_I {g : Int → Int → V} {f : Value → Value → Sem Value} (h : OpR X f (rI0 g)) : OpR X f (rI (fun _ _ => True) g) := by
  intro pins s σ H x y v u Q I rx ry q
  obtain ⟨i, j, e1, e2, _, q⟩ := q
  exact h pins s σ H x y v u Q I rx ry ⟨i, j, e1, e2, q⟩
theorem o_sub : OpP X (binaryOp .Sub) pSub := opp_int (rI0_I op_sub) fun _ _ h => h
theorem o_div : OpP X (binaryOp .FloorDiv) pDiv := opp_int op_divI fun _ _ h => h
theorem o_mod : OpP X (binaryOp .Mod) pMod := opp_int op_modN fun _ _ h => h
theorem op_powX : OpR X (binaryOp .Pow) (rI CPw fun i j => .int (i ^ j.toNat)) := opI fun _ _ _ _ _ _ _ hc q => pow_int hc.1 hc.sz q
theorem o_pow : OpP X (binaryOp .Pow) pPow := opp_int op_powX fun _ _ h => h
/-- comparisons of ints -/
abbrev pCmp (g : Int → Int → Bool) : P2 := fun x y S W => match x, y with
  | .r (.d (.int i)), .r (.d (.int j)) => W (.r (.d (.bl (g i j)))) S
  | _, _ => False
theorem opp_cmp {f : Value → Value → Sem Value} {g : Int → Int → Bool} (h : OpR X f (rI0 fun i j => .bl (g i j))) : OpP X f (pCmp g) := by
  refine ⟨_, h, fun x y S W v u m H H0 Q r qx qy w f => ?_⟩
  unfold pCmp at w
  split at w
  · rename_i i j
    exact ⟨i, j, qx, qy, f.here r (x := svb (g i j)) rfl w⟩
  · exact w.elim
abbrev pLt : P2 := pCmp fun i j => decide (i < j)
abbrev pLe : P2 := pCmp fun i j => decide (i ≤ j)
abbrev pGt : P2 := pCmp fun i j => decide (j < i)
abbrev pGe : P2 := pCmp fun i j => decide (j ≤ i)
theorem o_lt : OpP X (compareOp .Lt) pLt := opp_cmp op_lt
theorem o_le : OpP X (compareOp .LtE) pLe := opp_cmp op_le
theorem o_gt : OpP X (compareOp .Gt) pGt := opp_cmp op_gt
abbrev pNeg : P1 := fun x S W => match x with
  | .r (.d (.int i)) => W (.r (.d (.int (-i)))) S
  | _ => False
theorem u_neg : UnP X (unaryOp .USub) pNeg := by
  refine ⟨_, un_neg, fun x S W v m H H0 Q r qx w f => ?_⟩
  unfold pNeg at w
  split at w
  · rename_i i
    exact ⟨i, qx, f.here r (x := svi (-i)) rfl w⟩
  · exact w.elim
/-! ### + and * also of rows -/
def wrL : SV → Bool
  | .r (.loc _) | .f _ => true
  | _ => false
theorem wrL_of {x : SV} (h : wrL x = true) : isLst x = true ∧ (∀ ys, x ≠ .r (.ro ys)) ∧ ∀ ys, x ≠ .r (.d (.lst ys)) := by
  cases x with
  | f xs => exact ⟨rfl, (fun _ q => nomatch q), fun _ q => nomatch q⟩
  | r y => cases y with
    | loc n => exact ⟨rfl, (fun _ q => nomatch q), fun _ q => nomatch q⟩
    | d _ => cases h
    | ro _ => cases h
    | tr _ => cases h
    | ex _ => cases h
    | ad _ => cases h
abbrev pAddI : P2 := fun x y S W => match x, y with
  | .r (.d (.int i)), .r (.d (.int j)) => W (.r (.d (.int (i + j)))) S
  | .r (.d (.tup xs)), .r (.d (.tup ys)) => xs.length + ys.length ≤ 16777216 ∧ W (.r (.d (.tup (xs ++ ys)))) S
  | _, _ => False
/-- two lists -/
abbrev pCat : P2 := fun x y S W => match wrL x && wrL y, seqOf S x, seqOf S y with
  | true, some xs, some ys => xs.length + ys.length ≤ 16777216 ∧ W (.f (xs ++ ys)) S
  | _, _, _ => False
theorem o_cat : OpP X (binaryOp .Add) pCat := by
  refine ⟨_, op_cat, fun x y S W v u m H H0 Q r qx qy w f => ?_⟩
  unfold pCat at w
  split at w
  · rename_i xs ys e0 e1 e2
    rw [Bool.and_eq_true] at e0
    obtain ⟨a, vs, rfl, h1, h2⟩ := qx.lst r e1 (wrL_of e0.1).1 (wrL_of e0.1).2
    obtain ⟨b, us, rfl, h3, h4⟩ := qy.lst r e2 (wrL_of e0.2).1 (wrL_of e0.2).2
    exact ⟨a, b, vs, us, rfl, rfl, h2, h4, by rw [h1.len, h3.len, sizeLine_eq]; exact w.1, f.lst r (h1.app h3) w.2⟩
  · exact w.elim
theorem o_addI : OpP X (binaryOp .Add) pAddI := by
  have a1 : OpP X (binaryOp .Add) (pInt (fun _ _ => True) fun i j => i + j) := opp_int (rI0_I op_add) fun _ _ h => h
  have a2 : OpP X (binaryOp .Add) (fun x y S W => ∃ xs ys, x = svt xs ∧ y = svt ys ∧ xs.length + ys.length ≤ 16777216 ∧ W (svt (xs ++ ys)) S) := by
    refine ⟨_, op_catA, fun x y S W v u m H H0 Q r qx qy w f => ?_⟩
    obtain ⟨xs, ys, rfl, rfl, hl, w⟩ := w
    obtain ⟨a, vs, rfl, h1, h2⟩ := qx
    obtain ⟨b, us, rfl, h3, h4⟩ := qy
    refine ⟨a, b, vs, us, rfl, rfl, h1, h3, by rw [RepDs.len h2, RepDs.len h4, sizeLine_eq]; exact hl, fun e => ?_, fun e1 e2 => ?_, fun _ _ => f.tup r (RepDs.app h2 h4) w⟩
    · subst e
      have : xs = [] := by have := RepDs.len h2; simpa using this.symm
      subst this
      exact f.here r (x := svt ys) ⟨b, us, rfl, h3, h4⟩ (by simpa using w)
    · subst e2
      have : ys = [] := by have := RepDs.len h4; simpa using this.symm
      subst this
      exact f.here r (x := svt xs) ⟨a, vs, rfl, h1, h2⟩ (by simpa using w)
  refine (a1.or a2).imp fun x y S W w => ?_
  unfold pAddI at w
  split at w
  · exact .inl ⟨trivial, w⟩
  · exact .inr ⟨_, _, rfl, rfl, w⟩
  · exact w.elim
abbrev pMulI : P2 := fun x y S W => match x, y with
  | .r (.d (.int i)), .r (.d (.int j)) => MulOk i j ∧ W (.r (.d (.int (i * j)))) S
  | .r (.d (.tup xs)), .r (.d (.int k)) => xs ≠ [] ∧ 2 ≤ k ∧ k ≤ 1000 ∧ xs.length ≤ 1000 ∧ W (.r (.d (.tup (List.replicate k.toNat xs).flatten))) S
  | _, _ => False
theorem RepDs.rep {K : PySem.W.Frag} {H : Hp} {xs : List D} {vs : List V} (h : RepDs K H xs vs) : ∀ k : Nat, RepDs K H (List.replicate k xs).flatten (List.replicate k vs).flatten
  | 0 => by simp [RepDs]
  | k + 1 => by
    rw [List.replicate_succ, List.replicate_succ, List.flatten_cons, List.flatten_cons]
    exact h.app (RepDs.rep h k)
theorem o_mulI : OpP X (binaryOp .Mult) pMulI := by
  have a1 : OpP X (binaryOp .Mult) (pInt MulOk fun i j => i * j) := opp_int op_mulI fun _ _ h => h
  have a2 : OpP X (binaryOp .Mult) (fun x y S W => ∃ xs k, x = svt xs ∧ y = svi k ∧ xs ≠ [] ∧ 2 ≤ k ∧ k ≤ 1000 ∧ xs.length ≤ 1000 ∧ W (svt (List.replicate k.toNat xs).flatten) S) := by
    refine ⟨_, op_repT, fun x y S W v u m H H0 Q r qx qy w f => ?_⟩
    obtain ⟨xs, k, rfl, rfl, hne, h1, h2, hl, w⟩ := w
    obtain ⟨a, vs, rfl, h3, h4⟩ := qx
    have hlen := RepDs.len h4
    refine ⟨a, k, vs, rfl, qy, h3, fun e => hne ?_, h1, h2, by rw [hlen]; exact hl, f.tup r (RepDs.rep h4 _) w⟩
    subst e
    simpa using hlen.symm
  refine (a1.or a2).imp fun x y S W w => ?_
  unfold pMulI at w
  split at w
  · exact .inl w
  · exact .inr ⟨_, _, rfl, rfl, w⟩
  · exact w.elim
/-! ### equality -/
mutual
def py : D → PyData
  | .non => .none
  | .bl b => .bool b
  | .int i => .int i
  | .str x => .str x
  | .tup xs => .tuple (pys xs)
  | .lst xs => .list (pys xs)
def pys : List D → List PyData
  | [] => []
  | x :: xs => py x :: pys xs
end
theorem py_plains : ∀ xs : List D, PyData.plainAll (pys xs) = true := by
  have h : (∀ x : D, PyData.plain (py x) = true) ∧ ∀ xs : List D, PyData.plainAll (pys xs) = true := by
    constructor
    · intro x
      exact D.rec (motive_1 := fun x => PyData.plain (py x) = true) (motive_2 := fun xs => PyData.plainAll (pys xs) = true) rfl (fun _ => rfl) (fun _ => rfl) (fun _ => rfl) (fun xs h => by simpa [py, PyData.plain] using h) (fun xs h => by simpa [py, PyData.plain] using h) rfl (fun x xs h1 h2 => by simp [pys, PyData.plainAll, h1, h2]) x
    · intro xs
      exact D.rec_1 (motive_1 := fun x => PyData.plain (py x) = true) (motive_2 := fun xs => PyData.plainAll (pys xs) = true) rfl (fun _ => rfl) (fun _ => rfl) (fun _ => rfl) (fun xs h => by simpa [py, PyData.plain] using h) (fun xs h => by simpa [py, PyData.plain] using h) rfl (fun x xs h1 h2 => by simp [pys, PyData.plainAll, h1, h2]) xs
  exact h.2
theorem py_plain (x : D) : PyData.plain (py x) = true := by
  have := py_plains [x]
  simpa [pys, PyData.plainAll] using this
mutual
theorem RepD.dp {K : PySem.W.Frag} {H : Hp} : ∀ (x : D) (v : V), RepD K H x v → Dp K H v (py x)
  | .non, v, h => by cases h; exact .non
  | .bl b, v, h => by cases h; exact .bl b
  | .int i, v, h => by cases h; exact .int i
  | .str x, v, h => by cases h; exact .str x
  | .tup xs, v, ⟨a, vs, e, h, r⟩ => by subst e; exact .tup h (RepDs.dp xs vs r)
  | .lst xs, v, ⟨a, vs, e, h, r⟩ => by subst e; exact .lst h.sq (RepDs.dp xs vs r)
theorem RepDs.dp {K : PySem.W.Frag} {H : Hp} : ∀ (xs : List D) (vs : List V), RepDs K H xs vs → DpAll K H vs (pys xs)
  | [], v, h => by cases h; exact .nil
  | x :: xs, _, ⟨v, r, e, h, t⟩ => by subst e; exact .cons (RepD.dp x v h) (RepDs.dp xs r t)
end
/-- what the items of a tuple of values read as -/
def pyTr (S : Sto) : List R → Option (List PyData)
  | [] => some []
  | .d x :: r => (pyTr S r).map (py x :: ·)
  | .loc n :: r => match S[n]? with
    | some (.lst xs) => (pyTr S r).map (.list (pys xs) :: ·)
    | _ => none
  | _ :: _ => none
theorem RepRs.pyT {K : PySem.W.Frag} {m : List Addr} {H : Hp} {S : Sto} (r : RepS K m H S) : ∀ {xs : List R} {vs : List V} {ds : List PyData}, RepRs K m H xs vs → pyTr S xs = some ds → DpAll K H vs ds ∧ PyData.plainAll ds = true
  | [], vs, ds, h, e => by cases h; simp only [pyTr, Option.some.injEq] at e; subst e; exact ⟨.nil, rfl⟩
  | .d x :: xs, _, ds, ⟨v, t, e1, h, q⟩, e => by
    subst e1
    simp only [pyTr, Option.map_eq_some_iff] at e
    obtain ⟨ds', e2, rfl⟩ := e
    obtain ⟨h1, h2⟩ := RepRs.pyT r q e2
    exact ⟨.cons (RepD.dp x v h) h1, by simp [PyData.plainAll, py_plain, h2]⟩
  | .loc n :: xs, _, ds, ⟨v, t, e1, ⟨a, h, e0⟩, q⟩, e => by
    subst e1 e0
    simp only [pyTr] at e
    split at e
    · rename_i ys e3
      rw [Option.map_eq_some_iff] at e
      obtain ⟨ds', e2, rfl⟩ := e
      obtain ⟨h1, h2⟩ := RepRs.pyT r q e2
      obtain ⟨a', h', vs, k1, k2⟩ := r.at_ n _ e3
      rw [h] at h'; cases h'
      exact ⟨.cons (.lst (.inl (.inl k1)) (RepDs.dp ys vs k2)) h1, by simp [PyData.plainAll, PyData.plain, py_plains, h2]⟩
    · cases e
  | .ro _ :: _, _, _, _, e => by cases e
  | .ex _ :: _, _, _, _, e => by cases e
  | .ad _ :: _, _, _, _, e => by cases e
  | .tr _ :: _, _, _, _, e => by cases e
/-- what a value reads as -/
def pyOf (S : Sto) : SV → Option PyData
  | .r (.d x) => some (py x)
  | .r (.loc n) => match S[n]? with
    | some (.lst xs) => some (.list (pys xs))
    | _ => none
  | .r (.ro xs) => some (.list (pys xs))
  | .f xs => some (.list (pys xs))
  | .r (.tr xs) => (pyTr S xs).map PyData.tuple
  | .r (.ex _) => none
  | .r (.ad _) => none
theorem RepV.py {K : PySem.W.Frag} {m : List Addr} {H H0 : Hp} {S : Sto} {x : SV} {v : V} {d : PyData} (h : RepV K m H H0 x v) (r : RepS K m H S) (e : pyOf S x = some d) : Dp K H v d ∧ PyData.plain d = true := by
  cases x with
  | f ys =>
    obtain ⟨a, vs, rfl, h1, _, _, h4⟩ := h
    simp only [pyOf, Option.some.injEq] at e; subst e
    exact ⟨.lst (.inl (.inl h1)) (RepDs.dp ys vs h4), by simp [PyData.plain, py_plains]⟩
  | r y =>
    cases y with
    | d y => simp only [pyOf, Option.some.injEq] at e; subst e; exact ⟨RepD.dp y v h, py_plain y⟩
    | tr ys =>
      obtain ⟨a, vs, rfl, h1, h2⟩ := h
      simp only [pyOf, Option.map_eq_some_iff] at e
      obtain ⟨ds, e1, rfl⟩ := e
      obtain ⟨k1, k2⟩ := RepRs.pyT r h2 e1
      exact ⟨.tup h1 k1, by simpa [PyData.plain] using k2⟩
    | ex ys => cases e
    | ad ys => cases e
    | ro ys =>
      obtain ⟨a, vs, rfl, h1, h2⟩ := h
      simp only [pyOf, Option.some.injEq] at e; subst e
      exact ⟨.lst h1.sq (RepDs.dp ys vs h2), by simp [PyData.plain, py_plains]⟩
    | loc n =>
      obtain ⟨a, h1, rfl⟩ := h
      simp only [pyOf] at e
      split at e
      · rename_i ys e2
        cases e
        obtain ⟨a', h1', vs, h2, h3⟩ := r.at_ n _ e2
        rw [h1] at h1'; cases h1'
        exact ⟨.lst (.inl (.inl h2)) (RepDs.dp ys vs h3), by simp [PyData.plain, py_plains]⟩
      · cases e
abbrev pEqB (neg : Bool) : P2 := fun x y S W => match pyOf S x, pyOf S y with
  | some d, some e => min d.depth e.depth ≤ 64 ∧ W (.r (.d (.bl (if neg then !PyData.eqv d e else PyData.eqv d e)))) S
  | _, _ => False
abbrev pEq : P2 := pEqB false
abbrev pNe : P2 := pEqB true
theorem o_eq (hu : X.A.units + 64 < cLine) : OpP X (compareOp .Eq) pEq := by
  refine ⟨fun x y H Q => ∃ d e, Dp X.K H x d ∧ Dp X.K H y e ∧ d.plain = true ∧ e.plain = true ∧ min d.depth e.depth ≤ 64 ∧ Q (.bl (PyData.eqv d e)) H, ?_, fun x y S W v u m H H0 Q r qx qy w f => ?_⟩
  · intro pins s σ H x y v u Q I rx ry h
    obtain ⟨d, e, hd, he, sd, se, hm, q⟩ := h
    obtain ⟨as, r1⟩ := Dp.reads I d x v hd rx
    obtain ⟨bs, r2⟩ := Dp.reads I e y u he ry
    exact SeqAt.eq_plain r1 r2 sd se (by omega) ⟨.bl _, H, I, rfl, q⟩
  · simp only [pEq, pNe, pEqB] at w
    split at w
    · rename_i d e e1 e2
      obtain ⟨h1, h2⟩ := qx.py r e1
      obtain ⟨h3, h4⟩ := qy.py r e2
      exact ⟨d, e, h1, h3, h2, h4, w.1, f.here r (x := svb _) rfl w.2⟩
    · exact w.elim
theorem o_ne (hu : X.A.units + 64 < cLine) : OpP X (compareOp .NotEq) pNe := by
  refine ⟨fun x y H Q => ∃ d e, Dp X.K H x d ∧ Dp X.K H y e ∧ d.plain = true ∧ e.plain = true ∧ min d.depth e.depth ≤ 64 ∧ Q (.bl (!PyData.eqv d e)) H, ?_, fun x y S W v u m H H0 Q r qx qy w f => ?_⟩
  · intro pins s σ H x y v u Q I rx ry h
    obtain ⟨d, e, hd, he, sd, se, hm, q⟩ := h
    obtain ⟨as, r1⟩ := Dp.reads I d x v hd rx
    obtain ⟨bs, r2⟩ := Dp.reads I e y u he ry
    exact SeqAt.ne_plain r1 r2 sd se (by omega) ⟨.bl _, H, I, rfl, q⟩
  · simp only [pEq, pNe, pEqB] at w
    split at w
    · rename_i d e e1 e2
      obtain ⟨h1, h2⟩ := qx.py r e1
      obtain ⟨h3, h4⟩ := qy.py r e2
      exact ⟨d, e, h1, h3, h2, h4, w.1, f.here r (x := svb _) rfl w.2⟩
    · exact w.elim
/-- in, not in: an item of a row -/
abbrev pInB (neg : Bool) : P2 := fun x y S W => match pyOf S x, seqOf S y with
  | some d, some ys => d.depth ≤ 60 ∧ W (.r (.d (.bl (if neg then !((pys ys).any fun z => PyData.eqv z d) else (pys ys).any fun z => PyData.eqv z d)))) S
  | _, _ => False
theorem RepV.reads {K : PySem.W.Frag} {m : List Addr} {H H0 : Hp} {S : Sto} {y : SV} {v : V} {ys : List D} (h : RepV K m H H0 y v) (r : RepS K m H S) (e : seqOf S y = some ys) : Dp K H v (if isLst y = true then .list (pys ys) else .tuple (pys ys)) := by
  obtain ⟨a, vs, rfl, h1, h2⟩ := h.seq r e
  split at h2 <;> rename_i hl
  · rw [if_pos hl]; exact .lst h2 (RepDs.dp ys vs h1)
  · rw [if_neg hl]; exact .tup h2 (RepDs.dp ys vs h1)
/-- is None, is not None -/
def isNon : SV → Bool
  | .r (.d .non) => true
  | _ => false
abbrev pIsN (neg : Bool) : P2 := fun x y S W => match y with
  | .r (.d .non) => W (.r (.d (.bl (if neg then !isNon x else isNon x)))) S
  | _ => False
end
/-! ### items, slices -/
section
variable {X : Cx} {e a b : Expr} {es : List Expr} {pos p2 : Pos} {wa wb wl wh : PE1} {was : PA1}
def getI (xs : List D) (k : Int) : Option D := if 0 ≤ k then xs[k.toNat]? else if -(xs.length : Int) ≤ k then xs[(k + xs.length).toNat]? else none
abbrev pIx : P2 := fun x y S W => match seqOf S x, y with
  | some xs, .r (.d (.int k)) => match getI xs k with
    | some z => W (.r (.d z)) S
    | none => False
  | _, _ => False
theorem RepDs.atI {K : PySem.W.Frag} {H : Hp} {xs : List D} {vs : List V} {k : Int} {z : D} (h : RepDs K H xs vs) (e : getI xs k = some z) : ∃ v, L2.atI vs k = some v ∧ RepD K H z v := by
  unfold getI at e
  unfold L2.atI ixN
  have hl := RepDs.len h
  rw [hl]
  by_cases h0 : 0 ≤ k
  · rw [if_pos h0] at e
    obtain ⟨v, h1, h2⟩ := RepDs.get h e
    have : k.toNat < vs.length := (List.getElem?_eq_some_iff.mp h1).1
    rw [if_pos h0, if_pos (by omega)]
    exact ⟨v, h1, h2⟩
  · rw [if_neg h0] at e
    split at e
    · rename_i h1
      obtain ⟨v, h2, h3⟩ := RepDs.get h e
      rw [if_neg h0, if_pos h1]
      exact ⟨v, h2, h3⟩
    · cases e
theorem we_ix (ha : WE X a wa) (hb : WE X b wb) (hs : PlainIx b) : WE X (.Subscript a b pos) (wBin pIx wa wb) := by
  refine ⟨peImp (pe_ix (ix_list.or ix_tup) ha.pe hb.pe hs) fun s H Q ⟨m, ρ, S, W, hE, hS, hw, hf⟩ => up2 hE hS hw fun x y S2 v u m2 H2 z g2 r2 qx qy => ?_⟩
  unfold pIx at z
  split at z
  · rename_i xs k e1
    split at z
    · rename_i d e2
      obtain ⟨p, vs, rfl, h1, h2⟩ := qx.seq r2 e1
      obtain ⟨w, h3, h4⟩ := RepDs.atI h1 e2
      have fin := hf.later g2 r2
      split at h2
      · exact .inl ⟨p, vs, k, w, rfl, qy, h2, h3, fin.here r2 (x := .r (.d d)) h4 z⟩
      · exact .inr ⟨p, vs, k, w, rfl, qy, h2, h3, fin.here r2 (x := .r (.d d)) h4 z⟩
    · exact z.elim
  · exact z.elim
/-- a slice's bound -/
structure WO (X : Cx) (e : Option Expr) (w : Rho → Sto → (Option Int → Sto → Prop) → Prop) : Prop where
  po : PO X e (fun s H Q => ∃ m r S W, RepE X.K m H r s ∧ RepS X.K m H S ∧ w r S W ∧ ∀ o S' m' H', W o S' → Grow m H m' H' → RepS X.K m' H' S' → Q o H')
abbrev wNo : Rho → Sto → (Option Int → Sto → Prop) → Prop := fun _ S W => W none S
abbrev wSome (w : PE1) : Rho → Sto → (Option Int → Sto → Prop) → Prop := fun r S W => w r S fun x S1 => match x with
  | .r (.d (.int i)) => W (some i) S1
  | _ => False
theorem wo_none : WO X none wNo := ⟨⟨fun pins s z H Q I ⟨m, r, S, W, hE, hS, hw, hf⟩ => (po_none (X := X)).run pins s z H Q I (hf none S m H hw Grow.refl hS)⟩⟩
theorem wo_some (h : WE X e wa) : WO X (some e) (wSome wa) := ⟨⟨fun pins s z H Q I ⟨m, r, S, W, hE, hS, hw, hf⟩ => (po_some h.pe).run pins s z H Q I (up1 hE hS hw fun x S1 v m1 H1 h1 g1 r1 q1 => by
    split at h1
    · rename_i i
      exact ⟨i, q1, hf _ S1 m1 H1 h1 g1 r1⟩
    · exact h1.elim)⟩⟩
def cutD (xs : List D) (lo hi : Option Int) : List D := (xs.drop (HT.sIx xs.length 0 lo)).take (HT.sIx xs.length xs.length hi - HT.sIx xs.length 0 lo)
abbrev wSl (wa : PE1) (wl wh : Rho → Sto → (Option Int → Sto → Prop) → Prop) : PE1 := fun r S W => wa r S fun x S1 => wl r S1 fun lo S2 => wh r S2 fun hi S3 => match seqOf S3 x with
  | some xs => W (if isLst x then .f (cutD xs lo hi) else .r (.d (.tup (cutD xs lo hi)))) S3
  | none => False
theorem RepDs.cut {K : PySem.W.Frag} {H : Hp} {xs : List D} {vs : List V} (h : RepDs K H xs vs) (lo hi : Option Int) : RepDs K H (cutD xs lo hi) (cutV vs lo hi) := by
  unfold cutD cutV
  rw [RepDs.len h]
  exact (h.drop _).take _
theorem cut_whole {xs : List D} {lo hi : Option Int} (h : HT.sIx xs.length 0 lo = 0 ∧ HT.sIx xs.length xs.length hi = xs.length) : cutD xs lo hi = xs := by
  unfold cutD
  rw [h.1, h.2]; simp
theorem we_slice {lo hi : Option Expr} {wl wh : Rho → Sto → (Option Int → Sto → Prop) → Prop} (ha : WE X a wa) (hl : WO X lo wl) (hh : WO X hi wh) : WE X (.Subscript a (.Slice lo hi none p2) pos) (wSl wa wl wh) := by
  refine ⟨peImp (pe_slice (sl_list.or sl_tupA) ha.pe hl.po hh.po) fun s H Q ⟨m, ρ, S, W, hE, hS, hw, hf⟩ => up1 hE hS hw fun x S1 v m1 H1 h1 g1 r1 q1 => ?_⟩
  refine ⟨m1, ρ, S1, _, hE.grow g1, r1, h1, fun lo S2 m2 H2 h2 g2 r2 => ⟨m2, ρ, S2, _, (hE.grow g1).grow g2, r2, h2, fun hi S3 m3 H3 h3 g3 r3 => ?_⟩⟩
  split at h3
  · rename_i xs e
    have g13 := g2.trans g3
    obtain ⟨p, vs, rfl, k1, k2⟩ := (q1.grow g13).seq r3 e
    have fin := hf.later (g1.trans g13) r3
    have hc := k1.cut lo hi
    split at k2 <;> rename_i hl
    · rw [if_pos hl] at h3
      exact .inl ⟨p, vs, rfl, k2, fin.lst r3 hc h3⟩
    · rw [if_neg hl] at h3
      refine .inr ⟨p, vs, rfl, k2, fun hw => ?_, fun _ => fin.tup r3 hc h3⟩
      rw [RepDs.len k1] at hw
      rw [cut_whole hw] at h3
      exact fin.here r3 (x := svt xs) ⟨p, vs, rfl, k2, k1⟩ h3
  · exact h3.elim
/-! ### built-in functions -/
abbrev PF := List SV → Sto → PK1 → Prop
def FnP (X : Cx) (f : Value) (rp : PF) : Prop :=
  ∃ r : List V → Hp → VK → Prop, CallR X f r ∧ ∀ xs S W vs m H H0 Q, RepS X.K m H S → RepVs X.K m H H0 xs vs → rp xs S W → Fin X.K m H W Q → r vs H Q
abbrev wFn (rp : PF) (ws : PA1) : PE1 := fun r S W => ws r S fun xs S1 => rp xs S1 W
theorem we_blt {id : String} {x : Str} {p : Pos} {rp : PF} (hc : FnP X (.builtin id) rp) (hg : Gl X x) (hm : X.mg x = none) (hv : bootBuiltins x = some (.builtin id)) (ha : WA X (e :: es) was) (hn : x ≠ "__name__" := by decide) (hdb : (x == ("__debug__" : Str)) = false := by decide)
    (he : starEach (e :: es) X.env = (false, eval e X.env) :: starEach es X.env := by rfl) (hpl : (backTo pos (starEach es X.env)).any (·.1) = false := by rfl) : WE X (.Call (.Name x p) (e :: es) [] pos) (wFn rp was) := by
  obtain ⟨r, h1, h2⟩ := hc
  exact ⟨peImp (pe_callB h1 hg hm hv ha.pa hn hdb he hpl) fun s H Q ⟨m, ρ, S, W, hE, hS, hw, hf⟩ => ⟨m, ρ, S, _, hE, hS, hw, fun xs S1 vs m1 H1 k1 g1 r1 q1 => h2 xs S1 W vs m1 H1 H Q r1 q1 k1 (hf.later g1 r1)⟩⟩
theorem we_ty {T : String} {x : Str} {p : Pos} {rp : PF} (hc : FnP X (.type T) rp) (hg : Gl X x) (hm : X.mg x = none) (hv : bootBuiltins x = some (.type T)) (ha : WA X (e :: es) was) (hn : x ≠ "__name__" := by decide) (hdb : (x == ("__debug__" : Str)) = false := by decide)
    (he : starEach (e :: es) X.env = (false, eval e X.env) :: starEach es X.env := by rfl) (hpl : (backTo pos (starEach es X.env)).any (·.1) = false := by rfl) : WE X (.Call (.Name x p) (e :: es) [] pos) (wFn rp was) := by
  obtain ⟨r, h1, h2⟩ := hc
  exact ⟨peImp (pe_callTy h1 hg hm hv ha.pa hn hdb he hpl) fun s H Q ⟨m, ρ, S, W, hE, hS, hw, hf⟩ => ⟨m, ρ, S, _, hE, hS, hw, fun xs S1 vs m1 H1 k1 g1 r1 q1 => h2 xs S1 W vs m1 H1 H Q r1 q1 k1 (hf.later g1 r1)⟩⟩
theorem RepVs.one {K : PySem.W.Frag} {m : List Addr} {H H0 : Hp} {x : SV} {vs : List V} (h : RepVs K m H H0 [x] vs) : ∃ v, vs = [v] ∧ RepV K m H H0 x v := by
  obtain ⟨v, r, e, h1, h2⟩ := h; cases h2; exact ⟨v, e, h1⟩
theorem RepVs.two {K : PySem.W.Frag} {m : List Addr} {H H0 : Hp} {x y : SV} {vs : List V} (h : RepVs K m H H0 [x, y] vs) : ∃ v u, vs = [v, u] ∧ RepV K m H H0 x v ∧ RepV K m H H0 y u := by
  obtain ⟨v, r, rfl, h1, h2⟩ := h
  obtain ⟨u, rfl, h3⟩ := RepVs.one h2
  exact ⟨v, u, rfl, h1, h3⟩
abbrev fLen : PF := fun xs S W => match xs with
  | [x] => match seqOf S x with
    | some ys => W (.r (.d (.int ys.length))) S
    | none => False
  | _ => False
theorem f_len : FnP X (.builtin "len") fLen := by
  refine ⟨_, call_len_seq, fun xs S W vs m H H0 Q r q w f => ?_⟩
  unfold fLen at w
  split at w
  · rename_i x
    obtain ⟨v, rfl, q1⟩ := q.one
    split at w
    · rename_i ys e
      obtain ⟨p, us, rfl, h1, h2⟩ := q1.seq r e
      refine ⟨p, us, rfl, ?_, ?_⟩
      · split at h2
        · exact .inl h2
        · exact .inr h2
      · rw [RepDs.len h1]; exact f.here r (x := svi _) rfl w
    · exact w.elim
  · exact w.elim
abbrev fTup : PF := fun xs S W => match xs with
  | [x] => match seqOf S x with
    | some ys => W (.r (.d (.tup ys))) S
    | none => False
  | _ => False
theorem f_tup : FnP X (.type "tuple") fTup := by
  refine ⟨_, call_tuple_of, fun xs S W vs m H H0 Q r q w f => ?_⟩
  unfold fTup at w
  split at w
  · rename_i x
    obtain ⟨v, rfl, q1⟩ := q.one
    split at w
    · rename_i ys e
      obtain ⟨p, us, rfl, h1, h2⟩ := q1.seq r e
      refine ⟨p, us, rfl, ?_⟩
      split at h2
      · exact .inl ⟨h2, f.tup r h1 w⟩
      · exact .inr ⟨h2, f.here r (x := svt ys) ⟨p, us, rfl, h2, h1⟩ w⟩
    · exact w.elim
  · exact w.elim
abbrev fList : PF := fun xs S W => match xs with
  | [x] => match seqOf S x with
    | some ys => W (.f ys) S
    | none => False
  | _ => False
theorem f_list : FnP X (.type "list") fList := by
  refine ⟨_, call_list_of, fun xs S W vs m H H0 Q r q w f => ?_⟩
  unfold fList at w
  split at w
  · rename_i x
    obtain ⟨v, rfl, q1⟩ := q.one
    split at w
    · rename_i ys e
      obtain ⟨p, us, rfl, h1, h2⟩ := q1.seq r e
      refine ⟨p, us, rfl, ?_, f.lst r h1 w⟩
      split at h2
      · exact .inl h2
      · exact .inr h2
    · exact w.elim
  · exact w.elim
/-- the ints of a row -/
def intsOf : List D → Option (List Int)
  | [] => some []
  | .int i :: r => (intsOf r).map (i :: ·)
  | _ :: _ => none
theorem intsOf_map : ∀ ns : List Int, intsOf (ns.map D.int) = some ns
  | [] => rfl
  | n :: ns => by simp [intsOf, intsOf_map ns]
theorem ints_eq : ∀ {xs : List D} {ns : List Int}, intsOf xs = some ns → xs = ns.map D.int
  | [], ns, h => by simp [intsOf] at h; subst h; rfl
  | .int i :: xs, ns, h => by
    simp only [intsOf, Option.map_eq_some_iff] at h
    obtain ⟨r, h1, rfl⟩ := h
    rw [ints_eq h1]; rfl
  | .non :: _, _, h => by cases h
  | .bl _ :: _, _, h => by cases h
  | .str _ :: _, _, h => by cases h
  | .tup _ :: _, _, h => by cases h
  | .lst _ :: _, _, h => by cases h
theorem RepDs.toInts {K : PySem.W.Frag} {H : Hp} : ∀ {ns : List Int} {vs : List V}, RepDs K H (ns.map D.int) vs → vs = ns.map V.int
  | [], _, h => h
  | n :: ns, _, ⟨v, r, e, h, t⟩ => by subst e; rw [RepDs.toInts t, show v = V.int n from h]; rfl
theorem repInts {K : PySem.W.Frag} {H : Hp} : ∀ ns : List Int, RepDs K H (ns.map D.int) (ns.map V.int)
  | [] => rfl
  | n :: ns => ⟨_, _, rfl, rfl, repInts ns⟩
abbrev fSum : PF := fun xs S W => match xs with
  | [x] => match isLst x, (seqOf S x).bind intsOf with
    | true, some ns => W (.r (.d (.int ns.sum))) S
    | _, _ => False
  | _ => False
theorem f_sum (hc : X.calm = true) : FnP X (.builtin "sum") fSum := by
  refine ⟨_, cr_sum hc, fun xs S W vs m H H0 Q r q w f => ?_⟩
  unfold fSum at w
  split at w
  · rename_i x
    obtain ⟨v, rfl, q1⟩ := q.one
    split at w
    · rename_i ns hl e
      rw [Option.bind_eq_some_iff] at e
      obtain ⟨ys, e1, e2⟩ := e
      rw [ints_eq e2] at e1
      obtain ⟨p, us, rfl, h1, h2⟩ := q1.seq r e1
      rw [if_pos hl] at h2
      rw [RepDs.toInts h1] at h2
      exact ⟨p, ns, rfl, h2, f.here r (x := svi _) rfl w⟩
    · exact w.elim
  · exact w.elim
abbrev fAbs : PF := fun xs S W => match xs with
  | [.r (.d (.int i))] => W (.r (.d (.int i.natAbs))) S
  | _ => False
theorem f_abs : FnP X (.builtin "abs") fAbs := by
  refine ⟨_, call_abs, fun xs S W vs m H H0 Q r q w f => ?_⟩
  unfold fAbs at w
  split at w
  · rename_i i
    obtain ⟨v, rfl, q1⟩ := q.one
    obtain rfl : v = V.int i := q1
    refine ⟨i, rfl, ?_⟩
    have e : (if i < 0 then -i else i) = (i.natAbs : Int) := by split <;> omega
    rw [e]
    exact f.here r (x := svi _) rfl w
  · exact w.elim
abbrev fMax2 : PF := fun xs S W => match xs with
  | [.r (.d (.int i)), .r (.d (.int j))] => W (.r (.d (.int (max i j)))) S
  | _ => False
theorem f_max2 (hc : X.calm = true) : FnP X (.builtin "max") fMax2 := by
  refine ⟨_, call_max2 hc, fun xs S W vs m H H0 Q r q w f => ?_⟩
  unfold fMax2 at w
  split at w
  · rename_i i j
    obtain ⟨v, u, rfl, q1, q2⟩ := q.two
    obtain rfl : v = V.int i := q1
    obtain rfl : u = V.int j := q2
    refine ⟨i, j, rfl, ?_⟩
    have e : (if j > i then j else i) = max i j := by split <;> omega
    rw [e]
    exact f.here r (x := svi _) rfl w
  · exact w.elim
abbrev fMin2 : PF := fun xs S W => match xs with
  | [.r (.d (.int i)), .r (.d (.int j))] => W (.r (.d (.int (min i j)))) S
  | _ => False
abbrev fInt : PF := fun xs S W => match xs with
  | [.r (.d (.int i))] => W (.r (.d (.int i))) S
  | [.r (.d (.bl b))] => W (.r (.d (.int (if b = true then 1 else 0)))) S
  | _ => False
theorem f_int : FnP X (.type "int") fInt := by
  refine ⟨_, call_int1, fun xs S W vs m H H0 Q r q w f => ?_⟩
  unfold fInt at w
  split at w
  · rename_i i
    obtain ⟨v, rfl, q1⟩ := q.one
    obtain rfl : v = V.int i := q1
    exact .inl ⟨i, rfl, f.here r (x := svi _) rfl w⟩
  · rename_i b
    obtain ⟨v, rfl, q1⟩ := q.one
    obtain rfl : v = V.bl b := q1
    exact .inr ⟨b, rfl, f.here r (x := svi _) rfl w⟩
  · exact w.elim
/-! ### isinstance with a built-in type -/
def tyN : SV → String
  | .r (.d .non) => "NoneType"
  | .r (.d (.bl _)) => "bool"
  | .r (.d (.int _)) => "int"
  | .r (.d (.str _)) => "str"
  | .r (.d (.tup _)) => "tuple"
  | .r (.d (.lst _)) => "list"
  | .r (.tr _) => "tuple"
  | .r (.loc _) => "list"
  | .r (.ro _) => "list"
  | .r (.ex _) => "list"
  | .r (.ad _) => "list"
  | .f _ => "list"
/-- is it one of the type T? -/
def isT (T : String) (x : SV) : Bool := tyN x == T || (tyN x == "bool" && T == "int")
theorem kit_tys : ∀ a ∈ ["NoneType", "bool", "int", "str", "tuple", "list"], ∀ b ∈ ["bool", "int", "str", "tuple", "list"], kitB a b = some (a == b || (a == "bool" && b == "int")) := by decide +kernel
theorem tyN_mem (x : SV) : tyN x ∈ ["NoneType", "bool", "int", "str", "tuple", "list"] := by
  cases x with
  | f _ => simp [tyN]
  | r y => cases y with
    | d y => cases y <;> simp [tyN]
    | loc _ => simp [tyN]
    | ro _ => simp [tyN]
    | tr _ => simp [tyN]
    | ex _ => simp [tyN]
    | ad _ => simp [tyN]
theorem tyx_tup {K : PySem.W.Frag} {H : Hp} {a : Addr} {vs : List V} (h : SqT K H a vs) : TyX K H (.ref a) (.type "tuple") := by
  rcases h with (h | ⟨o, h⟩) | ⟨o, its, n, h, hc, _⟩
  · exact .base (.tup h)
  · exact .fTuple h
  · exact .kTuple h hc
theorem RepV.ty {K : PySem.W.Frag} {m : List Addr} {H H0 : Hp} {S : Sto} {x : SV} {v : V} (h : RepV K m H H0 x v) (r : RepS K m H S) (hl : ∀ n, x = .r (.loc n) → isLo S n = true) (hx : (∀ z, x ≠ .r (.ex z)) ∧ ∀ z, x ≠ .r (.ad z)) : TyX K H v (.type (tyN x)) := by
  cases x with
  | f ys => obtain ⟨a, vs, rfl, h1, _⟩ := h; exact .base (.lst h1)
  | r y =>
    cases y with
    | loc n =>
      obtain ⟨a, h1, rfl⟩ := h
      obtain ⟨xs, e⟩ := isLo_get (hl n rfl)
      obtain ⟨a', h2, vs, h4, _⟩ := r.at_ n _ e
      rw [h1] at h2; cases h2
      exact .base (.lst h4)
    | ro ys =>
      obtain ⟨a, vs, rfl, h1, h2⟩ := h
      rcases h1 with ⟨o, h1⟩ | ⟨o, its, n, h1, hc, _⟩
      · exact .base (.frz h1)
      · exact .kList h1 hc
    | tr ys => obtain ⟨a, vs, rfl, h1, h2⟩ := h; exact tyx_tup h1
    | ex z => exact absurd rfl (hx.1 z)
    | ad z => exact absurd rfl (hx.2 z)
    | d y =>
      cases y with
      | non => cases h; exact .base .non
      | bl b => cases h; exact .base (.bl b)
      | int i => cases h; exact .base (.int i)
      | str i => cases h; exact .base (.str i)
      | tup ys => obtain ⟨a, vs, rfl, h1, h2⟩ := h; exact tyx_tup h1
      | lst ys =>
        obtain ⟨a, vs, rfl, h1, h2⟩ := h
        rcases h1 with ⟨o, h1⟩ | ⟨o, its, n, h1, hc, _⟩
        · exact .base (.frz h1)
        · exact .kList h1 hc
abbrev wIsi (T : String) (wa : PE1) : PE1 := fun r S W => wa r S fun x S1 => match x with
  | .r (.ex _) => False
  | .r (.ad _) => False
  | x => (∀ n, x = .r (.loc n) → isLo S1 n = true) ∧ W (.r (.d (.bl (isT T x)))) S1
theorem we_isi {T : String} {x : Str} {p q : Pos} (hT : T ∈ ["bool", "int", "str", "tuple", "list"]) (hg : Gl X "isinstance") (hm : X.mg "isinstance" = none) (hgT : Gl X x) (hmT : X.mg x = none) (hvT : bootBuiltins x = some (.type T)) (ha : WE X a wa)
    (he : starEach (a :: [.Name x q]) X.env = (false, eval a X.env) :: starEach [.Name x q] X.env := by rfl) (he2 : starEach [.Name x q] X.env = (false, eval (.Name x q) X.env) :: starEach [] X.env := by rfl)
    (hpl : (backTo pos (starEach [.Name x q] X.env)).any (·.1) = false := by rfl) (hn : x ≠ "__name__" := by decide) (hd : (x == ("__debug__" : Str)) = false := by decide) : WE X (.Call (.Name "isinstance" p) [a, .Name x q] [] pos) (wIsi T wa) := by
  refine ⟨peImp (pe_callB call_isi hg hm boot_isinstance (pa_cons ha.pe (pa_cons (pe_bltn (v := .ty T) hgT hmT hvT rfl hn hd) pa_nil he2) he) (by decide) (by decide) he hpl) fun s H Q ⟨m, ρ, S, W, hE, hS, hw, hf⟩ => up1 hE hS hw fun x S1 v m1 H1 k1 g1 r1 q1 => ?_⟩
  obtain ⟨hx, hl, w⟩ : ((∀ z, x ≠ .r (.ex z)) ∧ ∀ z, x ≠ .r (.ad z)) ∧ (∀ n, x = .r (.loc n) → isLo S1 n = true) ∧ W (.r (.d (.bl (isT T x)))) S1 := by
    split at k1
    · exact k1.elim
    · exact k1.elim
    · rename_i hn hm
      exact ⟨⟨fun z e => hn z e, fun z e => hm z e⟩, k1⟩
  refine ⟨v, .ty T, .type (tyN x), .type T, isT T x, rfl, .ty T, q1.ty r1 hl hx, kit_ty (kit_tys _ (tyN_mem x) T hT), (hf.later g1 r1).here r1 (x := svb _) rfl w⟩
end
end Z
set_option Elab.async false
set_option linter.all false
set_option maxRecDepth 100000
/-! Z4: statements, targets, loops, comprehensions. -/
namespace Z
open PySem PySem.Spec PyProof.Rows L2
/-- what is wanted behind a statement -/
structure En where
  nx : Rho → Sto → Prop
  rt : R → Sto → Prop
  bk : Rho → Sto → Prop := fun _ _ => False
  ct : Rho → Sto → Prop := fun _ _ => False
abbrev PS1 := En → Rho → Sto → Prop
structure Fins (K : PySem.W.Frag) (m : List Addr) (H : Hp) (N : En) (D : Ends) : Prop where
  nx : ∀ r' S' s' m' H', N.nx r' S' → Grow m H m' H' → RepE K m' H' r' s' → RepS K m' H' S' → D.nx s' H'
  rt : ∀ x S' v m' H', N.rt x S' → Grow m H m' H' → RepS K m' H' S' → RepR K m' H' x v → D.rt v H'
  bk : ∀ r' S' s' m' H', N.bk r' S' → Grow m H m' H' → RepE K m' H' r' s' → RepS K m' H' S' → D.bk s' H'
  ct : ∀ r' S' s' m' H', N.ct r' S' → Grow m H m' H' → RepE K m' H' r' s' → RepS K m' H' S' → D.ct s' H'
def upS (K : PySem.W.Frag) (w : PS1) : TS := fun D s H => ∃ m r S N, RepE K m H r s ∧ RepS K m H S ∧ w N r S ∧ Fins K m H N D
structure WS (X : Cx) (st : Stmt) (w : PS1) : Prop where
  ps : PS X st (upS X.K w)
structure WSs (X : Cx) (st : List Stmt) (w : PS1) : Prop where
  pss : PSs X st (upS X.K w)
section
variable {K : PySem.W.Frag} {m m0 m1 m2 : List Addr} {H H0 H1 H2 : Hp} {S S1 S2 : Sto} {N : En} {D : Ends}
theorem Fins.later (f : Fins K m H N D) (g : Grow m H m1 H1) : Fins K m1 H1 N D :=
  ⟨fun r' S' s' m' H' n g' e r => f.nx r' S' s' m' H' n (g.trans g') e r, fun x S' v m' H' n g' r q => f.rt x S' v m' H' n (g.trans g') r q,
   fun r' S' s' m' H' n g' e r => f.bk r' S' s' m' H' n (g.trans g') e r, fun r' S' s' m' H' n g' e r => f.ct r' S' s' m' H' n (g.trans g') e r⟩
mutual
theorem RepR.pre (g : ∀ (n : Nat) a, m[n]? = some a → m1[n]? = some a) : ∀ (x : R) (v : V), RepR K m H x v → RepR K m1 H x v
  | .d _, _, h => h
  | .loc n, _, ⟨a, h, e⟩ => ⟨a, g n a h, e⟩
  | .ro _, _, h => h
  | .tr xs, _, ⟨a, vs, e, h, r⟩ => ⟨a, vs, e, h, RepRs.pre g xs vs r⟩
  | .ex _, _, h => h
  | .ad _, _, h => h
theorem RepRs.pre (g : ∀ (n : Nat) a, m[n]? = some a → m1[n]? = some a) : ∀ (xs : List R) (vs : List V), RepRs K m H xs vs → RepRs K m1 H xs vs
  | [], _, h => h
  | x :: xs, _, ⟨v, r, e, h, t⟩ => ⟨v, r, e, RepR.pre g x v h, RepRs.pre g xs r t⟩
end
theorem pre_push {p : Addr} : ∀ (n : Nat) a, m[n]? = some a → (m ++ [p])[n]? = some a := fun n a e => by
  rw [List.getElem?_append_left (List.getElem?_eq_some_iff.mp e).1]; exact e
/-- a new list is given a number -/
abbrev bindV (x : SV) (S : Sto) (W : R → Sto → Prop) : Prop := match x with
  | .r y => W y S
  | .f xs => W (.loc S.length) (S ++ [.lst xs])
theorem bindV_ok {x : SV} {v : V} {W : R → Sto → Prop} (g : Grow m0 H0 m H) (r : RepS K m H S) (q : RepV K m H H0 x v) (w : bindV x S W) :
    ∃ y S' m', W y S' ∧ Grow m0 H0 m' H ∧ RepS K m' H S' ∧ RepR K m' H y v ∧ ∀ (n : Nat) a, m[n]? = some a → m'[n]? = some a := by
  cases x with
  | r y => exact ⟨y, S, m, w, g, r, q, fun _ _ h => h⟩
  | f xs =>
    obtain ⟨a, vs, e, h1, h2, h3, h4⟩ := q
    exact ⟨_, _, m ++ [a], w, Grow.push h3 g, r.push h2 h1 h4, ⟨a, by rw [← r.len]; simp, e⟩, pre_push⟩
theorem RepE.set {r : Rho} {s : L2.St} {i : Nat} {x : R} {v : V} (h : RepE K m H r s) (q : RepR K m H x v) : RepE K m H (r.set i (some x)) (s.set i (some v)) := by
  refine ⟨by simp [h.len], fun j y e => ?_⟩
  by_cases hj : i = j
  · subst hj
    have hl : i < r.length := by
      by_cases hl : i < r.length
      · exact hl
      · rw [List.getElem?_eq_none (by simpa using hl)] at e; cases e
    rw [List.getElem?_set_self hl] at e
    cases e
    exact ⟨v, by rw [List.getElem?_set_self (by rw [h.len]; exact hl)], q⟩
  · rw [List.getElem?_set_ne hj] at e
    obtain ⟨u, h1, h2⟩ := h.at_ j y e
    exact ⟨u, by rw [List.getElem?_set_ne hj]; exact h1, h2⟩
end
section
variable {X : Cx} {st : Stmt} {rest : List Stmt} {e a b c : Expr} {pos p2 : Pos} {wa wb we wi : PE1} {ws : PA1} {t u : PS1} {tc : PT1}
theorem psImp {t t' : TS} (h : PS X st t) (k : ∀ D s H, t' D s H → t D s H) : PS X st t' := ⟨fun pins s z H D I q => h.run pins s z H D I (k _ _ _ q)⟩
theorem pssImp {sts : List Stmt} {t t' : TS} (h : PSs X sts t) (k : ∀ D s H, t' D s H → t D s H) : PSs X sts t' := ⟨fun pins s z H D I q => h.run pins s z H D I (k _ _ _ q)⟩
/-! ### small statements -/
abbrev wNext : PS1 := fun N r S => N.nx r S
abbrev wSeq (t u : PS1) : PS1 := fun N r S => t { N with nx := u N } r S
theorem ws_nil : WSs X [] wNext := ⟨pssImp pss_nil fun D s H ⟨m, r, S, N, hE, hS, hw, hf⟩ => hf.nx r S s m H hw Grow.refl hE hS⟩
theorem ws_cons (h1 : WS X st t) (h2 : WSs X rest u) : WSs X (st :: rest) (wSeq t u) :=
  ⟨pssImp (pss_cons h1.ps h2.pss) fun D s H ⟨m, r, S, N, hE, hS, hw, hf⟩ => ⟨m, r, S, _, hE, hS, hw, ⟨fun r' S' s' m' H' n g e q => ⟨m', r', S', N, e, q, n, hf.later g⟩, hf.rt, hf.bk, hf.ct⟩⟩⟩
theorem ws_one (h1 : WS X st t) : WSs X [st] t := ⟨pss_one h1.ps⟩
abbrev wRet (w : PE1) : PS1 := fun N r S => w r S fun x S1 => bindV x S1 N.rt
theorem ws_ret (h : WE X e we) : WS X (.Return (some e) pos) (wRet we) := ⟨psImp (ps_ret h.pe) fun D s H ⟨m, r, S, N, hE, hS, hw, hf⟩ => ⟨m, r, S, _, hE, hS, hw, fun x S1 v m1 H1 h1 g1 r1 q1 => by
  obtain ⟨y, S2, m2, w2, g2, r2, q2, _⟩ := bindV_ok g1 r1 q1 h1
  exact hf.rt y S2 v m2 H1 w2 g2 r2 q2⟩⟩
abbrev wRetN : PS1 := fun N r S => N.rt (.d .non) S
abbrev wDrop (w : PE1) : PS1 := fun N r S => w r S fun _ S1 => N.nx r S1
theorem ws_drop (h : WE X e we) (hs : swapsWith e none pos.line X.env = pure false := by rfl) : WS X (.Expr e pos) (wDrop we) := ⟨psImp (ps_expr h.pe hs) fun D s H ⟨m, r, S, N, hE, hS, hw, hf⟩ => ⟨m, r, S, _, hE, hS, hw, fun x S1 v m1 H1 h1 g1 r1 q1 => hf.nx r S1 s m1 H1 h1 g1 (hE.grow g1) r1⟩⟩
abbrev wIf (c : PT1) (t u : PS1) : PS1 := fun N r S => c r S fun b S1 => if b = true then t N r S1 else u N r S1
theorem ws_if {p q : List Stmt} (hc : WT X c tc) (ha : WSs X p t) (hb : WSs X q u) : WS X (.If c p q pos) (wIf tc t u) := ⟨psImp (ps_if hc.pt ha.pss hb.pss) fun D s H ⟨m, r, S, N, hE, hS, hw, hf⟩ => ⟨m, r, S, _, hE, hS, hw, fun b S1 m1 H1 h1 g1 r1 => by
  cases b with
  | true => exact ⟨m1, r, S1, N, hE.grow g1, r1, h1, hf.later g1⟩
  | false => exact ⟨m1, r, S1, N, hE.grow g1, r1, h1, hf.later g1⟩⟩⟩
/-- name = value -/
abbrev wSet (i : Nat) (w : PE1) : PS1 := fun N r S => w r S fun x S1 => bindV x S1 fun y S2 => N.nx (r.set i (some y)) S2
theorem set_fin {D : Ends} {s : L2.St} {H : Hp} {i : Nat} {te : TE} (h : ∀ Q, up X.K we s H Q → te s H Q) (hw : upS X.K (wSet i we) D s H) : tAsg te (gName i) D s H := by
  obtain ⟨m, r, S, N, hE, hS, hw, hf⟩ := hw
  refine h _ ⟨m, r, S, _, hE, hS, hw, fun x S1 v m1 H1 h1 g1 r1 q1 => ?_⟩
  obtain ⟨y, S2, m2, w2, g2, r2, q2, _⟩ := bindV_ok g1 r1 q1 h1
  exact hf.nx _ S2 _ m2 H1 w2 g2 ((hE.grow g2).set q2) r2
theorem ws_set {i : Nat} {x : Str} {pos' : Pos} (hN : X.N.Nodup) (hi : X.N[i]? = some x) (hx : Loc X.env.scope x) (he : WE X e we) (hs : swapsWith e (some (.Name x pos')) pos.line X.env = pure false := by rfl) (hf : X.fn x = true ∨ X.env.scope.names.lookup x = some .local := by first | exact .inl rfl | exact .inr rfl | assumption) :
    WS X (.Assign [.Name x pos'] e pos) (wSet i we) := ⟨psImp (ps_set hN hi hx he.pe hs hf) fun D s H hw => set_fin (fun _ h => h) hw⟩
/-- a, b = x, y on one line, both plain locals -/
abbrev wPar (i j : Nat) (ws : PA1) : PS1 := fun N r S => ws r S fun xs S1 => match xs with
  | [.r x, .r y] => N.nx ((r.set i (some x)).set j (some y)) S1
  | _ => False
theorem ws_par {i j : Nat} {x y : Str} {px py pt : Pos} {kt k2 pt2} (hc : X.calm = true) (hN : X.N.Nodup) (hi : X.N[i]? = some x) (hj : X.N[j]? = some y) (hij : i ≠ j)
    (hx : X.env.scope.names.lookup x = some .local) (hy : X.env.scope.names.lookup y = some .local) (ha : WA X [a, b] ws)
    (hw : swappedStores [.Tuple [.Name x px, .Name y py] kt pt] (.Tuple [a, b] k2 pt2) X.env = pure (some [x, y]))
    (hs : swapsWithSole [.Tuple [.Name x px, .Name y py] kt pt] (.Tuple [a, b] k2 pt2) pos.line X.env = pure false := by rfl) :
    WS X (.Assign [.Tuple [.Name x px, .Name y py] kt pt] (.Tuple [a, b] k2 pt2) pos) (wPar i j ws) :=
  ⟨psImp (ps_par hc hN hi hj hij hx hy ha.pa hw hs) fun D s H ⟨m, r, S, N, hE, hS, hw, hf⟩ => ⟨m, r, S, _, hE, hS, hw, fun xs S1 vs m1 H1 h1 g1 r1 q1 => by
    split at h1
    · obtain ⟨v, u, rfl, qx, qy⟩ := q1.two
      exact ⟨v, u, rfl, hf.nx _ S1 _ m1 H1 h1 g1 (((hE.grow g1).set qx).set qy) r1⟩
    · exact h1.elim⟩⟩
/-- name op= value, ints -/
abbrev wAug (i : Nat) (g : Int → Int → Int) (w : PE1) : PS1 := fun N r S => match r[i]? with
  | some (some (.d (.int k))) => w r S fun x S1 => match x with
    | .r (.d (.int l)) => N.nx (r.set i (some (.d (.int (g k l))))) S1
    | _ => False
  | _ => False
/-! ### targets of names -/
/-- a target stores at the slots vs, what f tells -/
structure Tgt (K : PySem.W.Frag) (g : TG) (vs : List Nat) (f : R → Rho → Option Rho) : Prop where
  run : ∀ m H x v r r' (s : L2.St), RepR K m H x v → RepE K m H r s → f x r = some r' → ∃ s', (∀ Q : L2.St → Hp → Prop, Q s' H → g v s H Q) ∧ RepE K m H r' s' ∧ (∀ us : List Nat, (∀ i ∈ vs, i ∈ us) → wipe s' us = wipe s us)
theorem wipe_set {s : L2.St} {i : Nat} {o : Option V} : ∀ {us : List Nat}, i ∈ us → wipe (s.set i o) us = wipe s us
  | [], h => nomatch h
  | u :: us, h => by
    unfold wipe
    by_cases hu : i ∈ us
    · rw [wipe_set hu]
    · have e : i = u := by
        rcases List.mem_cons.mp h with e | e
        · exact e
        · exact absurd e hu
      subst e
      have out : ∀ {us : List Nat} {s : L2.St}, i ∉ us → (wipe (s.set i o) us).set i none = (wipe s us).set i none := by
        intro us
        induction us with
        | nil => intro s _; unfold wipe; rw [List.set_set]
        | cons w us ih =>
          intro s hw
          have h1 : w ≠ i := fun e => hw (by simp [e])
          have h2 : i ∉ us := fun e => hw (by simp [e])
          show ((wipe (s.set i o) us).set w none).set i none = ((wipe s us).set w none).set i none
          rw [List.set_comm _ _ h1, ih h2, List.set_comm _ _ h1]
      exact out hu
abbrev fNm (i : Nat) : R → Rho → Option Rho := fun x r => some (r.set i (some x))
theorem tg_name {K : PySem.W.Frag} (i : Nat) : Tgt K (gName i) [i] (fNm i) := ⟨fun m H x v r r' s q hE e => by
  cases e
  exact ⟨s.set i (some v), fun Q h => h, hE.set q, fun us hu => wipe_set (hu i (by simp))⟩⟩
/-- several targets, by the items -/
structure Tgts (K : PySem.W.Frag) (g : TGs) (vs : List Nat) (f : List R → Rho → Option Rho) : Prop where
  run : ∀ m H xs us r r' (s : L2.St), RepRs K m H xs us → RepE K m H r s → f xs r = some r' → ∃ s', (∀ Q : L2.St → Hp → Prop, Q s' H → g us s H Q) ∧ RepE K m H r' s' ∧ (∀ us : List Nat, (∀ i ∈ vs, i ∈ us) → wipe s' us = wipe s us)
abbrev fNil : List R → Rho → Option Rho := fun xs r => match xs with
  | [] => some r
  | _ => none
abbrev fCons (f : R → Rho → Option Rho) (fs : List R → Rho → Option Rho) : List R → Rho → Option Rho := fun xs r => match xs with
  | x :: xs => (f x r).bind fun r1 => fs xs r1
  | [] => none
theorem tgs_nil {K : PySem.W.Frag} : Tgts K gNil [] fNil := ⟨fun m H xs us r r' s q hE e => by
  unfold fNil at e
  split at e
  · cases e; exact ⟨s, fun Q h => ⟨q, h⟩, hE, fun _ _ => rfl⟩
  · cases e⟩
theorem tgs_cons {K : PySem.W.Frag} {g : TG} {gs : TGs} {vs ws : List Nat} {f : R → Rho → Option Rho} {fs : List R → Rho → Option Rho} (h : Tgt K g vs f) (k : Tgts K gs ws fs) : Tgts K (gCons g gs) (vs ++ ws) (fCons f fs) := ⟨fun m H xs us r r' s q hE e => by
  unfold fCons at e
  split at e
  · rename_i x xs
    rw [Option.bind_eq_some_iff] at e
    obtain ⟨r1, e1, e2⟩ := e
    obtain ⟨v, w, e3, q1, q2⟩ := q
    obtain ⟨s1, h1, h2, h3⟩ := h.run m H x v r r1 s q1 hE e1
    obtain ⟨s2, k1, k2, k3⟩ := k.run m H xs w r1 r' s1 q2 h2 e2
    exact ⟨s2, fun Q hq => ⟨v, w, e3, h1 _ (k1 Q hq)⟩, k2, fun us hu => (k3 us fun i hi => hu i (List.mem_append_right _ hi)).trans (h3 us fun i hi => hu i (List.mem_append_left _ hi))⟩
  · cases e⟩
abbrev fTp (n : Nat) (fs : List R → Rho → Option Rho) : R → Rho → Option Rho := fun x r => match x with
  | .d (.tup xs) => if xs.length = n then fs (xs.map R.d) r else none
  | .tr xs => if xs.length = n then fs xs r else none
  | _ => none
theorem repR_map {K : PySem.W.Frag} {m : List Addr} {H : Hp} : ∀ {xs : List D} {vs : List V}, RepDs K H xs vs → RepRs K m H (xs.map R.d) vs
  | [], _, h => h
  | x :: xs, _, ⟨v, r, e, h, t⟩ => ⟨v, r, e, h, repR_map t⟩
theorem tg_tup {K : PySem.W.Frag} {gs : TGs} {ws : List Nat} {n : Nat} {fs : List R → Rho → Option Rho} (k : Tgts K gs ws fs) : Tgt K (gTup K n gs) ws (fTp n fs) := ⟨fun m H x v r r' s q hE e => by
  unfold fTp at e
  split at e
  · split at e
    · rename_i xs hl
      obtain ⟨a, vs, e1, h1, h2⟩ := q
      obtain ⟨s2, k1, k2, k3⟩ := k.run m H _ vs r r' s (repR_map h2) hE e
      exact ⟨s2, fun Q hq => ⟨a, vs, e1, h1, by rw [RepDs.len h2]; exact hl, k1 Q hq⟩, k2, k3⟩
    · cases e
  · split at e
    · rename_i xs hl
      obtain ⟨a, vs, e1, h1, h2⟩ := q
      obtain ⟨s2, k1, k2, k3⟩ := k.run m H _ vs r r' s h2 hE e
      exact ⟨s2, fun Q hq => ⟨a, vs, e1, h1, by rw [RepRs.len h2]; exact hl, k1 Q hq⟩, k2, k3⟩
    · cases e
  · cases e⟩
/-- (a, b, ..) = value -/
abbrev wUnp (f : R → Rho → Option Rho) (w : PE1) : PS1 := fun N r S => w r S fun x S1 => bindV x S1 fun y S2 => match f y r with
  | some r' => N.nx r' S2
  | none => False
theorem ws_unp {tg : Expr} {g : TG} {vs : List Nat} {f : R → Rho → Option Rho} (he : WE X e we) (hg : PG X tg g) (ht : Tgt X.K g vs f) (hs : swapsWithSole [tg] e pos.line X.env = pure false := by rfl) (hw : swappedStores [tg] e X.env = pure none := by rfl)
    (h1 : (assignEach [tg] X.env).map (·.2) = [assign tg X.env] := by rfl) : WS X (.Assign [tg] e pos) (wUnp f we) :=
  ⟨psImp (ps_asg he.pe hg hs hw h1) fun D s H ⟨m, r, S, N, hE, hS, hw, hf⟩ => ⟨m, r, S, _, hE, hS, hw, fun x S1 v m1 H1 h1 g1 r1 q1 => by
    obtain ⟨y, S2, m2, w2, g2, r2, q2, _⟩ := bindV_ok g1 r1 q1 h1
    split at w2
    · rename_i r' e1
      obtain ⟨s', k1, k2, _⟩ := ht.run m2 H1 y v r r' s q2 (hE.grow g2) e1
      exact k1 _ (hf.nx r' S2 s' m2 H1 w2 g2 k2 r2)
    · exact w2.elim⟩⟩
/-- a[i] = value -/
def ixD (n : Nat) (k : Int) : Option Nat := if 0 ≤ k then (if k < n then some k.toNat else none) else if -(n : Int) ≤ k then some (k + n).toNat else none
abbrev wStI (wo wi we : PE1) : PS1 := fun N r S => we r S fun x S1 => wo r S1 fun o S2 => wi r S2 fun k S3 => match o, k, x with
  | .r (.loc n), .r (.d (.int k)), .r (.d z) => match S3[n]? with
    | some (.lst xs) => match ixD xs.length k with
      | some j => N.nx r (S3.set n (.lst (xs.set j z)))
      | none => False
    | _ => False
  | _, _, _ => False
theorem ws_stI {o i : Expr} {wo : PE1} (ho : WE X o wo) (hi : WE X i wi) (he : WE X e we) (hs : swapsWithSole [.Subscript o i p2] e pos.line X.env = pure false := by rfl) (hw : swappedStores [.Subscript o i p2] e X.env = pure none := by rfl)
    (h1 : (assignEach [.Subscript o i p2] X.env).map (·.2) = [assign (.Subscript o i p2) X.env] := by rfl)
    (ha : ∀ v, assign (.Subscript o i p2) X.env v = (do
      let ov ← holding [v] (eval o X.env)
      let iv ← holding [v, ov] (eval i X.env)
      standAt p2
      holding [v, ov, iv] (setItem ov iv v)
      release [v, ov, iv] []) := by intro _; rfl) : WS X (.Assign [.Subscript o i p2] e pos) (wStI wo wi we) :=
  ⟨psImp (ps_asg he.pe (pg_sub ho.pe hi.pe set_list ha) hs hw h1) fun D s H ⟨m, r, S, N, hE, hS, hw, hf⟩ => up1 hE hS hw fun x S1 v m1 H1 h1 g1 r1 q1 => up2 (hE.grow g1) r1 h1 fun y z S3 u w m3 H3 h3 g3 r3 qo qi => by
    split at h3
    · rename_i n k d
      split at h3
      · rename_i xs e1
        split at h3
        · rename_i j e2
          obtain ⟨a, k1, rfl⟩ := qo
          obtain ⟨a', k1', vs, k2, k3⟩ := r3.at_ n _ e1
          rw [k1] at k1'; cases k1'
          have qd : RepD X.K H3 d v := RepD.grow g3 d v q1
          refine ⟨a, vs, k, j, rfl, qi, k2, ?_, ?_⟩
          · rw [RepDs.len k3]; exact e2
          · have gw := Grow.write (m := m3) (vs' := vs.set j v) k1 k2
            exact hf.nx r _ s m3 _ h3 ((g1.trans g3).trans gw) (((hE.grow g1).grow g3).grow gw) (r3.write k1 k2 (k3.set j qd))
        · exact h3.elim
      · exact h3.elim
    · exact h3.elim⟩
end
end Z
set_option Elab.async false
set_option linter.all false
set_option maxRecDepth 100000
/-! Z5: loops, what is walked, comprehensions, list methods. -/
namespace Z
open PySem PySem.Spec PyProof.Rows L2 RZ
/-! ### leaving what is no longer wanted -/
mutual
def noLoc : R → Bool
  | .loc _ => false
  | .tr xs => noLocs xs
  | .d _ => true
  | .ro _ => true
  | .ex _ => true
  | .ad _ => true
def noLocs : List R → Bool
  | [] => true
  | x :: r => noLoc x && noLocs r
end
section
variable {K : PySem.W.Frag} {m m1 : List Addr} {H : Hp}
mutual
theorem RepR.free : ∀ (x : R) (v : V), noLoc x = true → RepR K m H x v → RepR K m1 H x v
  | .d _, _, _, h => h
  | .loc _, _, n, _ => by simp [noLoc] at n
  | .ro _, _, _, h => h
  | .tr xs, _, n, ⟨a, vs, e, h, r⟩ => ⟨a, vs, e, h, RepRs.free xs vs (by simpa [noLoc] using n) r⟩
  | .ex _, _, _, h => h
  | .ad _, _, _, h => h
theorem RepRs.free : ∀ (xs : List R) (vs : List V), noLocs xs = true → RepRs K m H xs vs → RepRs K m1 H xs vs
  | [], _, _, h => h
  | x :: xs, _, n, ⟨v, r, e, h, t⟩ => by
    rw [noLocs, Bool.and_eq_true] at n
    exact ⟨v, r, e, RepR.free x v n.1 h, RepRs.free xs r n.2 t⟩
end
end
def kept (ls : List Nat) : Option R → Option R
  | some (.d x) => some (.d x)
  | some (.ro x) => some (.ro x)
  | some (.ex x) => some (.ex x)
  | some (.ad x) => some (.ad x)
  | some (.tr xs) => if noLocs xs = true then some (.tr xs) else none
  | some (.loc n) => if n ∈ ls then some (.loc (ls.idxOf n)) else none
  | _ => none
/-- the store is what stood at the numbers ls, renumbered in this order; the first k stay -/
def Cut (k : Nat) (r : Rho) (S : Sto) (r' : Rho) (S' : Sto) : Prop :=
  (r' = r ∧ S' = S) ∨ ∃ ls : List Nat, ls.Nodup ∧ ls.take k = List.range k ∧ (∀ n ∈ ls, n < S.length) ∧ r' = r.map (kept ls) ∧ S' = ls.filterMap (S[·]?)
theorem Cut.refl {k : Nat} {r : Rho} {S : Sto} : Cut k r S r S := .inl ⟨rfl, rfl⟩
theorem Cut.to {k n : Nat} {r : Rho} {S : Sto} (h : k ≤ n) (h2 : n ≤ S.length) : Cut k r S (r.map (kept (List.range n))) (S.take n) := by
  refine .inr ⟨List.range n, List.nodup_range, ?_, fun i hi => ?_, rfl, ?_⟩
  · rw [List.take_range, Nat.min_eq_left h]
  · have := List.mem_range.mp hi; omega
  · symm
    clear h
    induction n with
    | zero => simp
    | succ n ih =>
      have hn : n < S.length := by omega
      rw [List.range_succ, List.filterMap_append, ih (by omega), List.take_add_one, List.getElem?_eq_getElem hn, List.filterMap_cons, List.getElem?_eq_getElem hn]
      rfl
section
variable {K : PySem.W.Frag} {m m0 m1 m2 : List Addr} {H H0 H1 H2 : Hp} {S S' S1 S2 : Sto} {r r' : Rho} {N : En} {D : Ends}
theorem filterMap_get {α : Type} {S : List α} : ∀ {ls : List Nat}, (∀ n ∈ ls, n < S.length) → ∀ i : Nat, (ls.filterMap (S[·]?))[i]? = ls[i]?.bind (S[·]?)
  | [], _, i => by simp
  | n :: ls, h, i => by
    have hn := h n (by simp)
    rw [List.filterMap_cons, List.getElem?_eq_getElem hn]
    cases i with
    | zero => simp
    | succ i => simpa using filterMap_get (ls := ls) (fun k hk => h k (by simp [hk])) i
theorem filterMap_len {α : Type} {S : List α} : ∀ {ls : List Nat}, (∀ n ∈ ls, n < S.length) → (ls.filterMap (S[·]?)).length = ls.length
  | [], _ => rfl
  | n :: ls, h => by
    have hn := h n (by simp)
    rw [List.filterMap_cons, List.getElem?_eq_getElem hn]
    simpa using filterMap_len (ls := ls) (fun k hk => h k (by simp [hk]))
theorem Cut.ok {k : Nat} {s : L2.St} (c : Cut k r S r' S') (hk : m0.length = k) (g : Grow m0 H0 m H) (hE : RepE K m H r s) (hS : RepS K m H S) :
    ∃ m', Grow m0 H0 m' H ∧ RepE K m' H r' s ∧ RepS K m' H S' := by
  rcases c with ⟨rfl, rfl⟩ | ⟨ls, nd, pre, lt, rfl, rfl⟩
  · exact ⟨m, g, hE, hS⟩
  · have lt' : ∀ n ∈ ls, n < m.length := fun n hn => by rw [hS.len]; exact lt n hn
    have get : ∀ i : Nat, (ls.filterMap (m[·]?))[i]? = ls[i]?.bind (m[·]?) := filterMap_get lt'
    have sub : ∀ b, b ∈ ls.filterMap (m[·]?) → b ∈ m := fun b hb => by
      obtain ⟨n, _, e⟩ := List.mem_filterMap.mp hb
      exact List.mem_of_getElem? e
    have at_ : ∀ n, n ∈ ls → (ls.filterMap (m[·]?))[ls.idxOf n]? = m[n]? := fun n hn => by
      rw [get, List.getElem?_eq_getElem (List.idxOf_lt_length_iff.mpr hn)]
      simp
    refine ⟨ls.filterMap (m[·]?), ⟨fun n a e => ?_, g.tup, g.frz, g.xt, g.frame, fun b hb hn => g.new b (sub b hb) hn, g.tb⟩, ⟨by simp [hE.len], fun i x e => ?_⟩, ⟨?_, ?_, fun n o e => ?_, hS.tab⟩⟩
    · have hn : n < k := by rw [← hk]; exact (List.getElem?_eq_some_iff.mp e).1
      have : ls[n]? = some n := by
        have h1 : (ls.take k)[n]? = some n := by rw [pre]; simp [hn]
        rw [List.getElem?_take_of_lt hn] at h1
        exact h1
      rw [get, this]
      exact g.pre n a e
    · rw [List.getElem?_map, Option.map_eq_some_iff] at e
      obtain ⟨o, e1, e2⟩ := e
      cases o with
      | none => cases e2
      | some y =>
        obtain ⟨v, h1, h2⟩ := hE.at_ i y e1
        refine ⟨v, h1, ?_⟩
        cases y with
        | d z => cases e2; exact h2
        | ro z => cases e2; exact h2
        | ex z => cases e2; exact h2
        | ad z => cases e2; exact h2
        | tr z =>
          simp only [kept] at e2
          split at e2
          · rename_i hn
            cases e2
            exact RepR.free (.tr z) v (by simpa [noLoc] using hn) h2
          · cases e2
        | loc n =>
          simp only [kept] at e2
          split at e2
          · rename_i hn
            cases e2
            obtain ⟨a, h3, h4⟩ := h2
            exact ⟨a, by rw [at_ n hn]; exact h3, h4⟩
          · cases e2
    · have inj : ∀ {ls : List Nat}, ls.Nodup → (∀ n ∈ ls, n < m.length) → (ls.filterMap (m[·]?)).Nodup := by
        intro ls
        induction ls with
        | nil => intro _ _; simp
        | cons n ls ih =>
          intro h1 h2
          rw [List.filterMap_cons, List.getElem?_eq_getElem (h2 n (by simp))]
          refine List.nodup_cons.mpr ⟨fun hm => ?_, ih (List.nodup_cons.mp h1).2 fun k hk => h2 k (by simp [hk])⟩
          obtain ⟨j, hj, e⟩ := List.mem_filterMap.mp hm
          obtain ⟨l1, e1⟩ := List.getElem?_eq_some_iff.mp e
          have := (List.getElem_inj hS.nd).mp e1
          subst this
          exact (List.nodup_cons.mp h1).1 hj
      exact inj nd lt'
    · rw [filterMap_len lt', filterMap_len lt]
    · rw [filterMap_get lt, Option.bind_eq_some_iff] at e
      obtain ⟨j, e1, e2⟩ := e
      obtain ⟨a, h1, h2⟩ := hS.at_ j o e2
      exact ⟨a, by rw [get, e1]; exact h1, h2⟩
end
section
variable {X : Cx} {st : Stmt} {body : List Stmt} {e a b c iter tg : Expr} {es : List Expr} {pos p2 : Pos} {wa wb we wi : PE1} {ws was : PA1} {t u tb : PS1} {tc tt : PT1}
/-! ### while -/
/-- I: the invariant by a measure that falls -/
abbrev wWhile (t : PT1) (body : PS1) : PS1 := fun N r S => ∃ I : Nat → Rho → Sto → Prop, (∃ n, I n r S) ∧ ∀ n r1 S1, I n r1 S1 →
  t r1 S1 fun b S2 => if b = true then body { nx := fun r2 S3 => ∃ r3 S4, Cut S.length r2 S3 r3 S4 ∧ ∃ k, k < n ∧ I k r3 S4, rt := N.rt, bk := N.nx, ct := fun r2 S3 => ∃ r3 S4, Cut S.length r2 S3 r3 S4 ∧ ∃ k, k < n ∧ I k r3 S4 } r1 S2 else N.nx r1 S2
theorem ws_while (hp : PassesOwn (model X.prog X.w) X.A X.env X.xe) (hc : WT X c tc) (hb : WSs X body tb) : WS X (.While c body [] pos) (wWhile tc tb) :=
  ⟨psImp (ps_while hp hc.pt hb.pss) fun D s H ⟨m, r, S, N, hE, hS, hw, hf⟩ => by
    obtain ⟨I, ⟨n, h0⟩, step⟩ := hw
    refine ⟨fun k s1 H1 => ∃ m1 r1 S1, Grow m H m1 H1 ∧ RepE X.K m1 H1 r1 s1 ∧ RepS X.K m1 H1 S1 ∧ I k r1 S1, ⟨n, m, r, S, Grow.refl, hE, hS, h0⟩, ?_⟩
    rintro k s1 H1 ⟨m1, r1, S1, g1, e1, q1, i1⟩
    refine ⟨m1, r1, S1, _, e1, q1, step k r1 S1 i1, fun b S2 m2 H2 h2 g2 r2 => ?_⟩
    cases b with
    | false =>
      rw [if_neg Bool.false_ne_true]
      exact hf.nx r1 S2 s1 m2 H2 h2 (g1.trans g2) (e1.grow g2) r2
    | true =>
      rw [if_pos rfl] at h2 ⊢
      have again : ∀ r3 S3 s3 m3 H3, (∃ r4 S4, Cut S.length r3 S3 r4 S4 ∧ ∃ j, j < k ∧ I j r4 S4) → Grow m2 H2 m3 H3 → RepE X.K m3 H3 r3 s3 → RepS X.K m3 H3 S3 →
          ∃ m', m' < k ∧ ∃ m1 r1 S1, Grow m H m1 H3 ∧ RepE X.K m1 H3 r1 s3 ∧ RepS X.K m1 H3 S1 ∧ I m' r1 S1 := fun r3 S3 s3 m3 H3 ⟨r4, S4, cu, j, hj, i4⟩ g3 e3 q3 => by
        obtain ⟨m4, g4, e4, q4⟩ := cu.ok hS.len ((g1.trans g2).trans g3) e3 q3
        exact ⟨j, hj, m4, r4, S4, g4, e4, q4, i4⟩
      refine ⟨fun s3 H3 => ∃ m', m' < k ∧ ∃ m1 r1 S1, Grow m H m1 H3 ∧ RepE X.K m1 H3 r1 s3 ∧ RepS X.K m1 H3 S1 ∧ I m' r1 S1, fun s3 H3 h => h, m2, r1, S2, _, e1.grow g2, r2, h2, ⟨again, ?_, ?_, again⟩⟩
      · exact fun x S' v m' H' n g' q' w' => hf.rt x S' v m' H' n ((g1.trans g2).trans g') q' w'
      · exact fun r' S' s' m' H' n g' e' q' => hf.nx r' S' s' m' H' n ((g1.trans g2).trans g') e' q'⟩
/-! ### what is walked -/
structure It1 where
  items : List R
  chk : Sto → Prop := fun _ => True
structure ItOk (K : PySem.W.Frag) (m0 : List Addr) (H0 : Hp) (J : It) (it : It1) : Prop where
  run : ∀ (i : Nat) m H S, Grow m0 H0 m H → RepS K m H S → it.chk S →
    (∀ x, it.items[i]? = some x → J.go i H ∧ ∀ v H', J.yld i H v H' → Grow m H m H' ∧ RepS K m H' S ∧ RepR K m H' x v) ∧ (it.items[i]? = none → J.stop i H)
abbrev PI1 := Rho → Sto → (It1 → Sto → Prop) → Prop
def upI (K : PySem.W.Frag) (w : PI1) : TI := fun s H R => ∃ m r S W, RepE K m H r s ∧ RepS K m H S ∧ w r S W ∧ ∀ it S' m' H' J, W it S' → Grow m H m' H' → RepS K m' H' S' → ItOk K m' H' J it → R J H'
structure WI (X : Cx) (tg iter : Expr) (w : PI1) : Prop where
  pi : PI X tg iter (upI X.K w)
theorem piImp {ti ti' : TI} (h : PI X tg iter ti) (k : ∀ s H R, ti' s H R → ti s H R) : PI X tg iter ti' := ⟨fun pins s z H R I q => h.run pins s z H R I (k _ _ _ q)⟩
/-- the items of a value, and what must stay as it is while they are walked -/
abbrev itOf (S : Sto) (x : SV) : Option It1 := match x with
  | .r (.loc n) => match S[n]? with
    | some (.lst xs) => some ⟨xs.map R.d, fun S => S[n]? = some (.lst xs)⟩
    | _ => none
  | .r (.tr xs) => some { items := xs }
  | x => (seqOf S x).map fun xs => { items := xs.map R.d }
/-- at each later state the value stands as it stood -/
theorem itOf_seq {K : PySem.W.Frag} {m0 : List Addr} {H0 Hs : Hp} {S : Sto} {x : SV} {v : V} {it : It1} (e : itOf S x = some it) (q : RepV K m0 H0 Hs x v) (r : RepS K m0 H0 S) :
    ∃ a, v = .ref a ∧ ∀ m H S', Grow m0 H0 m H → RepS K m H S' → it.chk S' → ∃ vs, RepRs K m H it.items vs ∧ if isLst x = true then SqL K H a vs else SqT K H a vs := by
  cases x with
  | f ys =>
    simp only [itOf, seqOf, Option.map_some, Option.some.injEq] at e
    subst e
    obtain ⟨a, _, rfl, _⟩ := id q
    refine ⟨a, rfl, fun m H S' g r' _ => ?_⟩
    obtain ⟨b, vs, eb, h1, h2⟩ := (q.grow g).seq r' (x := .f ys) rfl
    cases eb
    exact ⟨vs, repR_map h1, h2⟩
  | r y =>
    cases y with
    | ex ys => simp [itOf, seqOf] at e
    | ad ys => simp [itOf, seqOf] at e
    | tr ys =>
      simp only [itOf, Option.some.injEq] at e
      subst e
      obtain ⟨a, vs, rfl, h1, h2⟩ := q
      exact ⟨a, rfl, fun m H S' g r' _ => ⟨vs, RepRs.grow g _ _ h2, by rw [if_neg (by simp [isLst])]; exact rd_tup g h1⟩⟩
    | ro ys =>
      simp only [itOf, seqOf, Option.map_some, Option.some.injEq] at e
      subst e
      obtain ⟨a, vs, rfl, h1, h2⟩ := q
      exact ⟨a, rfl, fun m H S' g r' _ => ⟨vs, repR_map (RepDs.grow g _ _ h2), by rw [if_pos (by simp [isLst])]; exact (h1.grow g).sq⟩⟩
    | loc n =>
      obtain ⟨a, h1, rfl⟩ := q
      simp only [itOf] at e
      split at e
      · rename_i xs e1
        cases e
        refine ⟨a, rfl, fun m H S' g r' hc => ?_⟩
        obtain ⟨a', h2, vs, h3, h4⟩ := r'.at_ n _ hc
        rw [g.pre n a h1] at h2; cases h2
        exact ⟨vs, repR_map h4, by rw [if_pos (by simp [isLst])]; exact .inl (.inl h3)⟩
      · cases e
    | d y =>
      cases y with
      | tup ys =>
        simp only [itOf, seqOf, Option.map_some, Option.some.injEq] at e
        subst e
        obtain ⟨a, vs, rfl, h1, h2⟩ := q
        exact ⟨a, rfl, fun m H S' g r' _ => ⟨vs, repR_map (RepDs.grow g _ _ h2), by rw [if_neg (by simp [isLst])]; exact rd_tup g h1⟩⟩
      | lst ys =>
        simp only [itOf, seqOf, Option.map_some, Option.some.injEq] at e
        subst e
        obtain ⟨a, vs, rfl, h1, h2⟩ := q
        exact ⟨a, rfl, fun m H S' g r' _ => ⟨vs, repR_map (RepDs.grow g _ _ h2), by rw [if_pos (by simp [isLst])]; exact (h1.grow g).sq⟩⟩
      | non => simp [itOf, seqOf] at e
      | bl _ => simp [itOf, seqOf] at e
      | int _ => simp [itOf, seqOf] at e
      | str _ => simp [itOf, seqOf] at e
abbrev wIt (w : PE1) : PI1 := fun r S W => w r S fun x S1 => match itOf S1 x with
  | some it => W it S1
  | none => False
theorem itok_lst {K : PySem.W.Frag} {m0 : List Addr} {H0 : Hp} {a : Addr} {it : It1} (h : ∀ m H S', Grow m0 H0 m H → RepS K m H S' → it.chk S' → ∃ vs, RepRs K m H it.items vs ∧ SqL K H a vs) : ItOk K m0 H0 (Itl K a) it :=
  ⟨fun i m H S g r hc => by
    obtain ⟨vs, h1, h2⟩ := h m H S g r hc
    refine ⟨fun x e => ?_, fun e => ⟨vs, h2, ?_⟩⟩
    · obtain ⟨v, h3, h4⟩ := RepRs.get h1 e
      refine ⟨⟨vs, v, h2, h3⟩, fun u H' ⟨e1, e2⟩ => ?_⟩
      subst e1
      have := (e2 vs h2).symm.trans h3
      cases this
      exact ⟨Grow.refl, r, h4⟩
    · rw [RepRs.len h1]; exact List.getElem?_eq_none_iff.mp e⟩
theorem itok_tup {K : PySem.W.Frag} {m0 : List Addr} {H0 : Hp} {a : Addr} {it : It1} (h : ∀ m H S', Grow m0 H0 m H → RepS K m H S' → it.chk S' → ∃ vs, RepRs K m H it.items vs ∧ SqT K H a vs) : ItOk K m0 H0 (Itt K a) it :=
  ⟨fun i m H S g r hc => by
    obtain ⟨vs, h1, h2⟩ := h m H S g r hc
    refine ⟨fun x e => ?_, fun e => ⟨vs, h2, ?_⟩⟩
    · obtain ⟨v, h3, h4⟩ := RepRs.get h1 e
      refine ⟨⟨vs, v, h2, h3⟩, fun u H' ⟨e1, e2⟩ => ?_⟩
      subst e1
      have := (e2 vs h2).symm.trans h3
      cases this
      exact ⟨Grow.refl, r, h4⟩
    · rw [RepRs.len h1]; exact List.getElem?_eq_none_iff.mp e⟩
/-- a for over any of these, decided behind the evaluation -/
theorem pi_seq {te : TE} (he : PE X e te) : PI X tg e (fun s H R => te s H fun x H1 => ∃ a, x = .ref a ∧ ((∃ xs, SqL X.K H1 a xs) ∧ R (Itl X.K a) H1 ∨ (∃ xs, SqT X.K H1 a xs) ∧ R (Itt X.K a) H1)) := by
  refine ⟨fun pins s σ H R I h => ?_⟩
  refine thn (he.run pins s σ H _ I h) fun v s1 ⟨x, H1, I1, r1, q1⟩ => ?_
  obtain ⟨a, e, q | q⟩ := q1
  · obtain ⟨⟨xs, hq⟩, q⟩ := q
    subst e
    cases r1
    obtain ⟨its, rv, p, hz⟩ := I1.list hq
    refine wpAny_pyIter_list p.isList ?_
    refine ⟨s1.heap.objs.size, [s1.heap.objs.size], _, _, H1, rfl, I1.kept (t' := s1.toks) fun b o e => Heap.get?_push_of_some _ e, turn_list a _, ⟨_, Heap.get?_push_size _ rfl, rfl, rfl⟩, fun b hb => ?_, q⟩
    have e : b = s1.heap.objs.size := by simpa using hb
    subst e
    exact I1.fpOk (Nat.le_refl _) (I1.hok.fresh (Nat.le_refl _))
  · obtain ⟨⟨xs, hq⟩, q⟩ := q
    subst e
    cases r1
    obtain ⟨its, rv, p, hz⟩ := I1.tuple hq
    refine wpAny_pyIter_tuple (show s1.heap.IsTuple a its.toArray from p) ?_
    refine ⟨s1.heap.objs.size, [s1.heap.objs.size], _, _, H1, rfl, I1.kept (t' := s1.toks) fun b o e => Heap.get?_push_of_some _ e, turn_tuple a _, ⟨_, Heap.get?_push_size _ rfl, rfl, rfl⟩, fun b hb => ?_, q⟩
    have e : b = s1.heap.objs.size := by simpa using hb
    subst e
    exact I1.fpOk (Nat.le_refl _) (I1.hok.fresh (Nat.le_refl _))
theorem wi_seq (he : WE X e we) (hchk : True := trivial) : WI X tg e (wIt we) := ⟨piImp (pi_seq he.pe) fun s H R ⟨m, r, S, W, hE, hS, hw, hf⟩ => ⟨m, r, S, _, hE, hS, hw, fun x S1 v m1 H1 h1 g1 r1 q1 => by
  split at h1
  · rename_i it e1
    obtain ⟨a, rfl, h2⟩ := itOf_seq e1 q1 r1
    have hc : it.chk S1 := by
      unfold itOf at e1
      split at e1
      · split at e1
        · rename_i hh
          cases e1; exact hh
        · cases e1
      · cases e1; trivial
      · rw [Option.map_eq_some_iff] at e1
        obtain ⟨_, _, rfl⟩ := e1
        trivial
    refine ⟨a, rfl, ?_⟩
    obtain ⟨vs, k1, k2⟩ := h2 m1 H1 S1 Grow.refl r1 hc
    by_cases hl : isLst x = true
    · rw [if_pos hl] at k2
      exact .inl ⟨⟨vs, k2⟩, hf it S1 m1 H1 _ h1 g1 r1 (itok_lst fun m H S' g r' hc' => by
        obtain ⟨us, k3, k4⟩ := h2 m H S' g r' hc'
        rw [if_pos hl] at k4
        exact ⟨us, k3, k4⟩)⟩
    · rw [if_neg hl] at k2
      exact .inr ⟨⟨vs, k2⟩, hf it S1 m1 H1 _ h1 g1 r1 (itok_tup fun m H S' g r' hc' => by
        obtain ⟨us, k3, k4⟩ := h2 m H S' g r' hc'
        rw [if_neg hl] at k4
        exact ⟨us, k3, k4⟩)⟩
  · exact h1.elim⟩⟩
/-- range(n), range(a, b) -/
def rgR (lo : Int) (n : Nat) : List R := (List.range n).map fun i => R.d (.int (lo + (i : Nat)))
theorem itok_rng {K : PySem.W.Frag} {m0 : List Addr} {H0 : Hp} {lo : Int} {n : Nat} : ItOk K m0 H0 (Itr lo n) { items := rgR lo n } :=
  ⟨fun i m H S g r hc => ⟨fun x e => by
    have hi : i < n := by
      have := (List.getElem?_eq_some_iff.mp e).1
      simpa [rgR] using this
    have ex : x = R.d (.int (lo + (i : Nat))) := by
      simp only [rgR, List.getElem?_map, List.getElem?_range hi, Option.map_some, Option.some.injEq] at e
      exact e.symm
    refine ⟨hi, fun v H' ⟨e1, e2⟩ => ?_⟩
    subst e1 ex
    exact ⟨Grow.refl, r, e2⟩, fun e => by
    have := List.getElem?_eq_none_iff.mp e
    show n ≤ i
    simpa [rgR] using this⟩⟩
abbrev wRng1 (ws : PA1) : PI1 := fun r S W => ws r S fun xs S1 => match xs with
  | [.r (.d (.int j))] => j ≤ 16777216 ∧ -16777216 ≤ j ∧ W { items := rgR 0 j.toNat } S1
  | _ => False
abbrev wRng2 (ws : PA1) : PI1 := fun r S W => ws r S fun xs S1 => match xs with
  | [.r (.d (.int i)), .r (.d (.int j))] => (j ≤ 16777216 ∧ -16777216 ≤ j ∧ i ≤ 16777216 ∧ -16777216 ≤ i) ∧ W { items := rgR i (j - i).toNat } S1
  | _ => False
theorem wi_rng1 {p : Pos} (hg : Gl X "range") (hm : X.mg "range" = none) (ha : WA X [a] ws) (hs : starEach [a] X.env = [(false, eval a X.env)] := by rfl) : WI X tg (.Call (.Name "range" p) [a] [] pos) (wRng1 ws) :=
  ⟨piImp (pi_range1 hg hm ha.pa hs) fun s H R ⟨m, r, S, W, hE, hS, hw, hf⟩ => ⟨m, r, S, _, hE, hS, hw, fun xs S1 vs m1 H1 h1 g1 r1 q1 => by
    split at h1
    · rename_i j
      obtain ⟨v, rfl, q⟩ := q1.one
      exact ⟨j, by rw [show v = V.int j from q], by have := h1.2.1; omega, by have := h1.1; omega, hf _ S1 m1 H1 _ h1.2.2 g1 r1 itok_rng⟩
    · exact h1.elim⟩⟩
/-- zip of two lists or of two tuples -/
def prs : List R → List R → List R
  | .d x :: xs, .d y :: ys => .d (.tup [x, y]) :: prs xs ys
  | _, _ => []
def allD : List R → Bool
  | [] => true
  | .d _ :: r => allD r
  | _ :: _ => false
theorem prs_get : ∀ {xs ys : List R} {i : Nat} {z : R}, (prs xs ys)[i]? = some z → ∃ x y, xs[i]? = some (.d x) ∧ ys[i]? = some (.d y) ∧ z = .d (.tup [x, y])
  | .d x :: xs, .d y :: ys, 0, z, e => by simp [prs] at e; exact ⟨x, y, rfl, rfl, e.symm⟩
  | .d x :: xs, .d y :: ys, i + 1, z, e => by simpa using prs_get (xs := xs) (ys := ys) (i := i) (z := z) (by simpa [prs] using e)
  | [], _, i, z, e => by simp [prs] at e
  | .loc _ :: _, _, i, z, e => by simp [prs] at e
  | .ro _ :: _, _, i, z, e => by simp [prs] at e
  | .tr _ :: _, _, i, z, e => by simp [prs] at e
  | .d _ :: _, [], i, z, e => by simp [prs] at e
  | .d _ :: _, .loc _ :: _, i, z, e => by simp [prs] at e
  | .d _ :: _, .ro _ :: _, i, z, e => by simp [prs] at e
  | .d _ :: _, .tr _ :: _, i, z, e => by simp [prs] at e
theorem prs_none : ∀ {xs ys : List R} {i : Nat}, allD xs = true → allD ys = true → (prs xs ys)[i]? = none → xs.length ≤ i ∨ ys.length ≤ i
  | [], _, i, _, _, _ => .inl (by simp)
  | _ :: _, [], i, _, _, _ => .inr (by simp)
  | .d x :: xs, .d y :: ys, 0, _, _, e => by simp [prs] at e
  | .d x :: xs, .d y :: ys, i + 1, h1, h2, e => by
    have := prs_none (xs := xs) (ys := ys) (i := i) (by simpa [allD] using h1) (by simpa [allD] using h2) (by simpa [prs] using e)
    simpa using this
  | .loc _ :: _, _ :: _, i, h, _, _ => by simp [allD] at h
  | .ro _ :: _, _ :: _, i, h, _, _ => by simp [allD] at h
  | .tr _ :: _, _ :: _, i, h, _, _ => by simp [allD] at h
  | .d _ :: _, .loc _ :: _, i, _, h, _ => by simp [allD] at h
  | .d _ :: _, .ro _ :: _, i, _, h, _ => by simp [allD] at h
  | .d _ :: _, .tr _ :: _, i, _, h, _ => by simp [allD] at h
abbrev wZip (ws : PA1) : PI1 := fun r S W => ws r S fun xs S1 => match xs with
  | [x, y] => match itOf S1 x, itOf S1 y with
    | some i, some j => (isLst x = isLst y ∧ allD i.items = true ∧ allD j.items = true) ∧ W ⟨prs i.items j.items, fun S => i.chk S ∧ j.chk S⟩ S1
    | _, _ => False
  | _ => False
theorem itOf_chk {S : Sto} {x : SV} {it : It1} (e1 : itOf S x = some it) : it.chk S := by
  unfold itOf at e1
  split at e1
  · split at e1
    · rename_i hh
      cases e1; exact hh
    · cases e1
  · cases e1; trivial
  · rw [Option.map_eq_some_iff] at e1
    obtain ⟨_, _, rfl⟩ := e1
    trivial
theorem itok_zip {K : PySem.W.Frag} {m0 : List Addr} {H0 : Hp} {J : It} {i j : It1} (l : Bool) {a b : Addr} (h1 : allD i.items = true) (h2 : allD j.items = true)
    (hx : ∀ m H S', Grow m0 H0 m H → RepS K m H S' → i.chk S' → ∃ vs, RepRs K m H i.items vs ∧ if l = true then SqL K H a vs else SqT K H a vs)
    (hy : ∀ m H S', Grow m0 H0 m H → RepS K m H S' → j.chk S' → ∃ vs, RepRs K m H j.items vs ∧ if l = true then SqL K H b vs else SqT K H b vs)
    (hJ : J = if l = true then Itz K a b else ItzT K a b) : ItOk K m0 H0 J ⟨prs i.items j.items, fun S => i.chk S ∧ j.chk S⟩ :=
  ⟨fun k m H S g r hc => by
    obtain ⟨vs, k1, k2⟩ := hx m H S g r hc.1
    obtain ⟨us, k3, k4⟩ := hy m H S g r hc.2
    subst hJ
    refine ⟨fun z e => ?_, fun e => ?_⟩
    · obtain ⟨x, y, e1, e2, rfl⟩ := prs_get e
      obtain ⟨v, p1, p2⟩ := RepRs.get k1 e1
      obtain ⟨u, p3, p4⟩ := RepRs.get k3 e2
      have fin : ∀ T H', H T = none → H' = upd H T (.tup [v, u]) → Grow m H m H' ∧ RepS K m H' S ∧ RepR K m H' (.d (.tup [x, y])) (.ref T) := fun T H' n e' => by
        subst e'
        have gg : Grow m H m (upd H T (.tup [v, u])) := Grow.alloc n
        exact ⟨gg, r.alloc n, T, [v, u], rfl, .inl (.inl upd_same), v, [u], rfl, RepD.grow gg x v p2, u, [], rfl, RepD.grow gg y u p4, rfl⟩
      cases l with
      | true =>
        rw [if_pos rfl] at k2 k4 ⊢
        refine ⟨⟨vs, us, v, u, k2, k4, p1, p3⟩, fun w H' ⟨T, v', u', e3, n, e4, f1, f2⟩ => ?_⟩
        have q1 := (f1 vs k2).symm.trans p1
        have q2 := (f2 us k4).symm.trans p3
        cases q1; cases q2
        subst e3
        exact fin T H' n e4
      | false =>
        rw [if_neg Bool.false_ne_true] at k2 k4 ⊢
        refine ⟨⟨vs, us, v, u, k2, k4, p1, p3⟩, fun w H' ⟨T, v', u', e3, n, e4, f1, f2⟩ => ?_⟩
        have q1 := (f1 vs k2).symm.trans p1
        have q2 := (f2 us k4).symm.trans p3
        cases q1; cases q2
        subst e3
        exact fin T H' n e4
    · have hl := prs_none h1 h2 e
      rw [← RepRs.len k1, ← RepRs.len k3] at hl
      cases l with
      | true =>
        rw [if_pos rfl] at k2 k4 ⊢
        exact ⟨vs, us, k2, k4, hl⟩
      | false =>
        rw [if_neg Bool.false_ne_true] at k2 k4 ⊢
        exact ⟨vs, us, k2, k4, hl⟩⟩
theorem wi_zip {p tpos : Pos} {elts : List Expr} {kk : Nat} (hg : Gl X "zip") (hm : X.mg "zip" = none) (ha : WA X [a, b] ws)
    (hs : starEach [a, b] X.env = (false, eval a X.env) :: starEach [b] X.env := by rfl) (hpl : (backTo pos (starEach [b] X.env)).any (·.1) = false := by rfl) : WI X (.Tuple elts kk tpos) (.Call (.Name "zip" p) [a, b] [] pos) (wZip ws) :=
  ⟨piImp (pi_zipA hg hm ha.pa hs hpl) fun s H R ⟨m, r, S, W, hE, hS, hw, hf⟩ => ⟨m, r, S, _, hE, hS, hw, fun xs S1 vs m1 H1 h1 g1 r1 q1 => by
    split at h1
    · rename_i x y
      obtain ⟨v, u, rfl, qx, qy⟩ := q1.two
      split at h1
      · rename_i i j e1 e2
        obtain ⟨⟨hl, d1, d2⟩, h1⟩ := h1
        obtain ⟨a, rfl, hx⟩ := itOf_seq e1 qx r1
        obtain ⟨b, rfl, hy⟩ := itOf_seq e2 qy r1
        rw [← hl] at hy
        obtain ⟨vs, k1, k2⟩ := hx m1 H1 S1 Grow.refl r1 (itOf_chk e1)
        obtain ⟨us, k3, k4⟩ := hy m1 H1 S1 Grow.refl r1 (itOf_chk e2)
        refine ⟨a, b, vs, us, rfl, ?_⟩
        cases hb : isLst x with
        | true =>
          rw [hb] at k2 k4 hx hy
          rw [if_pos rfl] at k2 k4
          exact .inl ⟨k2, k4, hf _ S1 m1 H1 _ h1 g1 r1 (itok_zip true d1 d2 hx hy rfl)⟩
        | false =>
          rw [hb] at k2 k4 hx hy
          rw [if_neg Bool.false_ne_true] at k2 k4
          exact .inr ⟨k2, k4, hf _ S1 m1 H1 _ h1 g1 r1 (itok_zip false d1 d2 hx hy rfl)⟩
      · exact h1.elim
    · exact h1.elim⟩⟩
/-! ### for -/
def forL (k : Nat) (chk : Sto → Prop) (f : R → Rho → Option Rho) (body : PS1) (N : En) : List R → Rho → Sto → Prop
  | [], r, S => chk S ∧ N.nx r S
  | x :: xs, r, S => chk S ∧ match f x r with
    | some r1 => body { nx := fun r2 S2 => ∃ r3 S3, Cut k r2 S2 r3 S3 ∧ forL k chk f body N xs r3 S3, rt := N.rt, bk := N.nx, ct := fun r2 S2 => ∃ r3 S3, Cut k r2 S2 r3 S3 ∧ forL k chk f body N xs r3 S3 } r1 S
    | none => False
abbrev wFor (wi : PI1) (f : R → Rho → Option Rho) (body : PS1) : PS1 := fun N r S => wi r S fun it S1 => forL S1.length it.chk f body N it.items r S1
theorem ws_for {wi : PI1} {g : TG} {vs : List Nat} {f : R → Rho → Option Rho} (hp : PassesOwn (model X.prog X.w) X.A X.env X.xe) (hc : X.calm = true) (hi : WI X tg iter wi) (hg : PG X tg g) (ht : Tgt X.K g vs f) (hb : WSs X body tb)
    (hs : ∀ x, foldedSetIterable iter X.env x = pure x := by intro _; rfl) : WS X (.For tg iter body [] pos) (wFor wi f tb) :=
  ⟨psImp (ps_for hp hc hi.pi hg hb.pss hs) fun D s H ⟨m, r, S, N, hE, hS, hw, hf⟩ => ⟨m, r, S, _, hE, hS, hw, fun it S1 m1 H1 J h1 g1 r1 ok => by
    refine ⟨fun i n s2 H2 => ∃ m2 r2 S2, n = it.items.length - i ∧ Grow m1 H1 m2 H2 ∧ RepE X.K m2 H2 r2 s2 ∧ RepS X.K m2 H2 S2 ∧ forL S1.length it.chk f tb N (it.items.drop i) r2 S2, ⟨it.items.length, m1, r, S1, by simp, Grow.refl, hE.grow g1, r1, by simpa using h1⟩, ?_⟩
    rintro i n s2 H2 ⟨m2, r2, S2, rfl, g2, e2, q2, h2⟩
    cases e : it.items[i]? with
    | none =>
      have hl := List.getElem?_eq_none_iff.mp e
      rw [List.drop_eq_nil_of_le hl] at h2
      obtain ⟨h2, h3⟩ := h2
      exact .inl ⟨(ok.run i m2 H2 S2 g2 q2 h2).2 e, hf.nx r2 S2 s2 m2 H2 h3 (g1.trans g2) e2 q2⟩
    | some x =>
      obtain ⟨hl, ex⟩ := List.getElem?_eq_some_iff.mp e
      rw [List.drop_eq_getElem_cons hl, ex] at h2
      obtain ⟨h2, h3⟩ := h2
      obtain ⟨go, yl⟩ := (ok.run i m2 H2 S2 g2 q2 h2).1 x e
      refine .inr ⟨go, fun s' H' => ∃ m', m' < it.items.length - i ∧ ∃ m2 r2 S2, m' = it.items.length - (i + 1) ∧ Grow m1 H1 m2 H' ∧ RepE X.K m2 H' r2 s' ∧ RepS X.K m2 H' S2 ∧ forL S1.length it.chk f tb N (it.items.drop (i + 1)) r2 S2, fun s' H' h => h, fun v H3 y3 => ?_⟩
      obtain ⟨g3, q3, qx⟩ := yl v H3 y3
      split at h3
      · rename_i r3 e3
        obtain ⟨s3, k1, k2, _⟩ := ht.run m2 H3 x v r2 r3 s2 qx (e2.grow g3) e3
        refine k1 _ ⟨m2, r3, S2, _, k2, q3, h3, ?_⟩
        have g23 := g2.trans g3
        have again : ∀ r' S' s' m' H', (∃ r4 S4, Cut S1.length r' S' r4 S4 ∧ forL S1.length it.chk f tb N (it.items.drop (i + 1)) r4 S4) → Grow m2 H3 m' H' → RepE X.K m' H' r' s' → RepS X.K m' H' S' →
            ∃ m', m' < it.items.length - i ∧ ∃ m2 r2 S2, m' = it.items.length - (i + 1) ∧ Grow m1 H1 m2 H' ∧ RepE X.K m2 H' r2 s' ∧ RepS X.K m2 H' S2 ∧ forL S1.length it.chk f tb N (it.items.drop (i + 1)) r2 S2 := fun r' S' s' m' H' ⟨r4, S4, cu, h4⟩ g' e' q' => by
          obtain ⟨m4, g4, e4, q4⟩ := cu.ok r1.len (g23.trans g') e' q'
          exact ⟨_, by omega, m4, r4, S4, rfl, g4, e4, q4, h4⟩
        exact ⟨again, fun x S' v m' H' n g' q' w' => hf.rt x S' v m' H' n ((g1.trans g23).trans g') q' w', fun r' S' s' m' H' n g' e' q' => hf.nx r' S' s' m' H' n ((g1.trans g23).trans g') e' q', again⟩
      · exact h3.elim⟩⟩
/-! ### comprehensions -/
theorem Grow.own {m m1 : List Addr} {H H1 : Hp} {D : Addr} {o : HO} {u0 : HO} (g : Grow m H m1 H1) (h : H D = none) (e0 : H1 D = some u0) (w0 : Wr D u0) : Grow m H m1 (upd H1 D o) :=
  ⟨g.pre, fun b xs e => by rw [upd_ne (ne_of_none e h)]; exact g.tup b xs e, fun b ob u e => by rw [upd_ne (ne_of_none e h)]; exact g.frz b ob u e, fun b u e => by rw [upd_ne (ne_of_none e h)]; exact g.xt b u e, fun b u e hb hn => by rw [upd_ne (ne_of_none e h)]; exact g.frame b u e hb hn, g.new, g.tb.trans (TbK.write e0 w0.2.2.2.1 w0.2.2.2.2)⟩
theorem RepS.own {K : PySem.W.Frag} {m : List Addr} {H : Hp} {S : Sto} {D : Addr} {vs vs' : List V} (r : RepS K m H S) (hm : D ∉ m) (hD : H D = some (.lst vs)) : RepS K m (upd H D (.lst vs')) S :=
  ⟨r.nd, r.len, fun n o e => by
    obtain ⟨a, h1, h2⟩ := r.at_ n o e
    have ne : a ≠ D := fun q => hm (by rw [← q]; exact List.mem_of_getElem? h1)
    have gw : Grow [D] H [D] (upd H D (.lst vs')) := Grow.write (n := 0) rfl hD
    exact ⟨a, h1, h2.grow gw (upd_ne ne)⟩, fun P hP => (TbK.write hD (fun _ => (nomatch ·)) (fun _ => (nomatch ·))).tab P (r.tab P hP)⟩
structure WTs (X : Cx) (ifs : List Expr) (w : PT1) : Prop where
  pts : PTs X ifs (upT X.K w)
abbrev wYes : PT1 := fun _ S W => W true S
theorem wts_nil : WTs X [] wYes := ⟨⟨fun pins s z H Q I ⟨m, r, S, W, hE, hS, hw, hf⟩ => (pts_nil (X := X)).run pins s z H Q I (hf true S m H hw Grow.refl hS)⟩⟩
theorem wts_one (h : WT X c tc) : WTs X [c] tc := ⟨⟨fun pins s z H Q I q => (pts_one h.pt).run pins s z H Q I q⟩⟩
def lcL (k : Nat) (chk : Sto → Prop) (f : R → Rho → Option Rho) (t : PT1) (w : PE1) (r : Rho) : List R → Sto → (List D → Sto → Prop) → Prop
  | [], S, W => chk S ∧ W [] S
  | x :: xs, S, W => chk S ∧ match f x r with
    | some r1 => t r1 S fun b S1 => if b = true then w r1 S1 fun y S2 => match y with
        | .r (.d z) => lcL k chk f t w r xs (S2.take k) fun zs S3 => W (z :: zs) S3
        | _ => False
      else lcL k chk f t w r xs (S1.take k) W
    | none => False
def wipeR (r : Rho) : List Nat → Rho
  | [] => r
  | v :: vs => (wipeR r vs).set v none
abbrev wLc (wi : PI1) (f : R → Rho → Option Rho) (t : PT1) (w : PE1) (own : List Nat) : PE1 := fun r S W => wi r S fun it S1 => it.items.length ≤ 16777216 ∧ lcL S1.length it.chk f t w (wipeR r own) it.items S1 fun zs S2 => W (.f zs) S2
theorem RepE.wipe {K : PySem.W.Frag} {m : List Addr} {H : Hp} {r : Rho} {s : L2.St} (h : RepE K m H r s) : ∀ vs : List Nat, RepE K m H (wipeR r vs) (L2.wipe s vs)
  | [] => h
  | v :: vs => by
    have ih := RepE.wipe h vs
    unfold wipeR L2.wipe
    refine ⟨by simp [ih.len], fun i x e => ?_⟩
    by_cases hi : v = i
    · subst hi
      by_cases hl : v < (wipeR r vs).length
      · rw [List.getElem?_set_self hl] at e; cases e
      · rw [List.getElem?_eq_none (by simpa using hl)] at e; cases e
    · rw [List.getElem?_set_ne hi] at e
      obtain ⟨u, h1, h2⟩ := ih.at_ i x e
      exact ⟨u, by rw [List.getElem?_set_ne hi]; exact h1, h2⟩
theorem RepS.take {K : PySem.W.Frag} {m m1 : List Addr} {H : Hp} {S : Sto} (h : RepS K m H S) (hp : ∀ (n : Nat) a, m1[n]? = some a → m[n]? = some a) : RepS K m1 H (S.take m1.length) := by
  have e : m1 = m.take m1.length := by
    refine List.ext_getElem? fun n => ?_
    by_cases hn : n < m1.length
    · rw [List.getElem?_take_of_lt hn, List.getElem?_eq_getElem hn]
      exact (hp n _ (List.getElem?_eq_getElem hn)).symm
    · rw [List.getElem?_eq_none (by omega), List.getElem?_eq_none (by rw [List.length_take]; omega)]
  have hle : m1.length ≤ m.length := by
    have := congrArg List.length e
    rw [List.length_take] at this; omega
  refine ⟨by rw [e]; exact h.nd.sublist (List.take_sublist _ _), by rw [List.length_take, ← h.len]; omega, fun n o e1 => ?_, h.tab⟩
  have hn : n < m1.length := by
    by_cases hn : n < m1.length
    · exact hn
    · rw [List.getElem?_eq_none (by rw [List.length_take]; omega)] at e1; cases e1
  rw [List.getElem?_take_of_lt hn] at e1
  obtain ⟨a, h1, h2⟩ := h.at_ n o e1
  refine ⟨a, ?_, h2⟩
  rw [List.getElem?_eq_getElem hn]
  exact (hp n _ (List.getElem?_eq_getElem hn)).symm.trans h1
theorem wipe_wipe {s : L2.St} : ∀ vs : List Nat, L2.wipe (L2.wipe s vs) vs = L2.wipe s vs := by
  have key : ∀ (vs us : List Nat) (s : L2.St), (∀ i ∈ vs, i ∈ us) → L2.wipe (L2.wipe s vs) us = L2.wipe s us := by
    intro vs
    induction vs with
    | nil => intro us s _; rfl
    | cons v vs ih =>
      intro us s h
      show L2.wipe ((L2.wipe s vs).set v none) us = _
      rw [wipe_set (h v (by simp)), ih us s fun i hi => h i (by simp [hi])]
  exact fun vs => key vs vs s fun _ h => h
theorem lc_up {K : PySem.W.Frag} {g : TG} {vs own : List Nat} {f : R → Rho → Option Rho} (ht : Tgt K g vs f) (ho : ∀ i ∈ vs, i ∈ own) {s : L2.St} {H : Hp} {Q : VK} {wi : PI1} {w : PE1} (h : up K (wLc wi f tt w own) s H Q) : tLc (upI K wi) g (upT K tt) (up K w) own s H Q := by
  obtain ⟨m, r, S, W, hE, hS, hw, hf⟩ := h
  refine ⟨m, r, S, _, hE, hS, hw, fun it S1 m1 H1 J ⟨hz, h1⟩ g1 r1 ok D hD => ?_⟩
  have hE1 := (hE.grow g1).wipe own
  refine ⟨fun i n H2 => ∃ acc vs2 S2 W2, n = it.items.length - i ∧ acc.length ≤ i ∧ Grow m1 H1 m1 H2 ∧ RepS K m1 H2 S2 ∧ H2 D = some (.lst vs2) ∧ RepDs K H2 acc vs2 ∧ lcL S1.length it.chk f tt w (wipeR r own) (it.items.drop i) S2 W2 ∧ (∀ zs S3, W2 zs S3 → W (.f (acc ++ zs)) S3),
    ⟨it.items.length, [], [], S1, _, by simp, by simp, Grow.alloc hD, r1.alloc hD, upd_same, rfl, by simpa using h1, fun zs S3 h => by simpa using h⟩, ?_⟩
  rintro i n H2 ⟨acc, vs2, S2, W2, rfl, hacc, g2, r2, hD2, qa, h2, hW⟩
  have Dm : D ∉ m1 := r1.notmem hD
  cases e : it.items[i]? with
  | none =>
    have hl := List.getElem?_eq_none_iff.mp e
    rw [List.drop_eq_nil_of_le hl] at h2
    obtain ⟨h2, h3⟩ := h2
    refine .inl ⟨(ok.run i m1 H2 S2 g2 r2 h2).2 e, hf _ S2 _ m1 H2 (hW [] S2 h3) (g1.trans g2) r2 ⟨D, vs2, rfl, hD2, Dm, g1.fresh r1 hD, by simpa using qa⟩⟩
  | some x =>
    obtain ⟨hl, ex⟩ := List.getElem?_eq_some_iff.mp e
    rw [List.drop_eq_getElem_cons hl, ex] at h2
    obtain ⟨h2, h3⟩ := h2
    obtain ⟨go, yl⟩ := (ok.run i m1 H2 S2 g2 r2 h2).1 x e
    refine .inr ⟨go, fun H' => ∃ acc vs2 S2 W2, acc.length ≤ i + 1 ∧ Grow m1 H1 m1 H' ∧ RepS K m1 H' S2 ∧ H' D = some (.lst vs2) ∧ RepDs K H' acc vs2 ∧ lcL S1.length it.chk f tt w (wipeR r own) (it.items.drop (i + 1)) S2 W2 ∧ (∀ zs S3, W2 zs S3 → W (.f (acc ++ zs)) S3),
      fun H' ⟨acc', vs3, S3, W3, a1, a2, a3, a4, a5, a6, a7⟩ => ⟨it.items.length - (i + 1), by omega, acc', vs3, S3, W3, rfl, a1, a2, a3, a4, a5, a6, a7⟩, fun v H3 y3 => ?_⟩
    obtain ⟨g3, q3, qx⟩ := yl v H3 y3
    split at h3
    · rename_i r3 e3
      have g23 := g2.trans g3
      obtain ⟨s3, k1, k2, k3⟩ := ht.run m1 H3 x v _ r3 _ qx (hE1.grow g23) e3
      have hD3 : H3 D = some (.lst vs2) := g3.frame D _ hD2 Dm (fun _ => (nomatch ·))
      refine k1 _ ⟨(k3 own ho).trans (wipe_wipe own), m1, r3, S2, _, k2, q3, h3, fun b S4 m4 H4 h4 g4 r4 => ?_⟩
      have hD4 : H4 D = some (.lst vs2) := g4.frame D _ hD3 Dm (fun _ => (nomatch ·))
      -- back to the numbers of the loop's start
      have back : ∀ {m5 : List Addr} {H5 : Hp} {S5 : Sto}, Grow m1 H1 m5 H5 → RepS K m5 H5 S5 → Grow m1 H1 m1 H5 ∧ RepS K m1 H5 (S5.take S1.length) := fun {m5 H5 S5} g5 r5 => by
        refine ⟨⟨fun _ _ h => h, g5.tup, g5.frz, g5.xt, g5.frame, fun _ h n => absurd h n, g5.tb⟩, ?_⟩
        rw [← r1.len]
        exact r5.take g5.pre
      dsimp only at h4 ⊢
      cases b with
      | false =>
        rw [if_neg Bool.false_ne_true] at h4 ⊢
        obtain ⟨g5, r5⟩ := back (g23.trans g4) r4
        exact ⟨acc, vs2, _, W2, by omega, g5, r5, hD4, RepDs.grow g4 _ _ (RepDs.grow g3 _ _ qa), h4, hW⟩
      | true =>
        rw [if_pos rfl] at h4 ⊢
        refine ⟨m4, r3, S4, _, k2.grow g4, r4, h4, fun y S5 u m5 H5 h5 g5 r5 q5 => ?_⟩
        split at h5
        · rename_i z
          have g25 := (g3.trans g4).trans g5
          have hD5 : H5 D = some (.lst vs2) := g25.frame D _ hD2 Dm (fun _ => (nomatch ·))
          obtain ⟨g6, r6⟩ := back ((g23.trans g4).trans g5) r5
          have gw : Grow [D] H5 [D] (upd H5 D (.lst (vs2 ++ [u]))) := Grow.write (n := 0) rfl hD5
          have qa5 : RepDs K H5 acc vs2 := RepDs.grow g25 _ _ qa
          refine ⟨vs2, hD5, ?_, acc ++ [z], vs2 ++ [u], _, _, by simp; omega, g6.own hD hD5 wr_lst, r6.own Dm hD5, upd_same, RepDs.grow gw _ _ (qa5.app (RepDs.one q5)), h5, fun zs S6 h6 => ?_⟩
          · rw [RepDs.len qa5, sizeLine_eq]; omega
          · rw [List.append_assoc]; exact hW _ S6 h6
        · exact h5.elim
    · exact h3.elim
end
end Z
set_option Elab.async false
set_option linter.all false
set_option maxRecDepth 100000
/-! Z6: comprehensions as expressions, list methods, calls, a def's promise. -/
namespace Z
open PySem PySem.Spec PyProof.Rows L2 RZ
section
variable {X : Cx} {st : Stmt} {body : List Stmt} {e a b c iter tg elt : Expr} {es ifs : List Expr} {pos p2 : Pos} {wa wb we wi : PE1} {ws was : PA1} {t u tb : PS1} {tc tt : PT1}
theorem we_lc {scope : Scope} {own : List (Str × Nat)} {wi : PI1} {g : TG} {vs : List Nat} {f : R → Rho → Option Rho} (hc : X.calm = true) (hN : X.N.Nodup) (hi : WI X tg iter wi) (ok : BlkOk X.N X.env.scope scope own)
    (hg : ∀ (s : Shared) (H : Hp) (C : Addr) (cl : List (Str × Addr)) (fp : List Addr), PG (X.blk s H scope (compEnvC scope cl C X.env) fp) tg g) (hT : Tgt X.K g vs f) (ho : ∀ i ∈ vs, i ∈ own.map (·.2))
    (ht : ∀ (s : Shared) (H : Hp) (C : Addr) (cl : List (Str × Addr)) (fp : List Addr), WTs (X.blk s H scope (compEnvC scope cl C X.env) fp) ifs tt)
    (he : ∀ (s : Shared) (H : Hp) (C : Addr) (cl : List (Str × Addr)) (fp : List Addr), WE (X.blk s H scope (compEnvC scope cl C X.env) fp) elt we) (hs : ∀ x, foldedSetIterable iter X.env x = pure x := by intro _; rfl) :
    WE X (.ListComp elt [⟨tg, iter, ifs, 0⟩] scope pos) (wLc wi f tt we (own.map (·.2))) :=
  ⟨peImp (pe_lc hc hN hi.pi ok hg (fun s H C cl fp => (ht s H C cl fp).pts) (fun s H C cl fp => (he s H C cl fp).pe) hs) fun s H Q h => lc_up hT ho h⟩
theorem ws_setLc {scope : Scope} {own : List (Str × Nat)} {wi : PI1} {g : TG} {vs : List Nat} {f : R → Rho → Option Rho} {i : Nat} {y : Str} {py spos : Pos} (hc : X.calm = true) (hN : X.N.Nodup) (hy : X.N[i]? = some y) (hyl : X.env.scope.names.lookup y = some .local)
    (hsw : swapsWith (.ListComp elt [⟨tg, iter, ifs, 0⟩] scope pos) (some (.Name y py)) spos.line X.env = pure true) (hi : WI X tg iter wi) (ok : BlkOk X.N X.env.scope scope own)
    (hg : ∀ (s : Shared) (H : Hp) (C : Addr) (cl : List (Str × Addr)) (fp : List Addr), PG (X.blk s H scope (compEnvC scope cl C X.env) fp) tg g) (hT : Tgt X.K g vs f) (ho : ∀ i ∈ vs, i ∈ own.map (·.2))
    (ht : ∀ (s : Shared) (H : Hp) (C : Addr) (cl : List (Str × Addr)) (fp : List Addr), WTs (X.blk s H scope (compEnvC scope cl C X.env) fp) ifs tt)
    (he : ∀ (s : Shared) (H : Hp) (C : Addr) (cl : List (Str × Addr)) (fp : List Addr), WE (X.blk s H scope (compEnvC scope cl C X.env) fp) elt we) (hs : ∀ x, foldedSetIterable iter X.env x = pure x := by intro _; rfl) :
    WS X (.Assign [.Name y py] (.ListComp elt [⟨tg, iter, ifs, 0⟩] scope pos) spos) (wSet i (wLc wi f tt we (own.map (·.2)))) :=
  ⟨psImp (ps_setLc hc hN hy hyl hsw hi.pi ok hg (fun s H C cl fp => (ht s H C cl fp).pts) (fun s H C cl fp => (he s H C cl fp).pe) hs) fun D s H hw => set_fin (fun Q h => lc_up hT ho h) hw⟩
/-! ### list methods -/
abbrev wApp (wo we : PE1) : PE1 := fun r S W => wo r S fun x S1 => match x with
  | .r (.loc n) => isLo S1 n = true ∧ we r S1 fun y S2 => match y with
    | .r (.d z) => match S2[n]? with
      | some (.lst xs) => xs.length < 16777216 ∧ W (.r (.d .non)) (S2.set n (.lst (xs ++ [z])))
      | _ => False
    | _ => False
  | _ => False
theorem RepS.lst {K : PySem.W.Frag} {m : List Addr} {H : Hp} {S : Sto} {n : Nat} {v : V} (r : RepS K m H S) (q : RepR K m H (.loc n) v) (hn : isLo S n = true) : ∃ a vs xs, v = .ref a ∧ m[n]? = some a ∧ H a = some (.lst vs) ∧ S[n]? = some (.lst xs) ∧ RepDs K H xs vs := by
  obtain ⟨a, h1, rfl⟩ := q
  obtain ⟨xs, e⟩ := isLo_get hn
  obtain ⟨a', h2, vs, h4, h5⟩ := r.at_ n _ e
  rw [h1] at h2; cases h2
  exact ⟨a, vs, xs, rfl, h1, h4, e, h5⟩
theorem we_app {o : Expr} {apos : Pos} {wo : PE1} (ho : WE X o wo) (he : WE X e we)
    (h : ∀ {to te : TE}, PE X o to → PE X e te → PE X (.Call (.Attribute o "append" apos) [e] [] pos) (tBM X.K "list" rAppend to (tCons te tNil)) := by
      intro _ _ ho he; exact pe_bm PySem.F.plainAttrs_list PySem.F.slot_list_append PySem.F.type_list_append mt_append ho (pa_cons he pa_nil)) : WE X (.Call (.Attribute o "append" apos) [e] [] pos) (wApp wo we) :=
  ⟨peImp (h ho.pe he.pe) fun s H Q ⟨m, r, S, W, hE, hS, hw, hf⟩ => up1 hE hS hw fun x S1 v m1 H1 h1 g1 r1 q1 => by
    split at h1
    · rename_i n
      obtain ⟨hn, h1⟩ := h1
      obtain ⟨a, vs, xs, rfl, k1, k2, k3, k4⟩ := r1.lst q1 hn
      refine ⟨.inl ⟨rfl, vs, .inl (.inl k2)⟩, m1, r, S1, _, hE.grow g1, r1, h1, fun y S2 u m2 H2 h2 g2 r2 q2 => ?_⟩
      split at h2
      · rename_i z
        split at h2
        · rename_i ys e1
          obtain ⟨a', p1, vs', p2, p3⟩ := r2.at_ n _ e1
          rw [g2.pre n a k1] at p1; cases p1
          refine ⟨a, vs', u, rfl, rfl, p2, by rw [RepDs.len p3, sizeLine_eq]; exact h2.1, ?_⟩
          have gw : Grow m2 H2 m2 (upd H2 a (.lst (vs' ++ [u]))) := Grow.write (g2.pre n a k1) p2
          exact hf _ _ _ m2 _ h2.2 ((g1.trans g2).trans gw) (r2.write (g2.pre n a k1) p2 (p3.app (RepDs.one q2))) (show RepR _ _ _ _ _ from rfl)
        · exact h2.elim
      · exact h2.elim
    · exact h1.elim⟩
end
/-! ### a def's promise -/
/-- the arguments, the store (just the lists handed in, in order), what is wanted of the value and the store behind -/
abbrev SpZ := List R → Sto → (R → Sto → Prop) → Prop
mutual
def locR : R → List Nat
  | .loc n => [n]
  | .tr xs => argLocs xs
  | .d _ => []
  | .ro _ => []
  | .ex _ => []
  | .ad _ => []
def argLocs : List R → List Nat
  | [] => []
  | x :: r => locR x ++ argLocs r
end
mutual
def renR : Nat → R → R
  | k, .loc _ => .loc k
  | k, .tr xs => .tr (renum k xs)
  | _, .d x => .d x
  | _, .ro x => .ro x
  | _, .ex x => .ex x
  | _, .ad x => .ad x
def renum : Nat → List R → List R
  | _, [] => []
  | k, x :: r => renR k x :: renum (k + (locR x).length) r
end
def pick (S : Sto) : List Nat → Option Sto
  | [] => some []
  | n :: ns => match S[n]?, pick S ns with
    | some o, some r => some (o :: r)
    | _, _ => none
def putAll : Sto → List Nat → Sto → Sto
  | S, n :: ls, o :: T => putAll (S.set n o) ls T
  | S, _, _ => S
def backL (S : Sto) (ls : List Nat) (T : Sto) (x : R) (W : PK1) : Prop := match x with
  | .d y => W (.r (.d y)) (putAll S ls T)
  | .ro y => W (.r (.ro y)) (putAll S ls T)
  | .ex y => W (.r (.ex y)) (putAll S ls T)
  | .ad y => W (.r (.ad y)) (putAll S ls T)
  | .loc j => if j < ls.length then (match ls[j]? with
      | some n => W (.r (.loc n)) (putAll S ls T)
      | none => False) else match T[j]? with
      | some (.lst xs) => W (.f xs) (putAll S ls T)
      | some (.dct ep kvs) => W (.r (.loc S.length)) (putAll S ls T ++ [.dct ep kvs])
      | some (.dk kvs) => W (.r (.loc S.length)) (putAll S ls T ++ [.dk kvs])
      | _ => False
  | .tr xs => (argLocs xs).Nodup ∧ (∀ k ∈ argLocs xs, ls.length ≤ k) ∧ match pick T (argLocs xs) with
    | some U => W (.r (.tr (renum S.length xs))) (putAll S ls T ++ U)
    | none => False
abbrev callL (sp : SpZ) (n : Nat) (rs : List R) (S : Sto) (W : PK1) : Prop := (rs.length = n ∧ (argLocs rs).Nodup) ∧ match pick S (argLocs rs) with
  | some T => sp (renum 0 rs) T fun x T' => backL S (argLocs rs) T' x W
  | none => False
def liftSp (K : PySem.W.Frag) (n : Nat) (sp : SpZ) : Sp := fun vs H Q _ => ∃ m rs S W, rs.length = n ∧ RepRs K m H rs vs ∧ RepS K m H S ∧ sp rs S W ∧ ∀ x S' v m' H', W x S' → Grow m H m' H' → RepS K m' H' S' → RepR K m' H' x v → Q v H'
/-- the def of the name x, of n parameters, keeps its promise; level k -/
structure FnZ (P : Program) (w : World) (K : PySem.W.Frag) (mg : Str → Option Value) (base : Heap) (k : Nat) (x : Str) (n : Nat) (sp : SpZ) : Prop where
  ok : ∃ f fd ps, ps.length = n ∧ mg x = some (.ref f) ∧ PySem.W.keepIn K (.ref f) = true ∧ Binds K fd ps [] ∧ FnOk P w K mg base CX0 k f fd ps (liftSp K n sp)
theorem FnZ.mono {P : Program} {w : World} {K : PySem.W.Frag} {mg : Str → Option Value} {base : Heap} {j k : Nat} {x : Str} {n : Nat} {sp : SpZ} (F : FnZ P w K mg base j x n sp) (h : j ≤ k) : FnZ P w K mg base k x n sp := by
  obtain ⟨f, fd, ps, h1, h2, h3, h4, h5⟩ := F.ok
  exact ⟨f, fd, ps, h1, h2, h3, h4, h5.mono h⟩
theorem FnZ.imp {P : Program} {w : World} {K : PySem.W.Frag} {mg : Str → Option Value} {base : Heap} {k : Nat} {x : Str} {n : Nat} {sp sp' : SpZ} (F : FnZ P w K mg base k x n sp) (h : ∀ rs S W, sp' rs S W → sp rs S W) : FnZ P w K mg base k x n sp' := by
  obtain ⟨f, fd, ps, h1, h2, h3, h4, h5⟩ := F.ok
  exact ⟨f, fd, ps, h1, h2, h3, h4, h5.imp fun vs H Q E ⟨m, rs, S, W, hl, a, b, c, d⟩ => ⟨m, rs, S, W, hl, a, b, h _ _ _ c, d⟩⟩
section
variable {K : PySem.W.Frag} {m m1 m2 : List Addr} {H H0 H1 : Hp} {S S1 T : Sto}
theorem pick_ok : ∀ {ls : List Nat} {T : Sto}, pick S ls = some T → T.length = ls.length ∧ ∀ i : Nat, T[i]? = ls[i]?.bind (S[·]?)
  | [], T, h => by simp [pick] at h; subst h; exact ⟨rfl, fun i => by simp⟩
  | n :: ns, T, h => by
    unfold pick at h
    split at h
    · rename_i o r e1 e2
      cases h
      obtain ⟨h1, h2⟩ := pick_ok e2
      refine ⟨by simp [h1], fun i => ?_⟩
      cases i with
      | zero => simp [e1]
      | succ i => simpa using h2 i
    · cases h
/-- the store of some lists alone -/
theorem RepS.pick (r : RepS K m H S) {ls : List Nat} {T : Sto} (nd : ls.Nodup) (e : pick S ls = some T) : RepS K (ls.filterMap (m[·]?)) H T ∧ (∀ n ∈ ls, n < m.length) := by
  obtain ⟨h1, h2⟩ := pick_ok e
  have lt : ∀ n ∈ ls, n < m.length := fun n hn => by
    obtain ⟨i, hi⟩ := List.getElem?_of_mem hn
    have h3 := h2 i
    rw [hi] at h3
    have : i < T.length := by rw [h1]; exact (List.getElem?_eq_some_iff.mp hi).1
    rw [List.getElem?_eq_getElem this] at h3
    have h4 : S[n]? = some T[i] := h3.symm
    rw [r.len]; exact (List.getElem?_eq_some_iff.mp h4).1
  have get : ∀ i : Nat, (ls.filterMap (m[·]?))[i]? = ls[i]?.bind (m[·]?) := filterMap_get lt
  refine ⟨⟨?_, by rw [filterMap_len lt, h1], fun n o e1 => ?_, r.tab⟩, lt⟩
  · have inj : ∀ {ls : List Nat}, ls.Nodup → (∀ n ∈ ls, n < m.length) → (ls.filterMap (m[·]?)).Nodup := by
      intro ls
      induction ls with
      | nil => intro _ _; simp
      | cons n ls ih =>
        intro h1 h2
        rw [List.filterMap_cons, List.getElem?_eq_getElem (h2 n (by simp))]
        refine List.nodup_cons.mpr ⟨fun hm => ?_, ih (List.nodup_cons.mp h1).2 fun k hk => h2 k (by simp [hk])⟩
        obtain ⟨j, hj, e⟩ := List.mem_filterMap.mp hm
        obtain ⟨l1, e1⟩ := List.getElem?_eq_some_iff.mp e
        have := (List.getElem_inj r.nd).mp e1
        subst this
        exact (List.nodup_cons.mp h1).1 hj
    exact inj nd lt
  · rw [h2, Option.bind_eq_some_iff] at e1
    obtain ⟨j, e2, e3⟩ := e1
    obtain ⟨a, h3, h4⟩ := r.at_ j o e3
    exact ⟨a, by rw [get, e2]; exact h3, h4⟩
theorem renum_len : ∀ (rs : List R) (k : Nat), (renum k rs).length = rs.length
  | [], _ => rfl
  | x :: r, k => by rw [renum, List.length_cons, List.length_cons, renum_len r]
mutual
theorem renR_at {mm : List Addr} : ∀ (x : R) (k : Nat) (v : V), RepR K m H x v → (∀ i n, (locR x)[i]? = some n → ∀ a, m[n]? = some a → mm[k + i]? = some a) → RepR K mm H (renR k x) v
  | .d _, _, _, h, _ => h
  | .ro _, _, _, h, _ => h
  | .ex _, _, _, h, _ => h
  | .ad _, _, _, h, _ => h
  | .loc n, k, v, ⟨a, h1, h2⟩, hh => ⟨a, by simpa using hh 0 n rfl a h1, h2⟩
  | .tr xs, k, v, ⟨a, vs, e, h, r⟩, hh => ⟨a, vs, e, h, renum_at xs k vs r hh⟩
theorem renum_at {mm : List Addr} : ∀ (rs : List R) (k : Nat) (vs : List V), RepRs K m H rs vs → (∀ i n, (argLocs rs)[i]? = some n → ∀ a, m[n]? = some a → mm[k + i]? = some a) → RepRs K mm H (renum k rs) vs
  | [], _, _, h, _ => h
  | x :: rs, k, _, ⟨v, r, e, h, t⟩, hh => ⟨v, r, e, renR_at x k v h (fun i n e1 a h3 => hh i n (by
      rw [argLocs, List.getElem?_append_left (List.getElem?_eq_some_iff.mp e1).1]; exact e1) a h3), renum_at rs _ r t fun i n e1 a h3 => by
      have := hh ((locR x).length + i) n (by rw [argLocs, List.getElem?_append_right (by omega), Nat.add_sub_cancel_left]; exact e1) a h3
      rw [Nat.add_assoc]; exact this⟩
end
theorem putAll_len : ∀ {ls : List Nat} {S T : Sto}, (putAll S ls T).length = S.length
  | [], S, T => by unfold putAll; rfl
  | n :: ls, S, [] => by unfold putAll; rfl
  | n :: ls, S, o :: T => by unfold putAll; rw [putAll_len, List.length_set]
theorem putAll_out {n : Nat} : ∀ {ls : List Nat} {S T : Sto}, n ∉ ls → (putAll S ls T)[n]? = S[n]?
  | [], S, T, _ => by unfold putAll; rfl
  | k :: ls, S, [], _ => by unfold putAll; rfl
  | k :: ls, S, o :: T, h => by
    unfold putAll
    rw [putAll_out (fun q => h (by simp [q])), List.getElem?_set_ne (fun q => h (by simp [q]))]
theorem putAll_in {n i : Nat} {o : O} : ∀ {ls : List Nat} {S T : Sto}, ls.Nodup → (putAll S ls T)[n]? = some o → ls[i]? = some n → i < T.length → T[i]? = some o
  | [], S, T, _, _, h, _ => by simp at h
  | k :: ls, S, [], _, _, _, h => by simp at h
  | k :: ls, S, p :: T, nd, e, h, hl => by
    unfold putAll at e
    cases i with
    | zero =>
      simp at h; subst h
      rw [putAll_out (List.nodup_cons.mp nd).1] at e
      have hk : k < S.length := by
        by_cases hk : k < S.length
        · exact hk
        · rw [List.getElem?_eq_none (by simpa using hk)] at e; cases e
      rw [List.getElem?_set_self hk] at e
      exact e
    | succ i => exact putAll_in (i := i) (List.nodup_cons.mp nd).2 e (by simpa using h) (by simpa using hl)
/-- behind a call: the caller's numbers again -/
theorem call_back {ls : List Nat} {T' : Sto} {m' : List Addr} (r : RepS K m H S) (nd : ls.Nodup) (lt : ∀ n ∈ ls, n < m.length) (g : Grow (ls.filterMap (m[·]?)) H m' H1) (r' : RepS K m' H1 T') :
    Grow m H m H1 ∧ RepS K m H1 (putAll S ls T') := by
  have get : ∀ i : Nat, (ls.filterMap (m[·]?))[i]? = ls[i]?.bind (m[·]?) := filterMap_get lt
  have sub : ∀ b, b ∈ ls.filterMap (m[·]?) → b ∈ m := fun b hb => by
    obtain ⟨n, _, e⟩ := List.mem_filterMap.mp hb
    exact List.mem_of_getElem? e
  refine ⟨⟨fun _ _ h => h, g.tup, g.frz, g.xt, fun b o e hb hn => g.frame b o e (fun q => hb (sub b q)) hn, fun _ h n => absurd h n, g.tb⟩, ⟨r.nd, by rw [putAll_len, r.len], fun n o e => ?_, r'.tab⟩⟩
  have hn : n < m.length := by
    have := (List.getElem?_eq_some_iff.mp e).1
    rw [putAll_len, ← r.len] at this; exact this
  refine ⟨m[n], List.getElem?_eq_getElem hn, ?_⟩
  by_cases hm : n ∈ ls
  · obtain ⟨i, hi⟩ := List.getElem?_of_mem hm
    have h1 : m'[i]? = some m[n] := g.pre i _ (by rw [get, hi]; exact List.getElem?_eq_getElem hn)
    have hl : i < T'.length := by rw [← r'.len]; exact (List.getElem?_eq_some_iff.mp h1).1
    have h2 := putAll_in nd e hi hl
    obtain ⟨a, h3, h4⟩ := r'.at_ i o h2
    rw [h1] at h3; cases h3
    exact h4
  · rw [putAll_out hm] at e
    obtain ⟨a, h1, h2⟩ := r.at_ n o e
    rw [List.getElem?_eq_getElem hn] at h1; cases h1
    obtain ⟨u, h3⟩ := h2.some
    refine h2.grow g ?_
    rw [h3]
    refine g.frame _ _ h3 (fun q => ?_) (h2.ntbl h3)
    obtain ⟨k, hk, e1⟩ := List.mem_filterMap.mp q
    obtain ⟨l1, e2⟩ := List.getElem?_eq_some_iff.mp e1
    have := (List.getElem_inj r.nd).mp e2
    subst this
    exact hm hk
end
section
variable {X : Cx} {e : Expr} {es : List Expr} {was : PA1}
abbrev wCall (sp : SpZ) (n : Nat) (ws : PA1) : PE1 := fun r S W => ws r S fun xs S1 => bindVs xs S1 fun rs S2 => callL sp n rs S2 W
theorem rsOf_ok {K : PySem.W.Frag} {m : List Addr} {H H0 : Hp} : ∀ {xs : List SV} {vs : List V} {rs : List R}, RepVs K m H H0 xs vs → rsOf xs = some rs → RepRs K m H rs vs
  | [], _, _, h, e => by simp [rsOf] at e; subst e; exact h
  | .r x :: xs, _, _, ⟨v, r, e1, h, t⟩, e => by
    simp only [rsOf, Option.map_eq_some_iff] at e
    obtain ⟨rs, e2, rfl⟩ := e
    exact ⟨v, r, e1, h, rsOf_ok t e2⟩
  | .f _ :: _, _, _, _, e => by cases e
theorem bindVs_ok {K : PySem.W.Frag} {m0 : List Addr} {H0 H : Hp} : ∀ {xs : List SV} {vs : List V} {m : List Addr} {S : Sto} {W : List R → Sto → Prop}, Grow m0 H0 m H → RepS K m H S → RepVs K m H H0 xs vs → bindVs xs S W →
    ∃ rs S' m', W rs S' ∧ Grow m0 H0 m' H ∧ RepS K m' H S' ∧ RepRs K m' H rs vs ∧ ∀ (n : Nat) a, m[n]? = some a → m'[n]? = some a
  | [], vs, m, S, W, g, r, q, w => ⟨[], S, m, w, g, r, q, fun _ _ h => h⟩
  | .r x :: xs, _, m, S, W, g, r, ⟨v, us, e, h, t⟩, w => by
    obtain ⟨rs, S', m', w', g', r', q', p'⟩ := bindVs_ok (xs := xs) g r t w
    exact ⟨x :: rs, S', m', w', g', r', ⟨v, us, e, RepR.pre p' x v h, q'⟩, p'⟩
  | .f l :: xs, _, m, S, W, g, r, ⟨v, us, e, h, t⟩, w => by
    unfold bindVs at w
    split at w
    · rename_i rs e1
      obtain ⟨a, vs, e2, h1, h2, h3, h4⟩ := h
      refine ⟨_, _, m ++ [a], w, Grow.push h3 g, r.push h2 h1 h4, ⟨v, us, e, ⟨a, by rw [← r.len]; simp, e2⟩, RepRs.pre pre_push _ _ (rsOf_ok t e1)⟩, pre_push⟩
    · exact w.elim
theorem callL_ok {K : PySem.W.Frag} {n : Nat} {sp : SpZ} {m0 m : List Addr} {H0 H : Hp} {S : Sto} {rs : List R} {vs : List V} {W : PK1} {Q : VK} {E : XK} (g : Grow m0 H0 m H) (r : RepS K m H S) (q : RepRs K m H rs vs)
    (w : callL sp n rs S W) (f : Fin K m0 H0 W Q) : liftSp K n sp vs H Q E := by
  obtain ⟨⟨hn, nd⟩, w⟩ := w
  split at w
  · rename_i T eT
    obtain ⟨rT, lt⟩ := r.pick nd eT
    have get : ∀ i : Nat, ((argLocs rs).filterMap (m[·]?))[i]? = (argLocs rs)[i]?.bind (m[·]?) := filterMap_get lt
    have hn' : (renum 0 rs).length = n := by rw [renum_len]; exact hn
    refine ⟨(argLocs rs).filterMap (m[·]?), renum 0 rs, T, _, hn', renum_at rs 0 vs q (fun i k e1 a e2 => by rw [Nat.zero_add, get, e1]; exact e2), rT, w, fun x T' v m' H' h' g' r' q' => ?_⟩
    obtain ⟨g1, r1⟩ := call_back r nd lt g' r'
    have gg := g.trans g1
    have fresh : ∀ {j : Nat} {a : Addr}, (argLocs rs).length ≤ j → m'[j]? = some a → a ∉ (argLocs rs).filterMap (m[·]?) := fun {j a} hj e hm => by
      obtain ⟨i, hi⟩ := List.getElem?_of_mem hm
      have e1 := g'.pre i a hi
      have hl := (List.getElem?_eq_some_iff.mp hi).1
      rw [filterMap_len lt] at hl
      obtain ⟨l1, e2⟩ := List.getElem?_eq_some_iff.mp e1
      obtain ⟨l2, e3⟩ := List.getElem?_eq_some_iff.mp e
      have := (List.getElem_inj r'.nd).mp (e2.trans e3.symm)
      omega
    have fresh0 : ∀ {j : Nat} {a : Addr}, (argLocs rs).length ≤ j → m'[j]? = some a → H a = none := fun {j a} hj e => g'.new a (List.mem_of_getElem? e) (fresh hj e)
    unfold backL at h'
    cases x with
    | d y => exact f _ _ v m H' h' gg r1 q'
    | ro y => exact f _ _ v m H' h' gg r1 q'
    | ex y => exact f _ _ v m H' h' gg r1 q'
    | ad y => exact f _ _ v m H' h' gg r1 q'
    | loc j =>
      simp only at h'
      obtain ⟨a, e1, rfl⟩ := q'
      split at h'
      · rename_i hj
        split at h'
        · rename_i k e2
          have e3 : m'[j]? = m[k]? := by
            have hk := lt k (List.mem_of_getElem? e2)
            have := g'.pre j (m[k]) (by rw [get, e2]; exact List.getElem?_eq_getElem hk)
            rw [this, List.getElem?_eq_getElem hk]
          exact f _ _ _ m H' h' gg r1 ⟨a, by rw [← e3]; exact e1, rfl⟩
        · exact h'.elim
      · rename_i hj
        split at h'
        · rename_i xs e2
          obtain ⟨a', e3, us, k1, k2⟩ := r'.at_ j _ e2
          rw [e1] at e3; cases e3
          have hH := fresh0 (by omega) e1
          exact f _ _ _ m H' h' gg r1 ⟨a, us, rfl, k1, r.notmem hH, g.fresh r hH, k2⟩
        · rename_i e2
          obtain ⟨a', e3, k1⟩ := r'.at_ j _ e2
          rw [e1] at e3; cases e3
          have hH := fresh0 (by omega) e1
          exact f _ _ _ (m ++ [a]) H' h' (Grow.push (g.fresh r hH) gg) (r1.pushO (r.notmem hH) k1) ⟨a, by rw [← r.len]; simp, rfl⟩
        · rename_i e2
          obtain ⟨a', e3, k1⟩ := r'.at_ j _ e2
          rw [e1] at e3; cases e3
          have hH := fresh0 (by omega) e1
          exact f _ _ _ (m ++ [a]) H' h' (Grow.push (g.fresh r hH) gg) (r1.pushO (r.notmem hH) k1) ⟨a, by rw [← r.len]; simp, rfl⟩
        · exact h'.elim
    | tr xs =>
      obtain ⟨t2, t3, h'⟩ := h'
      split at h'
      · rename_i U eU
        obtain ⟨rU, ltU⟩ := r'.pick t2 eU
        have getU : ∀ i : Nat, ((argLocs xs).filterMap (m'[·]?))[i]? = (argLocs xs)[i]?.bind (m'[·]?) := filterMap_get ltU
        have out : ∀ b, b ∈ (argLocs xs).filterMap (m'[·]?) → H b = none := fun b hb => by
          obtain ⟨k, hk, e⟩ := List.mem_filterMap.mp hb
          exact fresh0 (t3 k hk) e
        obtain ⟨a, us, ev, k1, k2⟩ := q'
        refine f _ _ v (m ++ (argLocs xs).filterMap (m'[·]?)) H' h' ⟨fun i b e => ?_, gg.tup, gg.frz, gg.xt, gg.frame, fun b hb hm => ?_, gg.tb⟩ ⟨?_, by rw [List.length_append, List.length_append, r1.len, rU.len], fun i o e => ?_, r1.tab⟩ ⟨a, us, ev, k1, ?_⟩
        · have := gg.pre i b e
          rw [List.getElem?_append_left (List.getElem?_eq_some_iff.mp this).1]; exact this
        · rcases List.mem_append.mp hb with z | z
          · exact gg.new b z hm
          · exact g.fresh r (out b z)
        · rw [List.nodup_append]
          exact ⟨r1.nd, rU.nd, fun b hb c hc e => by subst e; exact r.notmem (out b hc) hb⟩
        · by_cases hi : i < (putAll S (argLocs rs) T').length
          · rw [List.getElem?_append_left hi] at e
            obtain ⟨b, h1, h2⟩ := r1.at_ i o e
            exact ⟨b, by rw [List.getElem?_append_left (by rw [r1.len]; exact hi)]; exact h1, h2⟩
          · rw [List.getElem?_append_right (by omega)] at e
            obtain ⟨b, h1, h2⟩ := rU.at_ _ o e
            exact ⟨b, by rw [List.getElem?_append_right (by rw [r1.len]; omega), r1.len]; exact h1, h2⟩
        · refine renum_at _ _ _ k2 fun i k e1 b e2 => ?_
          rw [← r.len, List.getElem?_append_right (by omega), Nat.add_sub_cancel_left, getU, e1]
          exact e2
      · exact h'.elim
  · exact w.elim
theorem we_call {k n : Nat} {x : Str} {p pos : Pos} {sp : SpZ} (F : FnZ X.prog X.w X.K X.mg X.base k x n sp) (hr : Room k X.A) (hg : Gl X x) (ha : WA X (e :: es) was) (hdb : (x == ("__debug__" : Str)) = false := by decide)
    (he : starEach (e :: es) X.env = (false, eval e X.env) :: starEach es X.env := by rfl) (hpl : (backTo pos (starEach es X.env)).any (·.1) = false := by rfl) : WE X (.Call (.Name x p) (e :: es) [] pos) (wCall sp n was) := by
  obtain ⟨f, fd, ps, h1, h2, h3, h4, h5⟩ := F.ok
  have hp := pe_call (E := E0) (p := p) h5 hr hg h2 h3 h4 .nil pass0 ha.pa hdb he hpl
  refine ⟨⟨fun pins s z H Q I ⟨m, r, S, W, hE, hS, hw, hf⟩ => hp.run pins s z H Q I ⟨m, r, S, _, hE, hS, hw, fun xs S1 vs m1 H1 k1 g1 r1 q1 => ?_⟩⟩⟩
  obtain ⟨rs, S2, m2, w2, g2, r2, q2, _⟩ := bindVs_ok g1 r1 q1 k1
  rw [List.append_nil]
  exact callL_ok g2 r2 q2 w2 hf
end
/-- the slots at the entry -/
abbrev start1 (n : Nat) (rs : List R) : Rho := rs.map some ++ List.replicate (n - rs.length) none
section
variable {P : Program} {w : World} {K : PySem.W.Frag} {mg : Str → Option Value} {base : Heap}
/-- behind a return: the lists handed in, and the list handed back, if it is a new one -/
abbrev retN (k : Nat) (W : R → Sto → Prop) : R → Sto → Prop := fun x S => match x with
  | .d y => W (.d y) (S.take k)
  | .ro y => W (.ro y) (S.take k)
  | .ex y => W (.ex y) (S.take k)
  | .ad y => W (.ad y) (S.take k)
  | .loc j => if j < k then W (.loc j) (S.take k) else match S[j]? with
    | some o => W (.loc k) (S.take k ++ [o])
    | none => False
  | .tr xs => W (.tr xs) S
theorem retN_ok {m0 m' : List Addr} {H0 H' : Hp} {S' : Sto} {x : R} {v : V} {k : Nat} {W : R → Sto → Prop} (hk : m0.length = k) (g : Grow m0 H0 m' H') (r : RepS K m' H' S') (q : RepR K m' H' x v) (w : retN k W x S') :
    ∃ y T m2, W y T ∧ Grow m0 H0 m2 H' ∧ RepS K m2 H' T ∧ RepR K m2 H' y v := by
  have hle : k ≤ S'.length := by
    rw [← r.len, ← hk]
    by_cases h : m0.length = 0
    · omega
    · have h1 : m0.length - 1 < m0.length := by omega
      have := (List.getElem?_eq_some_iff.mp (g.pre (m0.length - 1) _ (List.getElem?_eq_getElem h1))).1
      omega
  have e0 : (List.range k).filterMap (S'[·]?) = S'.take k := by
    have go : ∀ n, n ≤ S'.length → (List.range n).filterMap (S'[·]?) = S'.take n := by
      intro n
      induction n with
      | zero => intro _; simp
      | succ n ih =>
        intro h
        have hn : n < S'.length := by omega
        rw [List.range_succ, List.filterMap_append, ih (by omega), List.take_add_one, List.getElem?_eq_getElem hn, List.filterMap_cons, List.getElem?_eq_getElem hn]
        rfl
    exact go k hle
  have cut0 : ∀ y : R, kept (List.range k) (some y) = some y → RepR K m' H' y v → ∃ m2, Grow m0 H0 m2 H' ∧ RepS K m2 H' (S'.take k) ∧ RepR K m2 H' y v := fun y hy qy => by
    obtain ⟨m2, a, b, c⟩ := Cut.ok (K := K) (r := [some y]) (s := [some v]) (r' := [some y].map (kept (List.range k))) (S' := (List.range k).filterMap (S'[·]?)) (.inr ⟨_, List.nodup_range, by rw [List.take_range]; simp, fun n hn => by have := List.mem_range.mp hn; omega, rfl, rfl⟩) hk g
      ⟨rfl, fun i z e => by
        cases i with
        | zero => simp at e; subst e; exact ⟨v, rfl, qy⟩
        | succ i => simp at e⟩ r
    rw [e0] at c
    obtain ⟨u, h1, h2⟩ := b.at_ 0 y (by simp [hy])
    simp at h1; subst h1
    exact ⟨m2, a, c, h2⟩
  unfold retN at w
  split at w
  · obtain ⟨m2, a, b, c⟩ := cut0 _ rfl q
    exact ⟨_, _, m2, w, a, b, c⟩
  · obtain ⟨m2, a, b, c⟩ := cut0 _ rfl q
    exact ⟨_, _, m2, w, a, b, c⟩
  · obtain ⟨m2, a, b, c⟩ := cut0 _ rfl q
    exact ⟨_, _, m2, w, a, b, c⟩
  · obtain ⟨m2, a, b, c⟩ := cut0 _ rfl q
    exact ⟨_, _, m2, w, a, b, c⟩
  · rename_i j
    split at w
    · rename_i hj
      obtain ⟨m2, a, b, c⟩ := cut0 (.loc j) (by simp only [kept, List.mem_range, hj, if_true]; congr 2; exact (by
        have : ∀ n, j < n → (List.range n).idxOf j = j := by
          intro n
          induction n with
          | zero => intro h; omega
          | succ n ih =>
            intro h
            rw [List.range_succ, List.idxOf_append]
            by_cases hh : j < n
            · rw [if_pos (List.mem_range.mpr hh)]; exact ih hh
            · rw [if_neg (by simpa using hh)]
              have : j = n := by omega
              subst this; simp
        exact this k hj)) q
      exact ⟨_, _, m2, w, a, b, c⟩
    · rename_i hj
      split at w
      · rename_i o eo
        have hjl := (List.getElem?_eq_some_iff.mp eo).1
        have nm : j ∉ List.range k := by simp; omega
        obtain ⟨m2, a, b, c⟩ := Cut.ok (K := K) (r := [some (.loc j)]) (s := [some v]) (r' := [some (.loc j)].map (kept (List.range k ++ [j]))) (S' := (List.range k ++ [j]).filterMap (S'[·]?))
          (.inr ⟨_, by rw [List.nodup_append]; exact ⟨List.nodup_range, by simp, fun x hx y hy e => by simp at hy; subst hy; subst e; exact nm hx⟩, by rw [List.take_append]; simp [List.take_range], fun n hn => by
            rcases List.mem_append.mp hn with z | z
            · have := List.mem_range.mp z; omega
            · simp at z; omega, rfl, rfl⟩) hk g
          ⟨rfl, fun i z e => by
            cases i with
            | zero => simp at e; subst e; exact ⟨v, rfl, q⟩
            | succ i => simp at e⟩ r
        rw [List.filterMap_append, e0, List.filterMap_cons, eo] at c
        have hk2 : kept (List.range k ++ [j]) (some (R.loc j)) = some (.loc k) := by
          simp only [kept]
          rw [if_pos (by simp)]
          congr 2
          rw [List.idxOf_append, if_neg nm]
          simp
        obtain ⟨u, h1, h2⟩ := b.at_ 0 (.loc k) (by simp [hk2])
        simp at h1; subst h1
        exact ⟨_, _, m2, w, a, c, h2⟩
      · exact w.elim
  · exact ⟨_, _, m', w, g, r, q⟩
/-- THE RULE: a def by its body's combinators, and their reading -/
theorem fn_ok {x : Str} {st : Stmt} {f : Addr} {fd : FuncData} {N ps : List Str} {k : Nat} {wb : PS1} {sp : SpZ} (F : Fun K x x st f fd) (sc : FnScope N ps (defScope st))
    (hbody : ∀ (cdv : Value) (A : Around) (outer : List Env) (s : Shared) (H : Hp) (E : XK), Room k (A.deeper (envOfC x (defScope st) s.heap.objs.size f cdv)) →
      WSs (cxOf CX0 P w K mg base N x (defScope st) f cdv A outer s H E).nox (defBody st) wb)
    (hread : ∀ rs S W, rs.length = ps.length → sp rs S W → wb { nx := fun _ S1 => retN S.length W (.d .non) S1, rt := retN S.length W } (start1 N.length rs) S) : FnOk P w K mg base CX0 (k + 1) f fd ps (liftSp K ps.length sp) := by
  refine F.ok sc (fun vs H Q E ⟨m, rs, S, W, hl, q, _⟩ => (RepRs.len q).trans hl) fun cdv A outer s H vs Q E hr ⟨m, rs, S, W, hl, q, hS, hsp, hf⟩ => ⟨_, (hbody cdv A outer s H E hr).pss, ?_⟩
  refine ⟨m, start1 N.length rs, S, _, ?_, hS, hread rs S W hl hsp, ⟨fun r' S' s' m' H' n g e q' => (by
      obtain ⟨y, T, m2, a, b, c, d⟩ := retN_ok (K := K) (x := .d .non) (v := .non) hS.len g q' rfl n
      exact hf y T .non m2 H' a b c d), fun y S' v m' H' n g q' w' => (by
      obtain ⟨y2, T, m2, a, b, c, d⟩ := retN_ok hS.len g q' w' n
      exact hf y2 T v m2 H' a b c d), fun _ _ _ _ _ n => n.elim, fun _ _ _ _ _ n => n.elim⟩⟩
  refine ⟨?_, fun i y e => ?_⟩
  · unfold L2.start Z.start1
    simp [RepRs.len q]
  · unfold start1 at e
    by_cases hi : i < rs.length
    · rw [List.getElem?_append_left (by simpa using hi), List.getElem?_map, Option.map_eq_some_iff] at e
      obtain ⟨z, e1, e2⟩ := e
      cases e2
      obtain ⟨v, h1, h2⟩ := RepRs.get q e1
      refine ⟨v, ?_, h2⟩
      unfold L2.start
      rw [List.getElem?_append_left (by rw [List.length_map, RepRs.len q]; exact hi), List.getElem?_map, h1]
      rfl
    · rw [List.getElem?_append_right (by simpa using hi)] at e
      rw [List.getElem?_replicate] at e
      split at e <;> cases e
theorem fn_def {x : Str} {st : Stmt} {f : Addr} {fd : FuncData} {N ps : List Str} {k : Nat} {wb : PS1} {sp : SpZ} (F : Fun K x x st f fd) (hm : mg x = some (.ref f)) (hb : Binds K fd ps []) (sc : FnScope N ps (defScope st))
    (hbody : ∀ (cdv : Value) (A : Around) (outer : List Env) (s : Shared) (H : Hp) (E : XK), Room k (A.deeper (envOfC x (defScope st) s.heap.objs.size f cdv)) →
      WSs (cxOf CX0 P w K mg base N x (defScope st) f cdv A outer s H E).nox (defBody st) wb)
    (hread : ∀ rs S W, rs.length = ps.length → sp rs S W → wb { nx := fun _ S1 => retN S.length W (.d .non) S1, rt := retN S.length W } (start1 N.length rs) S) : FnZ P w K mg base (k + 1) x ps.length sp :=
  ⟨f, fd, ps, rfl, hm, F.kp, hb, fn_ok F sc hbody hread⟩
/-- a def of the text, as the top left it -/
structure DefAt (K : PySem.W.Frag) (mg : Str → Option Value) (x : Str) (st : Stmt) (ps : List Str) : Prop where
  ex : ∃ f fd, Fun K x x st f fd ∧ mg x = some (.ref f) ∧ Binds K fd ps []
theorem DefAt.mk' {h : Heap} {x : Str} {st : Stmt} {ps : List Str} {f : Addr} {oc : Value} {od an : Option Addr} {osl : Array (Option Value)} {kV doc pm cdv ct : Value} (X : K.In h) (G : h.Ns mainGlobals mg)
    (a : PySem.W.nsIn K mainGlobals x = some (some (.ref f))) (l : K.lookup f = some ⟨oc, od, .func (PySem.W.fnOf x x (defArgs st) (defBody st) (defScope st) .none kV doc pm an cdv ct), osl⟩)
    (c : PySem.W.codeIn K cdv x = true) (k : PySem.W.keepIn K (.ref f) = true)
    (b : ∀ (kV doc pm : Value) (an : Option Addr) (cdv ct : Value) (us : List Value), us.length = ps.length → bindArgs (PySem.W.fnOf x x (defArgs st) (defBody st) (defScope st) .none kV doc pm an cdv ct) ⟨us, []⟩ = pure (ps.zip us)) : DefAt K mg x st ps :=
  have F := fun_mk (st := st) l c k
  ⟨f, _, F, PySem.W.mg_of X G a, F.binds b⟩
theorem DefAt.fn {x : Str} {st : Stmt} {N ps : List Str} {k : Nat} {wb : PS1} {sp : SpZ} (d : DefAt K mg x st ps) (sc : FnScope N ps (defScope st))
    (hbody : ∀ (f : Addr) (cdv : Value) (A : Around) (outer : List Env) (s : Shared) (H : Hp) (E : XK), Room k (A.deeper (envOfC x (defScope st) s.heap.objs.size f cdv)) →
      WSs (cxOf CX0 P w K mg base N x (defScope st) f cdv A outer s H E).nox (defBody st) wb)
    (hread : ∀ rs S W, rs.length = ps.length → sp rs S W → wb { nx := fun _ S1 => retN S.length W (.d .non) S1, rt := retN S.length W } (start1 N.length rs) S) : FnZ P w K mg base (k + 1) x ps.length sp :=
  let ⟨f, _, F, hm, hb⟩ := d.ex
  fn_def F hm hb sc (hbody f) hread
end
/-- the law's own promise: of a list that nobody writes it hands back True -/
def spLaw (P : List Int → Prop) : SpZ := fun rs S W => match rs, S with
  | [.ro xs], [] => ∃ ns : List Int, xs = ns.map D.int ∧ P ns ∧ W (.d (.bl true)) []
  | _, _ => False
end Z
namespace Z
open PySem PySem.Spec PyProof.Rows L2 RZ
/-- the script: at most 63 ints, each of at most 2 ^ 20 bits -/
def SB : Nat := 1048577
def Script (ns : List Int) : Prop := ns.length ≤ 63 ∧ ∀ z ∈ ns, z.natAbs < 2 ^ SB
theorem repInts_of {K : PySem.W.Frag} {H : Hp} (ns : List Int) : RepDs K H (ns.map D.int) (ns.map V.int) := repInts ns
theorem bits_lt {z : Int} (h : Builtin.Int.intBits z ≤ 1048576) : z.natAbs < 2 ^ SB := by
  by_cases hz : z = 0
  · subst hz; exact Nat.two_pow_pos _
  · unfold Builtin.Int.intBits at h
    rw [if_neg (by simpa using hz)] at h
    exact Nat.lt_of_lt_of_le ((Nat.log2_lt (by omega)).mp (Nat.lt_of_lt_of_le (Nat.lt_succ_self _) h)) (Nat.pow_le_pow_right (by decide) (by unfold SB; decide))
end Z
set_option Elab.async false
set_option linter.all false
/-! M1: rows of whole numbers, what divides all of them, their plain form. Plain mathematics. -/
namespace Z
theorem cdvd {d : Nat} {x : Int} : (d : Int) ∣ x ↔ d ∣ x.natAbs := by
  rw [← Int.natAbs_dvd_natAbs]; simp
/-- what divides all of a row -/
def gl : List Int → Nat
  | [] => 0
  | x :: xs => Nat.gcd x.natAbs (gl xs)
theorem gl_dvd : ∀ {xs : List Int} {x : Int}, x ∈ xs → (gl xs : Int) ∣ x
  | y :: ys, x, h => by
    rcases List.mem_cons.mp h with e | e
    · subst e
      exact cdvd.mpr (Nat.gcd_dvd_left _ _)
    · have := gl_dvd e
      exact Int.dvd_trans (Int.natCast_dvd_natCast.mpr (Nat.gcd_dvd_right _ _)) this
theorem gl_zero : ∀ {xs : List Int}, gl xs = 0 → ∀ x ∈ xs, x = 0
  | xs, h, x, hx => by
    have := gl_dvd hx
    rw [h] at this
    simpa using this
theorem gl_pos {xs : List Int} (h : ∃ x ∈ xs, x ≠ 0) : 0 < gl xs := by
  obtain ⟨x, hx, h0⟩ := h
  exact Nat.pos_of_ne_zero fun e => h0 (gl_zero e x hx)
theorem gl_le {xs : List Int} {x : Int} (hx : x ∈ xs) (h0 : x ≠ 0) : gl xs ≤ x.natAbs := Nat.le_of_dvd (by omega) (cdvd.mp (gl_dvd hx))
theorem gl_map_mul (k : Int) : ∀ xs : List Int, gl (xs.map (k * ·)) = k.natAbs * gl xs
  | [] => by simp [gl]
  | x :: xs => by
    simp only [List.map_cons, gl, gl_map_mul k xs, Int.natAbs_mul, Nat.gcd_mul_left]
/-- the sign of the first number that isn't 0 -/
def fs : List Int → Int
  | [] => 1
  | x :: xs => if x = 0 then fs xs else if x < 0 then -1 else 1
theorem fs_or : ∀ xs : List Int, fs xs = 1 ∨ fs xs = -1
  | [] => .inl rfl
  | x :: xs => by
    unfold fs
    split
    · exact fs_or xs
    · split
      · exact .inr rfl
      · exact .inl rfl
theorem fs_sq (xs : List Int) : fs xs * fs xs = 1 := by rcases fs_or xs with e | e <;> rw [e] <;> rfl
theorem fs_mul {k : Int} (hk : k ≠ 0) : ∀ {xs : List Int}, (∃ x ∈ xs, x ≠ 0) → fs (xs.map (k * ·)) = (if k < 0 then -1 else 1) * fs xs
  | [], h => by simp at h
  | x :: xs, h => by
    by_cases hx : x = 0
    · subst hx
      have h' : ∃ x ∈ xs, x ≠ 0 := by
        obtain ⟨y, hy, h0⟩ := h
        rcases List.mem_cons.mp hy with e | e
        · exact absurd e h0
        · exact ⟨y, e, h0⟩
      simpa [fs] using fs_mul hk h'
    · have hkx : k * x ≠ 0 := Int.mul_ne_zero hk hx
      simp only [List.map_cons, fs, if_neg hx, if_neg hkx]
      by_cases h1 : k < 0
      · by_cases h2 : x < 0
        · rw [if_pos h1, if_pos h2, if_neg (by have := Int.mul_pos_of_neg_of_neg h1 h2; omega)]; rfl
        · rw [if_pos h1, if_neg h2, if_pos (Int.mul_neg_of_neg_of_pos h1 (by omega))]; rfl
      · by_cases h2 : x < 0
        · rw [if_neg h1, if_pos h2, if_pos (Int.mul_neg_of_pos_of_neg (by omega) h2)]; rfl
        · rw [if_neg h1, if_neg h2, if_neg (by have := Int.mul_pos (show 0 < k by omega) (show 0 < x by omega); omega)]; rfl
/-- the row divided by what divides all -/
def prow (xs : List Int) : List Int := xs.map (· / (gl xs : Int))
/-- the plain form: the first number that isn't 0 above 0 -/
def pln (xs : List Int) : List Int := xs.map fun x => fs xs * (x / (gl xs : Int))
theorem prow_mul {xs : List Int} (h : ∃ x ∈ xs, x ≠ 0) : xs = (prow xs).map ((gl xs : Int) * ·) := by
  unfold prow
  rw [List.map_map]
  have : ∀ x ∈ xs, ((fun x => (gl xs : Int) * x) ∘ fun x => x / (gl xs : Int)) x = x := fun x hx => Int.mul_ediv_cancel' (gl_dvd hx)
  conv => lhs; rw [← List.map_id xs]
  exact List.map_congr_left fun x hx => (this x hx).symm
theorem pln_mul {xs : List Int} (h : ∃ x ∈ xs, x ≠ 0) : xs = (pln xs).map ((fs xs * (gl xs : Int)) * ·) := by
  unfold pln
  rw [List.map_map]
  have : ∀ x ∈ xs, ((fun x => fs xs * (gl xs : Int) * x) ∘ fun x => fs xs * (x / (gl xs : Int))) x = x := fun x hx => by
    show fs xs * (gl xs : Int) * (fs xs * (x / (gl xs : Int))) = x
    have e1 := Int.mul_ediv_cancel' (gl_dvd hx)
    have e2 := fs_sq xs
    calc _ = (fs xs * fs xs) * ((gl xs : Int) * (x / (gl xs : Int))) := by grind
      _ = x := by rw [e2, e1, Int.one_mul]
  conv => lhs; rw [← List.map_id xs]
  exact List.map_congr_left fun x hx => (this x hx).symm
theorem nz_map {k : Int} (hk : k ≠ 0) {xs : List Int} (h : ∃ x ∈ xs, x ≠ 0) : ∃ x ∈ xs.map (k * ·), x ≠ 0 := by
  obtain ⟨x, hx, h0⟩ := h
  exact ⟨k * x, List.mem_map.mpr ⟨x, hx, rfl⟩, Int.mul_ne_zero hk h0⟩
theorem nz_of_map {k : Int} {xs : List Int} (h : ∃ x ∈ xs.map (k * ·), x ≠ 0) : ∃ x ∈ xs, x ≠ 0 := by
  obtain ⟨y, hy, h0⟩ := h
  obtain ⟨x, hx, rfl⟩ := List.mem_map.mp hy
  exact ⟨x, hx, fun e => h0 (by subst e; simp)⟩
/-- THE LAW of the plain form: multiples have the same -/
theorem pln_smul {k : Int} (hk : k ≠ 0) {xs : List Int} (h : ∃ x ∈ xs, x ≠ 0) : pln (xs.map (k * ·)) = pln xs := by
  unfold pln
  rw [List.map_map, fs_mul hk h, gl_map_mul]
  refine List.map_congr_left fun x hx => ?_
  have hg := gl_pos h
  show (if k < 0 then -1 else 1) * fs xs * (k * x / ((k.natAbs * gl xs : Nat) : Int)) = fs xs * (x / (gl xs : Int))
  obtain ⟨y, hy⟩ := gl_dvd hx
  have e1 : x / (gl xs : Int) = y := by rw [hy]; exact Int.mul_ediv_cancel_left _ (by omega)
  rw [e1]
  by_cases h1 : k < 0
  · rw [if_pos h1]
    have e2 : k * x = ((k.natAbs * gl xs : Nat) : Int) * (-y) := by
      rw [hy, Int.natCast_mul, show (k.natAbs : Int) = -k by omega]; grind
    rw [e2, Int.mul_ediv_cancel_left _ (by have : 0 < k.natAbs * gl xs := Nat.mul_pos (by omega) hg; omega)]
    grind
  · rw [if_neg h1]
    have e2 : k * x = ((k.natAbs * gl xs : Nat) : Int) * y := by
      rw [hy, Int.natCast_mul, show (k.natAbs : Int) = k by omega]; grind
    rw [e2, Int.mul_ediv_cancel_left _ (by have : 0 < k.natAbs * gl xs := Nat.mul_pos (by omega) hg; omega)]
    grind
theorem fsgl_ne {xs : List Int} (h : ∃ x ∈ xs, x ≠ 0) : fs xs * (gl xs : Int) ≠ 0 := by
  have := gl_pos h
  rcases fs_or xs with e | e <;> rw [e] <;> omega
theorem pln_nz {xs : List Int} (h : ∃ x ∈ xs, x ≠ 0) : ∃ x ∈ pln xs, x ≠ 0 := by
  have e := pln_mul h
  rw [e] at h
  exact nz_of_map h
theorem pln_pln {xs : List Int} (h : ∃ x ∈ xs, x ≠ 0) : pln (pln xs) = pln xs := by
  have := pln_smul (fsgl_ne h) (pln_nz h)
  rw [← pln_mul h] at this
  exact this.symm
theorem pln_len (xs : List Int) : (pln xs).length = xs.length := by simp [pln]
/-- the numbers grow no greater -/
theorem pln_bd {n : Nat} {xs : List Int} (h : ∃ x ∈ xs, x ≠ 0) (hb : ∀ x ∈ xs, x.natAbs < n) : ∀ x ∈ pln xs, x.natAbs < n := fun x hx => by
  unfold pln at hx
  obtain ⟨y, hy, rfl⟩ := List.mem_map.mp hx
  have h1 := hb y hy
  have hg := gl_pos h
  have e : (fs xs * (y / (gl xs : Int))).natAbs = (y / (gl xs : Int)).natAbs := by rcases fs_or xs with e | e <;> rw [e] <;> simp
  rw [e, Int.natAbs_ediv_of_dvd (gl_dvd hy)]
  exact Nat.lt_of_le_of_lt (Nat.div_le_self _ _) h1
/-- what the loop over a row reckons -/
theorem gl_fold : ∀ (xs : List Int) (g : Nat), xs.foldl (fun g x => Nat.gcd g x.natAbs) g = Nat.gcd g (gl xs)
  | [], g => by simp [gl]
  | x :: xs, g => by simp only [List.foldl_cons, gl, gl_fold xs, Nat.gcd_assoc]
/-- the first number that isn't 0 -/
theorem first_nz : ∀ {xs : List Int}, (∃ x ∈ xs, x ≠ 0) → ∃ y ys, xs.filter (fun x => !(x == 0)) = y :: ys ∧ y ≠ 0 ∧ fs xs = if y < 0 then -1 else 1
  | [], h => by simp at h
  | x :: xs, h => by
    by_cases hx : x = 0
    · subst hx
      have h' : ∃ x ∈ xs, x ≠ 0 := by
        obtain ⟨y, hy, h0⟩ := h
        rcases List.mem_cons.mp hy with e | e
        · exact absurd e h0
        · exact ⟨y, e, h0⟩
      obtain ⟨y, ys, h1, h2, h3⟩ := first_nz h'
      exact ⟨y, ys, by simpa [List.filter_cons] using h1, h2, by simpa [fs] using h3⟩
    · exact ⟨x, xs.filter (fun x => !(x == 0)), by simp [List.filter_cons, hx], hx, by simp [fs, hx]⟩
theorem prow_nz {xs : List Int} (h : ∃ x ∈ xs, x ≠ 0) : ∃ x ∈ prow xs, x ≠ 0 := by
  have e := prow_mul h
  rw [e] at h
  exact nz_of_map h
theorem fs_prow {xs : List Int} (h : ∃ x ∈ xs, x ≠ 0) : fs (prow xs) = fs xs := by
  have hg := gl_pos h
  have e := congrArg fs (prow_mul h)
  rw [fs_mul (by omega) (prow_nz h), if_neg (by omega), Int.one_mul] at e
  exact e.symm
theorem pln_prow (xs : List Int) : pln xs = (prow xs).map (fs xs * ·) := by
  unfold pln prow
  rw [List.map_map]; rfl
end Z
set_option Elab.async false
set_option linter.all false
set_option maxRecDepth 100000
set_option exponentiation.threshold 20000
/-! Z7: helps for readings: sizes, loops over lists of any length. -/
namespace Z
open PySem PySem.Spec PyProof.Rows L2 RZ
/-! ### sizes -/
/-- below 2 ^ n -/
structure Bd (n : Nat) (i : Int) : Prop where
  lt : i.natAbs < 2 ^ n
theorem bd_iff {n : Nat} {i : Int} : Bd n i ↔ i.natAbs < 2 ^ n := ⟨fun h => h.lt, fun h => ⟨h⟩⟩
theorem Bd.lit {n : Nat} {i : Int} (h : i.natAbs < 2 ^ n) : Bd n i := ⟨h⟩
theorem Bd.zero {n : Nat} : Bd n 0 := Bd.lit (Nat.two_pow_pos _)
theorem Bd.mono {m n : Nat} {i : Int} (h : Bd m i) (k : m ≤ n) : Bd n i := Bd.lit (Nat.lt_of_lt_of_le h.lt (Nat.pow_le_pow_right (by decide) k))
theorem Bd.mul {m n : Nat} {i j : Int} (h : Bd m i) (k : Bd n j) : Bd (m + n) (i * j) := by
  simp only [bd_iff] at *
  rw [Int.natAbs_mul, Nat.pow_add]
  exact Nat.mul_lt_mul'' h k
theorem Bd.add {m n : Nat} {i j : Int} (h : Bd m i) (k : Bd n j) : Bd (max m n + 1) (i + j) := by
  have h1 := h.mono (Nat.le_max_left m n)
  have h2 := k.mono (Nat.le_max_right m n)
  simp only [bd_iff] at *
  rw [Nat.pow_succ]
  omega
theorem Bd.neg {m : Nat} {i : Int} (h : Bd m i) : Bd m (-i) := by simp only [bd_iff] at *; rw [Int.natAbs_neg]; exact h
theorem Bd.sub {m n : Nat} {i j : Int} (h : Bd m i) (k : Bd n j) : Bd (max m n + 1) (i - j) := by
  rw [Int.sub_eq_add_neg]; exact h.add k.neg
theorem Bd.of_le {n : Nat} {i b : Int} (h1 : -b ≤ i) (h2 : i ≤ b) (h : b < 2 ^ n) : Bd n i := by
  refine bd_iff.mpr ?_
  have : (i.natAbs : Int) < 2 ^ n := by omega
  have e : ((2 ^ n : Nat) : Int) = 2 ^ n := by simp
  rw [← e] at this
  exact Int.ofNat_lt.mp this
/-- a product of two numbers of such sizes is carried -/
theorem mulOk {m n : Nat} {i j : Int} (h : Bd m i) (k : Bd n j) (hs : m + n ≤ 134217728) : MulOk i j := ⟨(mulx_ok h.lt k.lt hs).ok⟩
theorem mulOk_l {i j : Int} (h : -(2 ^ 64) < i ∧ i < 2 ^ 64) : MulOk i j := ⟨(show CMul i j from .inl h).ok⟩
theorem mulOk_r {i j : Int} (h : -(2 ^ 64) < j ∧ j < 2 ^ 64) : MulOk i j := ⟨(show CMul i j from .inr h).ok⟩
theorem cdv {n : Nat} {i j : Int} (h0 : j ≠ 0) (h : Bd n j) (hn : n ≤ 9000) : CDv i j := ⟨h0, .inl (Nat.lt_of_lt_of_le h.lt (Nat.pow_le_pow_right (by decide) hn))⟩
theorem cdvB {n : Nat} {i j : Int} (h0 : j ≠ 0) (h : Bd n i) (hn : n ≤ 13500) : CDv i j := ⟨h0, .inr (Nat.lt_of_lt_of_le h.lt (Nat.pow_le_pow_right (by decide) hn))⟩
theorem cdv_small {i j : Int} (h0 : j ≠ 0) (h : j.natAbs < 2 ^ 200) : CDv i j := cdv (n := 200) h0 (Bd.lit h) (by decide)
/-! ### loops over lists of any length -/
section
variable {k : Nat} {chk : Sto → Prop} {f : R → Rho → Option Rho} {t : PT1} {w : PE1} {r : Rho}
/-- a comprehension whose parts leave the store as it is -/
theorem lcL_pure {items : List R} (g : R → D) (p : R → Bool) {S : Sto} {W : List D → Sto → Prop} (hk : S.take k = S) (hc : chk S)
    (h : ∀ x ∈ items, ∃ r1, f x r = some r1 ∧ (∀ W1 : Bool → Sto → Prop, W1 (p x) S → t r1 S W1) ∧ (p x = true → ∀ W1 : PK1, W1 (.r (.d (g x))) S → w r1 S W1)) (q : W ((items.filter p).map g) S) : lcL k chk f t w r items S W := by
  induction items generalizing W with
  | nil => exact ⟨hc, q⟩
  | cons x xs ih =>
    obtain ⟨r1, h1, h2, h3⟩ := h x (by simp)
    unfold lcL
    refine ⟨hc, ?_⟩
    rw [h1]
    refine h2 _ ?_
    cases hp : p x with
    | true =>
      rw [if_pos rfl]
      refine h3 hp _ ?_
      rw [hk]
      exact ih (fun y hy => h y (by simp [hy])) (by simpa [List.filter_cons, hp] using q)
    | false =>
      rw [if_neg Bool.false_ne_true, hk]
      exact ih (fun y hy => h y (by simp [hy])) (by simpa [List.filter_cons, hp] using q)
theorem lcL_map {items : List R} (g : R → D) {S : Sto} {W : List D → Sto → Prop} (hk : S.take k = S) (hc : chk S)
    (h : ∀ x ∈ items, ∃ r1, f x r = some r1 ∧ (∀ W1 : Bool → Sto → Prop, W1 true S → t r1 S W1) ∧ ∀ W1 : PK1, W1 (.r (.d (g x))) S → w r1 S W1) (q : W (items.map g) S) : lcL k chk f t w r items S W :=
  lcL_pure g (fun _ => true) hk hc (fun x hx => let ⟨r1, a, b, c⟩ := h x hx; ⟨r1, a, b, fun _ => c⟩) (by
    have : items.filter (fun _ => true) = items := List.filter_eq_self.mpr fun _ _ => rfl
    rw [this]; exact q)
end
/-- the same over a row of ints -/
theorem lcL_ints {k : Nat} {chk : Sto → Prop} {f : R → Rho → Option Rho} {t : PT1} {w : PE1} {r : Rho} {ns : List Int} (g : Int → Int) {S : Sto} {W : List D → Sto → Prop} (hk : S.take k = S) (hc : chk S)
    (h : ∀ n ∈ ns, ∃ r1, f (.d (.int n)) r = some r1 ∧ (∀ W1 : Bool → Sto → Prop, W1 true S → t r1 S W1) ∧ ∀ W1 : PK1, W1 (.r (.d (.int (g n)))) S → w r1 S W1) (q : W ((ns.map g).map D.int) S) : lcL k chk f t w r ((ns.map D.int).map R.d) S W := by
  refine lcL_map (fun x => match x with | .d (.int n) => .int (g n) | _ => .non) hk hc (fun x hx => ?_) ?_
  · simp only [List.map_map, List.mem_map, Function.comp] at hx
    obtain ⟨n, hn, rfl⟩ := hx
    exact h n hn
  · have e : ((ns.map D.int).map R.d).map (fun x => match x with | .d (.int n) => D.int (g n) | _ => .non) = (ns.map g).map D.int := by simp [List.map_map, Function.comp_def]
    rw [e]; exact q
/-- with a test -/
theorem lcL_intsF {k : Nat} {chk : Sto → Prop} {f : R → Rho → Option Rho} {t : PT1} {w : PE1} {r : Rho} {ns : List Int} (p : Int → Bool) {S : Sto} {W : List D → Sto → Prop} (hk : S.take k = S) (hc : chk S)
    (h : ∀ n ∈ ns, ∃ r1, f (.d (.int n)) r = some r1 ∧ (∀ W1 : Bool → Sto → Prop, W1 (p n) S → t r1 S W1) ∧ (p n = true → ∀ W1 : PK1, W1 (.r (.d (.int n))) S → w r1 S W1)) (q : W ((ns.filter p).map D.int) S) : lcL k chk f t w r ((ns.map D.int).map R.d) S W := by
  refine lcL_pure (fun x => match x with | .d d => d | _ => .non) (fun x => match x with | .d (.int n) => p n | _ => false) hk hc (fun x hx => ?_) ?_
  · simp only [List.map_map, List.mem_map, Function.comp] at hx
    obtain ⟨n, hn, rfl⟩ := hx
    exact h n hn
  · have e : (((ns.map D.int).map R.d).filter (fun x => match x with | .d (.int n) => p n | _ => false)).map (fun x => match x with | .d d => d | _ => .non) = (ns.filter p).map D.int := by
      rw [List.map_map, List.filter_map, List.map_map]
      rfl
    rw [e]; exact q
/-- a for by what holds ahead of each turn -/
theorem forL_ix {k : Nat} {chk : Sto → Prop} {f : R → Rho → Option Rho} {body : PS1} {N : En} {items : List R} (I : Nat → Rho → Sto → Prop)
    (hs : ∀ i x, items[i]? = some x → ∀ r S, I i r S → ∀ M : Rho → Sto → Prop, (∀ r' S', I (i + 1) r' S' → M r' S') → chk S ∧ match f x r with
      | some r1 => body { nx := fun r2 S2 => ∃ r3 S3, Cut k r2 S2 r3 S3 ∧ M r3 S3, rt := N.rt, bk := N.nx, ct := fun r2 S2 => ∃ r3 S3, Cut k r2 S2 r3 S3 ∧ M r3 S3 } r1 S
      | none => False)
    (hd : ∀ r S, I items.length r S → chk S ∧ N.nx r S) {r : Rho} {S : Sto} (h0 : I 0 r S) : forL k chk f body N items r S := by
  have key : ∀ (n i : Nat), n + i = items.length → ∀ r S, I i r S → forL k chk f body N (items.drop i) r S := by
    intro n
    induction n with
    | zero =>
      intro i hi r S h
      have : i = items.length := by omega
      subst this
      rw [List.drop_eq_nil_of_le (Nat.le_refl _)]
      exact hd r S h
    | succ n ih =>
      intro i hi r S h
      have hl : i < items.length := by omega
      rw [List.drop_eq_getElem_cons hl]
      unfold forL
      exact hs i _ (List.getElem?_eq_getElem hl) r S h _ fun r' S' h' => ih (i + 1) (by omega) r' S' h'
  simpa using key items.length 0 (by omega) r S h0
theorem rgR_get {lo : Int} {n i : Nat} {x : R} (h : (rgR lo n)[i]? = some x) : i < n ∧ x = .d (.int (lo + (i : Nat))) := by
  have hi : i < n := by
    have := (List.getElem?_eq_some_iff.mp h).1
    simpa [rgR] using this
  simp only [rgR, List.getElem?_map, List.getElem?_range hi, Option.map_some, Option.some.injEq] at h
  exact ⟨hi, h.symm⟩
theorem rgR_len {lo : Int} {n : Nat} : (rgR lo n).length = n := by simp [rgR]
theorem getI_0 {a : D} {xs : List D} : getI (a :: xs) 0 = some a := rfl
theorem getI_1 {a b : D} {xs : List D} : getI (a :: b :: xs) 1 = some b := rfl
theorem getI_2 {a b c : D} {xs : List D} : getI (a :: b :: c :: xs) 2 = some c := rfl
theorem getI_3 {a b c d : D} {xs : List D} : getI (a :: b :: c :: d :: xs) 3 = some d := rfl
theorem getI_of {xs : List D} {i : Int} (h0 : 0 ≤ i) (h1 : i < xs.length) : getI xs i = xs[i.toNat]? := by unfold getI; rw [if_pos h0]
/-- an item at a place that lies in the row -/
theorem getI_in {xs : List D} {i : Int} (h0 : 0 ≤ i) (h1 : i < xs.length) : ∃ z, getI xs i = some z ∧ z ∈ xs := by
  have hl : i.toNat < xs.length := by omega
  rw [getI_of h0 h1, List.getElem?_eq_getElem hl]
  exact ⟨_, rfl, List.getElem_mem hl⟩
theorem getI_ints {ns : List Int} {i : Int} (h0 : 0 ≤ i) (h1 : i < ns.length) : ∃ z, getI (ns.map D.int) i = some (.int z) ∧ z ∈ ns := by
  obtain ⟨z, h, hz⟩ := getI_in (xs := ns.map D.int) h0 (by simpa using h1)
  obtain ⟨n, hn, rfl⟩ := List.mem_map.mp hz
  exact ⟨n, h, hn⟩
theorem cutD_drop {xs : List D} (k : Nat) : cutD xs (some (k : Int)) none = xs.drop k := by
  unfold cutD
  rw [HT.sIx_nat, HT.sIx_none]
  by_cases h : k ≤ xs.length
  · rw [Nat.min_eq_left h, List.take_of_length_le (by rw [List.length_drop]; omega)]
  · rw [Nat.min_eq_right (by omega), Nat.sub_self, List.take_zero, List.drop_eq_nil_of_le (by omega)]
theorem ixD_10 : ixD 1 0 = some 0 := rfl
theorem ixD_20 : ixD 2 0 = some 0 := rfl
theorem ixD_21 : ixD 2 1 = some 1 := rfl
theorem ixD_30 : ixD 3 0 = some 0 := rfl
theorem ixD_31 : ixD 3 1 = some 1 := rfl
theorem ixD_32 : ixD 3 2 = some 2 := rfl
theorem ixD_40 : ixD 4 0 = some 0 := rfl
theorem ixD_41 : ixD 4 1 = some 1 := rfl
theorem ixD_42 : ixD 4 2 = some 2 := rfl
theorem ixD_43 : ixD 4 3 = some 3 := rfl
theorem rgR_zero {lo : Int} : rgR lo 0 = [] := rfl
theorem rgR_succ {lo : Int} {n : Nat} : rgR lo (n + 1) = .d (.int lo) :: rgR (lo + 1) n := by
  unfold rgR
  rw [List.range_succ_eq_map, List.map_cons, List.map_map]
  refine List.cons_eq_cons.mpr ⟨by simp, List.map_congr_left fun i _ => ?_⟩
  show R.d (.int (lo + ((i + 1 : Nat) : Int))) = R.d (.int (lo + 1 + (i : Int)))
  rw [show lo + ((i + 1 : Nat) : Int) = lo + 1 + (i : Int) by omega]
theorem fdiv_pos {i j : Int} (h : 0 < j) : i.fdiv j = i / j := Int.fdiv_eq_ediv_of_nonneg i (by omega)
theorem fmod_pos {i j : Int} (h : 0 < j) : i.fmod j = i % j := Int.fmod_eq_emod_of_nonneg i (by omega)
theorem depth_ints (xs : List Int) : PyData.depthAll (pys (xs.map D.int)) ≤ 1 := by
  induction xs with
  | nil => simp [pys, PyData.depthAll]
  | cons x xs ih => simp [pys, py, PyData.depthAll, PyData.depth]; omega
end Z
set_option Elab.async false
set_option linter.all false
set_option maxRecDepth 100000
/-! Z8: further words: a list taken apart; reversed; a raise that is never reached; constants of the module. -/
namespace Z
open PySem PySem.Spec PyProof.Rows L2 RZ
section
variable {X : Cx} {e : Expr} {we : PE1} {pos : Pos}
/-- (a, b, ..) = a list -/
abbrev wUnl (n : Nat) (fs : List R → Rho → Option Rho) (w : PE1) : PS1 := fun N r S => w r S fun x S1 => match isLst x, seqOf S1 x with
  | true, some xs => if xs.length = n then (match fs (xs.map R.d) r with
    | some r' => N.nx r' S1
    | none => False) else False
  | _, _ => False
/-- the signs of a text, one by one -/
abbrev chrs (x : Str) : List R := x.cps.toList.map fun c => R.d (.str ⟨#[c]⟩)
abbrev wItS (w : PE1) : PI1 := fun r S W => w r S fun x S1 => match x with
  | .r (.d (.str s)) => W { items := chrs s } S1
  | _ => False
/-- len of a text -/
abbrev fSLen : PF := fun xs S W => match xs with
  | [.r (.d (.str a))] => a.length ≤ 16777216 ∧ W (.r (.d (.int (a.length : Nat)))) S
  | _ => False
/-- t in s, s + t, s[i] of texts -/
abbrev pSIn : P2 := fun x y S W => match x, y with
  | .r (.d (.str a)), .r (.d (.str b)) => W (.r (.d (.bl (!(Builtin.Str.occurrences b a 0 b.length 1).isEmpty)))) S
  | _, _ => False
abbrev pSCat : P2 := fun x y S W => match x, y with
  | .r (.d (.str a)), .r (.d (.str b)) => a.length + b.length ≤ 16777216 ∧ W (.r (.d (.str (a ++ b)))) S
  | _, _ => False
abbrev pSIx : P2 := fun x y S W => match x, y with
  | .r (.d (.str a)), .r (.d (.int i)) => match a.cps[i.toNat]? with
    | some c => (0 ≤ i ∧ i < 16777216 ∧ i < a.length) ∧ W (.r (.d (.str ⟨#[c]⟩))) S
    | none => False
  | _, _ => False
/-- s.index(t), t found in s -/
abbrev wSIdx (wo we : PE1) : PE1 := fun r S W => wo r S fun x S1 => match x with
  | .r (.d (.str a)) => we r S1 fun y S2 => match y with
    | .r (.d (.str b)) => match Builtin.Str.occurrences a b 0 a.length 1 with
      | i :: _ => W (.r (.d (.int (i : Nat)))) S2
      | [] => False
    | _ => False
  | _ => False
/-- a constant of the module -/
structure ConAt (K : PySem.W.Frag) (mg : Str → Option Value) (x : Str) (d : D) : Prop where
  ex : ∃ v u, mg x = some u ∧ RelV v u ∧ ∀ H, RepD K H d v
theorem ConAt.str {K : PySem.W.Frag} {mg : Str → Option Value} {h : Heap} {x : Str} {s : Str} {t : Tok} (KX : K.In h) (G : h.Ns mainGlobals mg)
    (e : PySem.W.nsIn K mainGlobals x = some (some (.str s t))) : ConAt K mg x (.str s) :=
  ⟨.str s, .str s t, PySem.W.mg_of KX G e, ⟨t, rfl⟩, fun _ => rfl⟩
theorem ConAt.int {K : PySem.W.Frag} {mg : Str → Option Value} {h : Heap} {x : Str} {i : Int} {t : Tok} (KX : K.In h) (G : h.Ns mainGlobals mg)
    (e : PySem.W.nsIn K mainGlobals x = some (some (.int i t))) : ConAt K mg x (.int i) :=
  ⟨.int i, .int i t, PySem.W.mg_of KX G e, ⟨t, rfl⟩, fun _ => rfl⟩
/-- reversed(list or tuple) -/
abbrev wRev (w : PE1) : PI1 := fun r S W => w r S fun x S1 => match itOf S1 x with
  | some it => W { items := it.items.reverse, chk := it.chk } S1
  | none => False
abbrev pIsB (neg : Bool) : P2 := fun x y S W => match x, y with
  | .r (.d (.bl b)), .r (.d (.bl c)) => W (.r (.d (.bl (if neg then b != c else b == c)))) S
  | _, _ => False
/-- a new list that nobody will write: from here on it is data -/
abbrev wFz (w : PE1) : PE1 := fun r S W => w r S fun x S1 => match x with
  | .f xs => W (.r (.d (.lst xs))) S1
  | .r y => W (.r y) S1
theorem we_fz (h : WE X e we) : WE X e (wFz we) := by
  refine ⟨⟨fun pins s z H Q I ⟨m, r, S, W, hE, hS, hw, hf⟩ => ?_⟩⟩
  refine thn (h.pe.run pins s z H (fun v H1 => Q v H1 ∨ ∃ a vs, v = .ref a ∧ H1 a = some (.lst vs) ∧ ∀ od, Q v (upd H1 a (.frz od (.lst vs)))) I ⟨m, r, S, _, hE, hS, hw, fun x S1 v m1 H1 h1 g1 r1 q1 => ?_⟩) fun v s1 ⟨x, H1, I1, rl, q⟩ => ?_
  · cases x with
    | r y => exact .inl (hf _ S1 v m1 H1 h1 g1 r1 q1)
    | f xs =>
      obtain ⟨a, vs, rfl, e1, ha, h0, hd⟩ := q1
      exact .inr ⟨a, vs, rfl, e1, fun od => hf _ S1 _ m1 _ h1 (g1.frz_new h0 e1) (r1.frz ha e1) ⟨a, vs, rfl, .inl ⟨od, upd_same⟩, RepDs.keep (kt_fz e1) (kf_fz e1) xs vs hd⟩⟩
  · rcases q with q | ⟨a, vs, rfl, e1, q⟩
    · exact ⟨x, H1, I1, rl, q⟩
    · obtain ⟨od, I2⟩ := I1.lock e1 trivial
      exact ⟨_, _, I2, rl, q od⟩
/-- a statement that is never reached -/
abbrev wNever : PS1 := fun _ _ _ => False
end
/-- the rest of a block behind a name: so that no rewriting looks into it -/
theorem seqI {t u : PS1} {N : En} {r : Rho} {S : Sto} (h : ∀ P : Rho → Sto → Prop, (∀ r S, u N r S → P r S) → t { nx := P, rt := N.rt, bk := N.bk, ct := N.ct } r S) : wSeq t u N r S := h _ fun _ _ h => h
/-! the arguments of a def, one by one -/
end Z
set_option Elab.async false
set_option linter.all false
set_option maxRecDepth 100000
set_option exponentiation.threshold 20000
/-! R1: promises that stand in several laws. -/
namespace Z
open PySem PySem.Spec PyProof.Rows L2 RZ
/-- what divides both -/
def spGcd : SpZ := fun rs S W => match rs with
  | [.d (.int a), .d (.int b)] => W (.d (.int (Int.gcd a b))) S
  | _ => False
/-- the plain row -/
def spPln : SpZ := fun rs S W => match rs with
  | [.d (.tup xs)] => ∃ ns : List Int, xs = ns.map D.int ∧ (∃ n ∈ ns, n ≠ 0) ∧ (∀ n ∈ ns, Bd 9000 n) ∧ ns.length ≤ 1000 ∧ W (.d (.tup ((pln ns).map D.int))) S
  | _ => False
theorem gl_cdv {ns : List Int} (hz : ∃ n ∈ ns, n ≠ 0) (hb : ∀ n ∈ ns, Bd 9000 n) (n : Int) : CDv n (gl ns) ∧ CDv n (0 - (gl ns : Int)) ∧ CDv n (-(gl ns : Int)) := by
  have hg := gl_pos hz
  obtain ⟨x, hx, h0⟩ := hz
  have h1 := hb x hx
  have h2 := gl_le hx h0
  have b1 : Bd 9000 (gl ns : Int) := by simp only [bd_iff] at *; simp only [Int.natAbs_natCast]; omega
  exact ⟨cdv (n := 9000) (by omega) b1 (Nat.le_refl _), cdv (n := 9000) (by omega) (by rw [Int.zero_sub]; exact b1.neg) (Nat.le_refl _), cdv (n := 9000) (by omega) b1.neg (Nat.le_refl _)⟩
theorem fold_take {ns : List Int} {i : Nat} {n : Int} (hn : ns[i]? = some n) : (ns.take (i + 1)).foldl (fun g x => Nat.gcd g x.natAbs) 0 = Nat.gcd ((ns.take i).foldl (fun g x => Nat.gcd g x.natAbs) 0) n.natAbs := by
  rw [List.take_add_one, hn]
  simp only [Option.toList_some, List.foldl_append, List.foldl_cons, List.foldl_nil]
theorem fold_all {ns : List Int} : (ns.take ((ns.map D.int).map R.d).length).foldl (fun g x => Nat.gcd g x.natAbs) 0 = gl ns := by
  rw [List.length_map, List.length_map, List.take_length, gl_fold, Nat.gcd_zero_left]
theorem item_ints {ns : List Int} {i : Nat} {x : R} (hx : ((ns.map D.int).map R.d)[i]? = some x) : ∃ n, ns[i]? = some n ∧ x = .d (.int n) := by
  rw [List.getElem?_map, List.getElem?_map, Option.map_eq_some_iff] at hx
  obtain ⟨d, hd, rfl⟩ := hx
  rw [Option.map_eq_some_iff] at hd
  obtain ⟨n, hn, rfl⟩ := hd
  exact ⟨n, hn, rfl⟩
theorem pln_bds {n : Nat} {ns : List Int} (hz : ∃ n ∈ ns, n ≠ 0) (hb : ∀ x ∈ ns, Bd n x) : ∀ x ∈ pln ns, Bd n x := fun x hx => Bd.lit (pln_bd hz (fun y hy => (hb y hy).lt) x hx)
end Z
set_option Elab.async false
set_option linter.all false
/-! M2: fractions, points, turns of points. -/
namespace Z
/-- a fraction as data -/
def frD (q : Rat) : D := .tup [.int q.num, .int (q.den : Int)]
theorem frD_inj {p q : Rat} : frD p = frD q ↔ p = q := by
  constructor
  · intro h
    unfold frD at h
    injection h with h
    injection h with h1 h2
    injection h2 with h2 _
    injection h1 with h1
    injection h2 with h2
    exact Rat.ext h1 (Int.ofNat.inj h2)
  · intro h; rw [h]
/-! ### points and turns -/
abbrev Pt := Rat × Rat × Rat
def ptD (p : Pt) : D := .tup [frD p.1, frD p.2.1, frD p.2.2]
/-- the size of a four -/
def nrm (w x y z : Rat) : Rat := w * w + x * x + y * y + z * z
/-- the turn of a four of fractions -/
def rotQ (w x y z : Rat) (p : Pt) : Pt :=
  ((p.1 * (w * w + x * x - y * y - z * z) + p.2.1 * (2 * (x * y - w * z)) + p.2.2 * (2 * (x * z + w * y))) * (nrm w x y z)⁻¹,
   (p.1 * (2 * (x * y + w * z)) + p.2.1 * (w * w - x * x + y * y - z * z) + p.2.2 * (2 * (y * z - w * x))) * (nrm w x y z)⁻¹,
   (p.1 * (2 * (x * z - w * y)) + p.2.1 * (2 * (y * z + w * x)) + p.2.2 * (w * w - x * x - y * y + z * z)) * (nrm w x y z)⁻¹)
def rot (a : List Int) (p : Pt) : Pt := match a with
  | [w, x, y, z] => rotQ w x y z p
  | _ => p
/-- the product of fours, the first one's turn done last -/
def qmul : List Int → List Int → List Int
  | [p, q, r, s], [t, u, v, o] => [p * t - q * u - r * v - s * o, p * u + q * t + r * o - s * v, p * v - q * o + r * t + s * u, p * o + q * v - r * u + s * t]
  | _, _ => []
def qbk : List Int → List Int
  | [w, x, y, z] => [w, -x, -y, -z]
  | _ => []
theorem four_of {a : List Int} (h : a.length = 4) : ∃ w x y z, a = [w, x, y, z] := by
  match a, h with
  | [w, x, y, z], _ => exact ⟨w, x, y, z, rfl⟩
def nrmI : List Int → Int
  | [w, x, y, z] => w * w + x * x + y * y + z * z
  | _ => 0
theorem sq_pos {x : Int} (h : x ≠ 0) : 0 < x * x := by
  rcases Int.lt_or_gt_of_ne h with h | h
  · exact Int.mul_pos_of_neg_of_neg h h
  · exact Int.mul_pos h h
theorem sq_nn (x : Int) : 0 ≤ x * x := by
  by_cases h : x = 0
  · subst h; decide
  · exact Int.le_of_lt (sq_pos h)
theorem nrmI_pos {w x y z : Int} (h : ∃ n ∈ [w, x, y, z], n ≠ 0) : 0 < nrmI [w, x, y, z] := by
  obtain ⟨n, hn, h0⟩ := h
  have a := sq_nn w
  have b := sq_nn x
  have c := sq_nn y
  have d := sq_nn z
  have e := sq_pos h0
  show 0 < w * w + x * x + y * y + z * z
  simp only [List.mem_cons, List.not_mem_nil, or_false] at hn
  rcases hn with rfl | rfl | rfl | rfl <;> omega
theorem nz_of_nrm {w x y z : Int} (h : nrmI [w, x, y, z] ≠ 0) : ∃ n ∈ [w, x, y, z], n ≠ 0 := by
  by_cases h1 : w = 0
  · by_cases h2 : x = 0
    · by_cases h3 : y = 0
      · by_cases h4 : z = 0
        · subst h1 h2 h3 h4; exact absurd rfl h
        · exact ⟨z, by simp, h4⟩
      · exact ⟨y, by simp, h3⟩
    · exact ⟨x, by simp, h2⟩
  · exact ⟨w, by simp, h1⟩
theorem nrmI_qmul {a b : List Int} (ha : a.length = 4) (hb : b.length = 4) : nrmI (qmul a b) = nrmI a * nrmI b := by
  obtain ⟨p, q, r, s, rfl⟩ := four_of ha
  obtain ⟨t, u, v, o, rfl⟩ := four_of hb
  simp only [qmul, nrmI]
  grind
theorem qmul_len {a b : List Int} (ha : a.length = 4) (hb : b.length = 4) : (qmul a b).length = 4 := by
  obtain ⟨p, q, r, s, rfl⟩ := four_of ha
  obtain ⟨t, u, v, o, rfl⟩ := four_of hb
  rfl
theorem qmul_nz {a b : List Int} (ha : a.length = 4) (hb : b.length = 4) (h1 : ∃ n ∈ a, n ≠ 0) (h2 : ∃ n ∈ b, n ≠ 0) : ∃ n ∈ qmul a b, n ≠ 0 := by
  have e := nrmI_qmul ha hb
  obtain ⟨p, q, r, s, rfl⟩ := four_of ha
  obtain ⟨t, u, v, o, rfl⟩ := four_of hb
  have k1 := nrmI_pos h1
  have k2 := nrmI_pos h2
  refine nz_of_nrm ?_
  have := Int.mul_pos k1 k2
  show nrmI (qmul [p, q, r, s] [t, u, v, o]) ≠ 0
  omega
theorem nrm_ne {w x y z : Int} (h : ∃ n ∈ [w, x, y, z], n ≠ 0) : nrm w x y z ≠ 0 := by
  have := nrmI_pos h
  have e : nrm w x y z = ((nrmI [w, x, y, z] : Int) : Rat) := by simp only [nrm, nrmI, Rat.intCast_add, Rat.intCast_mul]
  rw [e]
  intro h0
  have : nrmI [w, x, y, z] = 0 := by exact_mod_cast h0
  omega
theorem rotQ_smul {k w x y z : Rat} (hk : k ≠ 0) (p : Pt) : rotQ (k * w) (k * x) (k * y) (k * z) p = rotQ w x y z p := by
  obtain ⟨p, q, r⟩ := p
  unfold rotQ
  have e : nrm (k * w) (k * x) (k * y) (k * z) = (k * k) * nrm w x y z := by unfold nrm; grind
  have hkk : k * k ≠ 0 := by grind
  have e2 : (nrm (k * w) (k * x) (k * y) (k * z))⁻¹ = (nrm w x y z)⁻¹ * (k * k)⁻¹ := by rw [e, Rat.inv_mul_rev]
  have e3 := Rat.mul_inv_cancel _ hkk
  rw [e2]
  generalize (nrm w x y z)⁻¹ = i
  generalize hj : (k * k)⁻¹ = j at e3
  simp only [Prod.mk.injEq]
  refine ⟨?_, ?_, ?_⟩ <;> grind
theorem rot_smul {k : Int} (hk : k ≠ 0) {a : List Int} (ha : a.length = 4) (p : Pt) : rot (a.map (k * ·)) p = rot a p := by
  obtain ⟨w, x, y, z, rfl⟩ := four_of ha
  simp only [rot, List.map_cons, List.map_nil, Rat.intCast_mul]
  exact rotQ_smul (by exact_mod_cast hk) p
theorem rot_pln {a : List Int} (ha : a.length = 4) (hz : ∃ n ∈ a, n ≠ 0) (p : Pt) : rot (pln a) p = rot a p := by
  conv => rhs; rw [pln_mul hz]
  exact (rot_smul (fsgl_ne hz) (by rw [pln_len, ha]) p).symm
end Z
set_option Elab.async false
set_option linter.all false
set_option maxRecDepth 100000
set_option exponentiation.threshold 20000
/-! R2: promises about fours, fractions, points. -/
namespace Z
open PySem PySem.Spec PyProof.Rows L2 RZ
theorem gcd_cdv {t b : Int} (hb : b ≠ 0) (h : Bd 9000 b) (n : Int) : CDv n (Int.gcd t b) ∧ CDv n (-(Int.gcd t b : Int)) := by
  have hg : 0 < Int.gcd t b := Int.gcd_pos_of_ne_zero_right t hb
  have hle : Int.gcd t b ≤ b.natAbs := Nat.le_of_dvd (by omega) (Int.natAbs_dvd_natAbs.mpr (Int.gcd_dvd_right t b) |> fun q => by simpa using q)
  have b1 : Bd 9000 (Int.gcd t b : Int) := by simp only [bd_iff] at *; simp only [Int.natAbs_natCast]; omega
  exact ⟨cdv (by omega) b1 (Nat.le_refl _), cdv (by omega) b1.neg (Nat.le_refl _)⟩
/-- sizes of a fraction -/
def BQ (n : Nat) (q : Rat) : Prop := Bd n q.num ∧ Bd n (q.den : Int)
theorem BQ.mono {m n : Nat} {q : Rat} (h : BQ m q) (k : m ≤ n) : BQ n q := ⟨h.1.mono k, h.2.mono k⟩
theorem BQ.made {n : Nat} {t b : Int} (hb : b ≠ 0) (h1 : Bd n t) (h2 : Bd n b) : BQ n ((t : Rat) / (b : Rat)) := by
  have hg : 0 < Int.gcd t b := Int.gcd_pos_of_ne_zero_right t hb
  rw [← Rat.divInt_eq_div]
  unfold BQ; simp only [bd_iff] at *
  rw [Rat.num_divInt, Rat.den_divInt, if_neg hb]
  refine ⟨?_, ?_⟩
  · refine Nat.lt_of_le_of_lt (Int.natAbs_ediv_le_natAbs _ _) ?_
    rw [Int.natAbs_mul]
    have : b.sign.natAbs = 1 := Int.natAbs_sign_of_ne_zero hb
    rw [this, Nat.one_mul]; exact h1
  · simp only [Int.natAbs_natCast]
    exact Nat.lt_of_le_of_lt (Nat.div_le_self _ _) h2
/-- a point of one common bottom and tops of such sizes -/
def PtB (n : Nat) (p : Pt) : Prop := ∃ L : Nat, 0 < L ∧ Bd n (L : Int) ∧ ∀ q, (q = p.1 ∨ q = p.2.1 ∨ q = p.2.2) → q.den ∣ L ∧ Bd n (q.num * ((L / q.den : Nat) : Int))
theorem PtB.mono {m n : Nat} {p : Pt} (h : PtB m p) (k : m ≤ n) : PtB n p := by
  obtain ⟨L, h0, h1, h2⟩ := h
  exact ⟨L, h0, h1.mono k, fun q hq => ⟨(h2 q hq).1, (h2 q hq).2.mono k⟩⟩
theorem PtB.of {n : Nat} {p : Pt} (h1 : BQ n p.1) (h2 : BQ n p.2.1) (h3 : BQ n p.2.2) : PtB (n * 4) p := by
  obtain ⟨p, q, r⟩ := p
  simp only at h1 h2 h3
  have d1 := p.den_pos
  have d2 := q.den_pos
  have d3 := r.den_pos
  have hL : Bd (n + n + n) ((p.den * q.den * r.den : Nat) : Int) := by
    rw [Int.natCast_mul, Int.natCast_mul]
    exact (h1.2.mul h2.2).mul h3.2
  refine ⟨p.den * q.den * r.den, Nat.mul_pos (Nat.mul_pos d1 d2) d3, hL.mono (by omega), fun x hx => ?_⟩
  have key : ∀ x : Rat, Bd n x.num → x.den ∣ p.den * q.den * r.den → x.den ∣ p.den * q.den * r.den ∧ Bd (n * 4) (x.num * ((p.den * q.den * r.den / x.den : Nat) : Int)) := fun x hx hd => by
    refine ⟨hd, ?_⟩
    have : Bd (n + n + n) ((p.den * q.den * r.den / x.den : Nat) : Int) := by
      simp only [bd_iff] at *
      simp only [Int.natAbs_natCast] at *
      exact Nat.lt_of_le_of_lt (Nat.div_le_self _ _) hL
    exact (hx.mul this).mono (by omega)
  rcases hx with rfl | rfl | rfl
  · exact key _ h1.1 (Nat.dvd_trans (Nat.dvd_mul_right _ _) (Nat.dvd_mul_right _ _))
  · exact key _ h2.1 (Nat.dvd_trans (Nat.dvd_mul_left _ _) (Nat.dvd_mul_right _ _))
  · exact key _ h3.1 (Nat.dvd_mul_left _ _)
/-- the turned point -/
def TB (a : List Int) (p : Pt) : Prop := ∃ m n : Nat, 2 * m + n ≤ 8900 ∧ (∀ x ∈ a, Bd m x) ∧ PtB n p
/-- the rows of a four's table, whole -/
def rowsI : List Int → List (List Int)
  | [w, x, y, z] => [[w * w + x * x - y * y - z * z, 2 * (x * y - w * z), 2 * (x * z + w * y)], [2 * (x * y + w * z), w * w - x * x + y * y - z * z, 2 * (y * z - w * x)], [2 * (x * z - w * y), 2 * (y * z + w * x), w * w - x * x - y * y + z * z]]
  | _ => []
def rowD (xs : List Int) : D := .tup (xs.map D.int)
theorem rowsI_bd {n : Nat} {a : List Int} (h : ∀ x ∈ a, Bd n x) : ∀ row ∈ rowsI a, ∀ x ∈ row, Bd (n + n + 2) x := by
  unfold rowsI
  split
  · rename_i w x y z
    simp only [List.mem_cons, List.not_mem_nil, or_false] at h ⊢
    have mm : ∀ i j, Bd n i → Bd n j → (i * j).natAbs < 2 ^ (n + n) := fun i j a b => (a.mul b).lt
    have p1 := h w (by simp); have p2 := h x (by simp); have p3 := h y (by simp); have p4 := h z (by simp)
    have e : 2 ^ (n + n + 2) = 2 ^ (n + n) * 4 := by rw [Nat.pow_add]
    have a1 := mm _ _ p1 p1; have a2 := mm _ _ p2 p2; have a3 := mm _ _ p3 p3; have a4 := mm _ _ p4 p4
    have b1 := mm _ _ p2 p3; have b2 := mm _ _ p1 p4; have b3 := mm _ _ p2 p4; have b4 := mm _ _ p1 p3; have b5 := mm _ _ p3 p4; have b6 := mm _ _ p1 p2
    have s1 := sq_nn w; have s2 := sq_nn x; have s3 := sq_nn y; have s4 := sq_nn z
    rintro row (rfl | rfl | rfl) u hu <;> simp only [List.mem_cons, List.not_mem_nil, or_false] at hu <;> rcases hu with rfl | rfl | rfl <;> (refine bd_iff.mpr ?_; rw [e]; omega)
  · intro row hr; simp at hr
end Z
set_option Elab.async false
set_option linter.all false
set_option maxRecDepth 100000
set_option exponentiation.threshold 20000
/-! R3: more of fours and turned points, plain. -/
namespace Z
open PySem PySem.Spec PyProof.Rows L2 RZ
theorem qmul_smul_r {k : Int} {a b : List Int} (ha : a.length = 4) (hb : b.length = 4) : qmul a (b.map (k * ·)) = (qmul a b).map (k * ·) := by
  obtain ⟨p, q, r, s, rfl⟩ := four_of ha
  obtain ⟨t, u, v, o, rfl⟩ := four_of hb
  simp only [qmul, List.map_cons, List.map_nil, List.cons.injEq, and_true]
  refine ⟨?_, ?_, ?_, ?_⟩ <;> grind
theorem pln_qmul_r {a b : List Int} (ha : a.length = 4) (hb : b.length = 4) (za : ∃ n ∈ a, n ≠ 0) (zb : ∃ n ∈ b, n ≠ 0) : pln (qmul a (pln b)) = pln (qmul a b) := by
  have hp : (pln b).length = 4 := by rw [pln_len, hb]
  conv => rhs; rw [pln_mul zb, qmul_smul_r ha hp, pln_smul (fsgl_ne zb) (qmul_nz ha hp za (pln_nz zb))]
theorem qbk_len {a : List Int} (ha : a.length = 4) : (qbk a).length = 4 := by
  obtain ⟨p, q, r, s, rfl⟩ := four_of ha; rfl
theorem qbk_nz {a : List Int} (ha : a.length = 4) (hz : ∃ n ∈ a, n ≠ 0) : ∃ n ∈ qbk a, n ≠ 0 := by
  obtain ⟨w, x, y, z, rfl⟩ := four_of ha
  obtain ⟨n, hn, h0⟩ := hz
  simp only [qbk, List.mem_cons, List.not_mem_nil, or_false] at hn ⊢
  rcases hn with rfl | rfl | rfl | rfl
  · exact ⟨n, by simp, h0⟩
  · exact ⟨-n, by simp, by omega⟩
  · exact ⟨-n, by simp, by omega⟩
  · exact ⟨-n, by simp, by omega⟩
theorem qbk_bd {n : Nat} {a : List Int} (hb : ∀ x ∈ a, Bd n x) : ∀ x ∈ qbk a, Bd n x := by
  unfold qbk
  split
  · simp only [List.mem_cons, List.not_mem_nil, or_false, forall_eq_or_imp, forall_eq] at hb ⊢
    exact ⟨hb.1, hb.2.1.neg, hb.2.2.1.neg, hb.2.2.2.neg⟩
  · intro x hx; simp at hx
theorem nrmI_ne {a : List Int} (ha : a.length = 4) (hz : ∃ n ∈ a, n ≠ 0) : nrmI a ≠ 0 := by
  obtain ⟨w, x, y, z, rfl⟩ := four_of ha
  have := nrmI_pos hz
  omega
/-! ### a point over one bottom -/
/-- the top of q over the bottom B -/
def topOf (B : Nat) (q : Rat) : Int := q.num * ((B / q.den : Nat) : Int)
theorem topOf_eq {B : Nat} {q : Rat} (h0 : 0 < B) (hd : q.den ∣ B) : (topOf B q : Rat) = q * (B : Rat) := by
  obtain ⟨c, rfl⟩ := hd
  have h1 : q.den * c / q.den = c := Nat.mul_div_cancel_left c q.den_pos
  unfold topOf
  have hd : (q.den : Rat) ≠ 0 := by exact_mod_cast (by have := q.den_pos; omega : q.den ≠ 0)
  have e : q * (q.den : Rat) = (q.num : Rat) := by
    conv => lhs; lhs; rw [← Rat.mkRat_self q, Rat.mkRat_eq_div]
    rw [Rat.div_def, Rat.mul_assoc, Rat.inv_mul_cancel _ hd, Rat.mul_one]
  rw [h1, Rat.intCast_mul, Rat.natCast_mul, ← Rat.mul_assoc, e]
  rfl
/-- one line of the table on a point -/
def dotI (row : List Int) (B : Nat) (p : Pt) : Int := match row with
  | [a, b, c] => a * topOf B p.1 + b * topOf B p.2.1 + c * topOf B p.2.2
  | _ => 0
theorem rot_rows {a : List Int} (ha : a.length = 4) (hz : ∃ n ∈ a, n ≠ 0) {p : Pt} {B : Nat} (h0 : 0 < B) (h1 : p.1.den ∣ B) (h2 : p.2.1.den ∣ B) (h3 : p.2.2.den ∣ B) :
    ptD (rot a p) = .tup ((rowsI a).map fun row => frD ((dotI row B p : Rat) / ((nrmI a * (B : Int) : Int) : Rat))) := by
  have e1 := topOf_eq h0 h1
  have e2 := topOf_eq h0 h2
  have e3 := topOf_eq h0 h3
  obtain ⟨w, x, y, z, rfl⟩ := four_of ha
  have hB : (B : Rat) ≠ 0 := by exact_mod_cast (by omega : B ≠ 0)
  have hn := nrm_ne hz
  have en : ((nrmI [w, x, y, z] : Int) : Rat) = nrm w x y z := by
    simp only [nrmI, nrm, Rat.intCast_add, Rat.intCast_mul]
  obtain ⟨p1, p2, p3⟩ := p
  simp only at e1 e2 e3
  have key : ∀ r1 r2 r3 : Int, ((dotI [r1, r2, r3] B (p1, p2, p3) : Int) : Rat) / ((nrmI [w, x, y, z] * (B : Int) : Int) : Rat) = (p1 * r1 + p2 * r2 + p3 * r3) * (nrm w x y z)⁻¹ := fun r1 r2 r3 => by
    simp only [dotI, Rat.intCast_add, Rat.intCast_mul, e1, e2, e3, en, Rat.intCast_natCast]
    rw [Rat.div_def, Rat.inv_mul_rev]
    have := Rat.mul_inv_cancel _ hB
    generalize (nrm (w : Rat) x y z)⁻¹ = i
    generalize ((B : Rat))⁻¹ = j at this ⊢
    grind
  simp only [ptD, rowsI, List.map_cons, List.map_nil, key, rot, rotQ]
  simp only [Rat.intCast_add, Rat.intCast_mul, Rat.intCast_sub]
  rfl
/-! ### rows of anything -/
theorem item_enc {α : Type} {enc : α → R} {xs : List α} {i : Nat} {x : R} (hx : (xs.map enc)[i]? = some x) : ∃ y, xs[i]? = some y ∧ x = enc y := by
  rw [List.getElem?_map] at hx
  cases e : xs[i]? with
  | none => rw [e] at hx; simp at hx
  | some y => rw [e] at hx; simp at hx; exact ⟨y, rfl, hx.symm⟩
theorem mem_take_one {α : Type} {xs : List α} {i : Nat} {y q : α} (h : xs[i]? = some y) (hq : q ∈ xs.take (i + 1)) : q ∈ xs.take i ∨ q = y := by
  rw [List.take_add_one, h] at hq; simpa using hq
theorem mem_of_at {α : Type} {xs : List α} {i : Nat} {y : α} (h : xs[i]? = some y) : y ∈ xs := List.mem_of_getElem? h
def qsOf (p : Pt) : List Rat := [p.1, p.2.1, p.2.2]
theorem ptD_qs (p : Pt) : ptD p = .tup ((qsOf p).map frD) := rfl
theorem rowsI_three {a row : List Int} (h : row ∈ rowsI a) : ∃ x y z, row = [x, y, z] := by
  unfold rowsI at h
  split at h
  · simp only [List.mem_cons, List.not_mem_nil, or_false] at h
    rcases h with rfl | rfl | rfl <;> exact ⟨_, _, _, rfl⟩
  · simp at h
theorem nrmI_bd {n : Nat} {a : List Int} (h : ∀ x ∈ a, Bd n x) : Bd (n + n + 2) (nrmI a) := by
  unfold nrmI
  split
  · rename_i w x y z
    simp only [List.mem_cons, List.not_mem_nil, or_false, forall_eq_or_imp, forall_eq] at h
    obtain ⟨p1, p2, p3, p4⟩ := h
    have a1 := (p1.mul p1).lt; have a2 := (p2.mul p2).lt; have a3 := (p3.mul p3).lt; have a4 := (p4.mul p4).lt
    have s1 := sq_nn w; have s2 := sq_nn x; have s3 := sq_nn y; have s4 := sq_nn z
    have e : 2 ^ (n + n + 2) = 2 ^ (n + n) * 4 := by rw [Nat.pow_add]
    refine bd_iff.mpr ?_
    rw [e]; omega
  · exact Bd.zero
def sqs (xs : List Int) : Int := (xs.map fun x => x * x).sum
def spSize : SpZ := fun rs S W => match rs with
  | [.d (.tup xs)] => ∃ ns : List Int, xs = ns.map D.int ∧ (∀ n ∈ ns, Bd 60000000 n) ∧ ns.length ≤ 1000 ∧ W (.d (.int (sqs ns))) S
  | _ => False
theorem sqs_four {a : List Int} (h : a.length = 4) : sqs a = nrmI a := by
  obtain ⟨w, x, y, z, rfl⟩ := four_of h
  simp only [sqs, nrmI, List.map_cons, List.map_nil, List.sum_cons, List.sum_nil]
  omega
theorem fr_den (q : Rat) : (q.den : Int) ≠ 0 := by have := q.den_pos; omega
/-! ### places in a store that grew -/
theorem at_k {S l : Sto} {k : Nat} : (S ++ l)[S.length + k]? = l[k]? := by
  rw [List.getElem?_append_right (by omega), Nat.add_sub_cancel_left]
theorem at_0 {S l : Sto} : (S ++ l)[S.length]? = l[0]? := at_k (k := 0)
theorem set_k {S l : Sto} {k : Nat} {x : O} : (S ++ l).set (S.length + k) x = S ++ l.set k x := by
  rw [List.set_append_right _ _ (by omega), Nat.add_sub_cancel_left]
theorem set_0 {S l : Sto} {x : O} : (S ++ l).set S.length x = S ++ l.set 0 x := set_k (k := 0)
theorem lt_k {n k : Nat} : (n + k < n) = False := by simp
theorem take_k {S l : Sto} {k : Nat} : (S ++ l).take (S.length + k) = S ++ l.take k := by
  rw [List.take_append, Nat.add_sub_cancel_left, List.take_of_length_le (by omega)]
theorem lt_kk {n j k : Nat} : (n + j < n + k) = (j < k) := by simp
/-- a line of the table on a point, by the parts -/
def dotQ (row : List Int) (p : Pt) : Rat := match row with
  | [a, b, c] => a * p.1 + b * p.2.1 + c * p.2.2
  | _ => 0
theorem rot_dot {a : List Int} (ha : a.length = 4) (p : Pt) : ptD (rot a p) = .tup ((rowsI a).map fun row => frD (dotQ row p * (nrmI a : Rat)⁻¹)) := by
  obtain ⟨w, x, y, z, rfl⟩ := four_of ha
  obtain ⟨p1, p2, p3⟩ := p
  have en : ((nrmI [w, x, y, z] : Int) : Rat) = nrm w x y z := by
    simp only [nrmI, nrm, Rat.intCast_add, Rat.intCast_mul]
  simp only [ptD, rowsI, List.map_cons, List.map_nil, rot, rotQ, dotQ, en]
  simp only [Rat.intCast_add, Rat.intCast_mul, Rat.intCast_sub]
  refine congrArg D.tup ?_
  simp only [List.cons.injEq, and_true, frD_inj]
  refine ⟨?_, ?_, ?_⟩ <;> (congr 1; simp only [show ((2 : Int) : Rat) = 2 from rfl]; grind)
theorem forL_cons {k : Nat} {chk : Sto → Prop} {f : R → Rho → Option Rho} {body : PS1} {N : En} {x : R} {xs : List R} {r : Rho} {S : Sto} (hc : chk S)
    (h : match f x r with
      | some r1 => body { nx := fun r2 S2 => ∃ r3 S3, Cut k r2 S2 r3 S3 ∧ forL k chk f body N xs r3 S3, rt := N.rt, bk := N.nx, ct := fun r2 S2 => ∃ r3 S3, Cut k r2 S2 r3 S3 ∧ forL k chk f body N xs r3 S3 } r1 S
      | none => False) : forL k chk f body N (x :: xs) r S := by
  unfold forL
  exact ⟨hc, h⟩
theorem forL_nil {k : Nat} {chk : Sto → Prop} {f : R → Rho → Option Rho} {body : PS1} {N : En} {r : Rho} {S : Sto} (hc : chk S) (h : N.nx r S) : forL k chk f body N [] r S := by
  unfold forL
  exact ⟨hc, h⟩
theorem lt_0k {n k : Nat} : (n < n + k) = (0 < k) := by simp
theorem eqv_ii {a b : Int} : PyData.eqv (.int a) (.int b) = (a == b) := by simp only [PyData.eqv]
theorem eqv_bb {a b : Bool} : PyData.eqv (.bool a) (.bool b) = (a == b) := by simp only [PyData.eqv]
theorem eqv_tt {a b : List PyData} : PyData.eqv (.tuple a) (.tuple b) = PyData.eqvAll a b := by simp only [PyData.eqv]
theorem eqv_ll {a b : List PyData} : PyData.eqv (.list a) (.list b) = PyData.eqvAll a b := by simp only [PyData.eqv]
theorem eqv_nn : PyData.eqv .none .none = true := by simp only [PyData.eqv]
theorem eqv_tn {a : List PyData} : PyData.eqv (.tuple a) .none = false := by simp only [PyData.eqv]
theorem eqv_nt {a : List PyData} : PyData.eqv .none (.tuple a) = false := by simp only [PyData.eqv]
theorem eqv_it {a : List PyData} {i : Int} : PyData.eqv (.int i) (.tuple a) = false := by simp only [PyData.eqv]
theorem eqv_ti {a : List PyData} {i : Int} : PyData.eqv (.tuple a) (.int i) = false := by simp only [PyData.eqv]
theorem eqv_in {i : Int} : PyData.eqv (.int i) .none = false := by simp only [PyData.eqv]
theorem eqv_ni {i : Int} : PyData.eqv .none (.int i) = false := by simp only [PyData.eqv]
theorem eqa_nil : PyData.eqvAll [] [] = true := by simp only [PyData.eqvAll]
theorem eqa_nc {a : PyData} {as : List PyData} : PyData.eqvAll [] (a :: as) = false := by simp only [PyData.eqvAll]
theorem eqa_cn {a : PyData} {as : List PyData} : PyData.eqvAll (a :: as) [] = false := by simp only [PyData.eqvAll]
theorem eqa_cc {a b : PyData} {as bs : List PyData} : PyData.eqvAll (a :: as) (b :: bs) = (PyData.eqv a b && PyData.eqvAll as bs) := by simp only [PyData.eqvAll]
end Z
set_option Elab.async false
set_option linter.all false
set_option maxRecDepth 100000
set_option exponentiation.threshold 20000
/-! R4: sizes of turned points, squares of distances, sameness of points. -/
namespace Z
open PySem PySem.Spec PyProof.Rows L2 RZ
theorem fr_parts (q : Rat) : ∃ d : Rat, d ≠ 0 ∧ ((q.den : Int) : Rat) = d ∧ (q.num : Rat) = q * d := by
  have hd : (q.den : Rat) ≠ 0 := by exact_mod_cast (by have := q.den_pos; omega : q.den ≠ 0)
  refine ⟨(q.den : Rat), hd, rfl, ?_⟩
  conv => rhs; lhs; rw [← Rat.mkRat_self q, Rat.mkRat_eq_div]
  rw [Rat.div_def, Rat.mul_assoc, Rat.inv_mul_cancel _ hd, Rat.mul_one]
theorem dot_made {r1 r2 r3 n : Int} {p : Pt} :
    dotQ [r1, r2, r3] p * (n : Rat)⁻¹ = ((r1 * p.1.num * p.2.1.den * p.2.2.den + r2 * p.2.1.num * p.1.den * p.2.2.den + r3 * p.2.2.num * p.1.den * p.2.1.den : Int) : Rat) / ((p.1.den * p.2.1.den * p.2.2.den * n : Int) : Rat) := by
  obtain ⟨p1, p2, p3⟩ := p
  obtain ⟨d1, z1, e1, f1⟩ := fr_parts p1
  obtain ⟨d2, z2, e2, f2⟩ := fr_parts p2
  obtain ⟨d3, z3, e3, f3⟩ := fr_parts p3
  simp only [Rat.intCast_add, Rat.intCast_mul, e1, e2, e3, f1, f2, f3, dotQ]
  rw [Rat.div_def, Rat.inv_mul_rev (d1 * d2 * d3)]
  generalize hn : (n : Rat)⁻¹ = i
  have hz : d1 * d2 * d3 ≠ 0 := by
    intro h
    rcases Rat.mul_eq_zero.mp h with h | h
    · rcases Rat.mul_eq_zero.mp h with h | h
      · exact z1 h
      · exact z2 h
    · exact z3 h
  have := Rat.mul_inv_cancel _ hz
  generalize (d1 * d2 * d3)⁻¹ = j at this ⊢
  grind
/-- the parts of a turned point stay small -/
theorem rot_bq {m n : Nat} {a : List Int} (ha : a.length = 4) (hz : ∃ x ∈ a, x ≠ 0) (hb : ∀ x ∈ a, Bd m x) {p : Pt} (hp : ∀ q ∈ qsOf p, BQ n q) : ∀ q ∈ qsOf (rot a p), BQ (2 * m + 3 * n + 4) q := by
  have nb : Bd (m + m + 2) (nrmI a) := nrmI_bd hb
  have nz := nrmI_ne ha hz
  have rb := rowsI_bd hb
  have key : ∀ row ∈ rowsI a, BQ (2 * m + 3 * n + 4) (dotQ row p * (nrmI a : Rat)⁻¹) := fun row hr => by
    have r := rb row hr
    obtain ⟨r1, r2, r3, rfl⟩ := rowsI_three hr
    simp only [List.mem_cons, List.not_mem_nil, or_false, forall_eq_or_imp, forall_eq, qsOf, BQ] at r hp
    obtain ⟨b1, b2, b3⟩ := r
    obtain ⟨⟨c1, d1⟩, ⟨c2, d2⟩, ⟨c3, d3⟩⟩ := hp
    rw [dot_made]
    refine BQ.made ?_ ?_ ?_
    · have := p.1.den_pos; have := p.2.1.den_pos; have := p.2.2.den_pos
      exact Int.mul_ne_zero (Int.mul_ne_zero (Int.mul_ne_zero (by omega) (by omega)) (by omega)) nz
    · exact (((((b1.mul c1).mul d2).mul d3).add (((b2.mul c2).mul d1).mul d3)).add (((b3.mul c3).mul d1).mul d2)).mono (by omega)
    · exact (((d1.mul d2).mul d3).mul nb).mono (by omega)
  have e := rot_dot ha p
  rw [ptD_qs] at e
  have e2 : (qsOf (rot a p)).map frD = ((rowsI a).map fun row => dotQ row p * (nrmI a : Rat)⁻¹).map frD := by
    rw [List.map_map]; simpa [Function.comp_def] using e
  have inj : ∀ xs ys : List Rat, xs.map frD = ys.map frD → xs = ys := by
    intro xs
    induction xs with
    | nil => intro ys h; cases ys with
      | nil => rfl
      | cons y ys => simp at h
    | cons x xs ih => intro ys h; cases ys with
      | nil => simp at h
      | cons y ys =>
        simp only [List.map_cons, List.cons.injEq] at h
        rw [frD_inj.mp h.1, ih ys h.2]
  rw [inj _ _ e2]
  intro q hq
  obtain ⟨row, hr, rfl⟩ := List.mem_map.mp hq
  exact key row hr
end Z
set_option Elab.async false
set_option linter.all false
set_option maxRecDepth 100000
set_option exponentiation.threshold 20000
/-! R5: a turn is told by what it does to points. -/
namespace Z
open PySem PySem.Spec PyProof.Rows L2 RZ
theorem nz_four {ms : List Int} (hl : ms.length = 4) (h : ms ≠ [0, 0, 0, 0]) : ∃ n ∈ ms, n ≠ 0 := by
  obtain ⟨p, q, r, s, rfl⟩ := four_of hl
  by_cases h1 : p = 0
  · by_cases h2 : q = 0
    · by_cases h3 : r = 0
      · by_cases h4 : s = 0
        · subst h1 h2 h3 h4; exact absurd rfl h
        · exact ⟨s, by simp, h4⟩
      · exact ⟨r, by simp, h3⟩
    · exact ⟨q, by simp, h2⟩
  · exact ⟨p, by simp, h1⟩
end Z
set_option Elab.async false
set_option linter.all false
set_option maxRecDepth 100000
set_option exponentiation.threshold 20000
/-! R6: sizes by a common bottom; sums of points; motions. -/
namespace Z
open PySem PySem.Spec PyProof.Rows L2 RZ
/-- every part over one bottom -/
theorem ptb_iff {n : Nat} {p : Pt} : PtB n p ↔ ∃ L : Nat, 0 < L ∧ Bd n (L : Int) ∧ ∀ q ∈ qsOf p, q.den ∣ L ∧ Bd n (topOf L q) := by
  constructor
  · rintro ⟨L, h0, h1, h2⟩
    exact ⟨L, h0, h1, fun q hq => h2 q (by simpa [qsOf] using hq)⟩
  · rintro ⟨L, h0, h1, h2⟩
    exact ⟨L, h0, h1, fun q hq => h2 q (by simpa [qsOf] using hq)⟩
theorem den_dvd {t : Int} {b : Nat} (hb : 0 < b) {q : Rat} (h : q = (t : Rat) / ((b : Int) : Rat)) : q.den ∣ b ∧ topOf b q = t := by
  have hd : q.den ∣ b := by
    have e : q = Rat.divInt t (b : Int) := by rw [h, Rat.divInt_eq_div]
    rw [e]
    rw [Rat.den_divInt, if_neg (by omega), Int.natAbs_natCast]
    refine Nat.div_dvd_of_dvd ?_
    have := Int.gcd_dvd_left (b : Int) t
    exact_mod_cast this
  refine ⟨hd, ?_⟩
  have e := topOf_eq hb hd
  have hB : (b : Rat) ≠ 0 := by exact_mod_cast (by omega : b ≠ 0)
  have e2 : (topOf b q : Rat) = (t : Rat) := by
    rw [e, h, Rat.div_def, Rat.mul_assoc, show (((b : Int) : Rat)) = (b : Rat) from rfl, Rat.inv_mul_cancel _ hB, Rat.mul_one]
  exact_mod_cast e2
theorem PtB.rot {m n : Nat} {a : List Int} (ha : a.length = 4) (hz : ∃ x ∈ a, x ≠ 0) (hb : ∀ x ∈ a, Bd m x) {p : Pt} (hp : PtB n p) : PtB (2 * m + n + 4) (Z.rot a p) := by
  obtain ⟨L, h0, h1, h2⟩ := ptb_iff.mp hp
  have nb : Bd (m + m + 2) (nrmI a) := nrmI_bd hb
  have npos : 0 < nrmI a := by
    obtain ⟨w, x, y, z, rfl⟩ := four_of ha
    exact nrmI_pos hz
  have rb := rowsI_bd hb
  have e := rot_rows ha hz h0 (h2 p.1 (by simp [qsOf])).1 (h2 p.2.1 (by simp [qsOf])).1 (h2 p.2.2 (by simp [qsOf])).1
  obtain ⟨N, hN⟩ : ∃ N : Nat, nrmI a = (N : Int) := ⟨(nrmI a).toNat, by omega⟩
  have hN0 : 0 < N := by omega
  refine ptb_iff.mpr ⟨N * L, Nat.mul_pos hN0 h0, ?_, ?_⟩
  · have := nb.mul h1
    rw [hN] at this
    exact Bd.mono (m := m + m + 2 + n) (by exact_mod_cast this) (by omega)
  · have key : ∀ row ∈ rowsI a, ∀ q : Rat, q = (dotI row L p : Rat) / ((nrmI a * (L : Int) : Int) : Rat) → q.den ∣ N * L ∧ Bd (2 * m + n + 4) (topOf (N * L) q) := fun row hr q hq => by
      have r := rb row hr
      obtain ⟨r1, r2, r3, rfl⟩ := rowsI_three hr
      simp only [List.mem_cons, List.not_mem_nil, or_false, forall_eq_or_imp, forall_eq] at r
      obtain ⟨b1, b2, b3⟩ := r
      have c1 := (h2 p.1 (by simp [qsOf])).2
      have c2 := (h2 p.2.1 (by simp [qsOf])).2
      have c3 := (h2 p.2.2 (by simp [qsOf])).2
      have e1 : ((nrmI a * (L : Int) : Int)) = ((N * L : Nat) : Int) := by rw [hN]; rfl
      rw [e1] at hq
      obtain ⟨k1, k2⟩ := den_dvd (Nat.mul_pos hN0 h0) hq
      refine ⟨k1, ?_⟩
      rw [k2]
      simp only [dotI]
      exact (((b1.mul c1).add (b2.mul c2)).add (b3.mul c3)).mono (by omega)
    rw [ptD_qs] at e
    have e2 : (qsOf (Z.rot a p)).map frD = ((rowsI a).map fun row => (dotI row L p : Rat) / ((nrmI a * (L : Int) : Int) : Rat)).map frD := by
      rw [List.map_map]; simpa [Function.comp_def] using e
    have inj : ∀ xs ys : List Rat, xs.map frD = ys.map frD → xs = ys := by
      intro xs
      induction xs with
      | nil => intro ys h; cases ys with
        | nil => rfl
        | cons y ys => simp at h
      | cons x xs ih => intro ys h; cases ys with
        | nil => simp at h
        | cons y ys =>
          simp only [List.map_cons, List.cons.injEq] at h
          rw [frD_inj.mp h.1, ih ys h.2]
    rw [inj _ _ e2]
    intro q hq
    obtain ⟨row, hr, rfl⟩ := List.mem_map.mp hq
    exact key row hr _ rfl
def ptAdd (p q : Pt) : Pt := (p.1 + q.1, p.2.1 + q.2.1, p.2.2 + q.2.2)
def ptNeg (p : Pt) : Pt := (-p.1, -p.2.1, -p.2.2)
theorem add_tops {L K : Nat} {x y : Rat} (hL : 0 < L) (hK : 0 < K) (h1 : x.den ∣ L) (h2 : y.den ∣ K) : (x + y).den ∣ L * K ∧ topOf (L * K) (x + y) = topOf L x * K + topOf K y * L := by
  refine den_dvd (Nat.mul_pos hL hK) ?_
  have e1 := topOf_eq hL h1
  have e2 := topOf_eq hK h2
  have z1 : (L : Rat) ≠ 0 := by exact_mod_cast (by omega : L ≠ 0)
  have z2 : (K : Rat) ≠ 0 := by exact_mod_cast (by omega : K ≠ 0)
  have hz : (L : Rat) * K ≠ 0 := by
    intro h
    rcases Rat.mul_eq_zero.mp h with h | h
    · exact z1 h
    · exact z2 h
  have i1 := Rat.mul_inv_cancel _ hz
  simp only [Rat.intCast_add, Rat.intCast_mul, e1, e2]
  rw [Rat.div_def, show (((L * K : Nat) : Int) : Rat) = (L : Rat) * K by rw [← Rat.natCast_mul]; rfl, show (((K : Nat) : Int) : Rat) = (K : Rat) from rfl, show (((L : Nat) : Int) : Rat) = (L : Rat) from rfl]
  generalize ((L : Rat) * K)⁻¹ = j at i1 ⊢
  grind
theorem PtB.add {n k : Nat} {p q : Pt} (hp : PtB n p) (hq : PtB k q) : PtB (n + k + 1) (ptAdd p q) := by
  obtain ⟨L, h0, h1, h2⟩ := ptb_iff.mp hp
  obtain ⟨K, g0, g1, g2⟩ := ptb_iff.mp hq
  refine ptb_iff.mpr ⟨L * K, Nat.mul_pos h0 g0, ?_, ?_⟩
  · exact Bd.mono (m := n + k) (by have := h1.mul g1; exact_mod_cast this) (by omega)
  · have key : ∀ x y : Rat, x.den ∣ L ∧ Bd n (topOf L x) → y.den ∣ K ∧ Bd k (topOf K y) → (x + y).den ∣ L * K ∧ Bd (n + k + 1) (topOf (L * K) (x + y)) := fun x y ⟨a1, a2⟩ ⟨b1, b2⟩ => by
      obtain ⟨c1, c2⟩ := add_tops h0 g0 a1 b1
      refine ⟨c1, ?_⟩
      rw [c2]
      exact ((a2.mul g1).add (b2.mul h1)).mono (by omega)
    intro r hr
    simp only [qsOf, ptAdd, List.mem_cons, List.not_mem_nil, or_false] at hr
    rcases hr with rfl | rfl | rfl
    · exact key _ _ (h2 _ (by simp [qsOf])) (g2 _ (by simp [qsOf]))
    · exact key _ _ (h2 _ (by simp [qsOf])) (g2 _ (by simp [qsOf]))
    · exact key _ _ (h2 _ (by simp [qsOf])) (g2 _ (by simp [qsOf]))
theorem PtB.neg {n : Nat} {p : Pt} (hp : PtB n p) : PtB n (ptNeg p) := by
  obtain ⟨L, h0, h1, h2⟩ := ptb_iff.mp hp
  refine ptb_iff.mpr ⟨L, h0, h1, fun r hr => ?_⟩
  have key : ∀ x : Rat, x.den ∣ L ∧ Bd n (topOf L x) → (-x).den ∣ L ∧ Bd n (topOf L (-x)) := fun x ⟨a1, a2⟩ => by
    refine ⟨by rw [Rat.neg_den]; exact a1, ?_⟩
    have : topOf L (-x) = - topOf L x := by
      unfold topOf; rw [Rat.neg_num, Rat.neg_den, Int.neg_mul]
    rw [this]; exact a2.neg
  simp only [qsOf, ptNeg, List.mem_cons, List.not_mem_nil, or_false] at hr
  rcases hr with rfl | rfl | rfl
  · exact key _ (h2 _ (by simp [qsOf]))
  · exact key _ (h2 _ (by simp [qsOf]))
  · exact key _ (h2 _ (by simp [qsOf]))
theorem add_made {p q : Rat} : ((p.num * (q.den : Int) + q.num * (p.den : Int) : Int) : Rat) / (((p.den : Int) * (q.den : Int) : Int) : Rat) = p + q := by
  obtain ⟨d1, z1, e1, f1⟩ := fr_parts p
  obtain ⟨d2, z2, e2, f2⟩ := fr_parts q
  simp only [Rat.intCast_add, Rat.intCast_mul, e1, e2, f1, f2]
  have hz : d1 * d2 ≠ 0 := by
    intro h
    rcases Rat.mul_eq_zero.mp h with h | h
    · exact z1 h
    · exact z2 h
  have := Rat.mul_inv_cancel _ hz
  rw [Rat.div_def]
  generalize (d1 * d2)⁻¹ = j at this ⊢
  grind
theorem made_ne {p q : Rat} : (p.den : Int) * (q.den : Int) ≠ 0 := Int.mul_ne_zero (fr_den p) (fr_den q)
/-! ### motions: a four and a point -/
abbrev Mo := List Int × Pt
def moBack (m : Mo) : Mo := (pln (qbk m.1), ptNeg (rot (pln (qbk m.1)) m.2))
/-- sizes of a motion -/
structure MB (m n : Nat) (a : Mo) : Prop where
  len : a.1.length = 4
  nz : ∃ x ∈ a.1, x ≠ 0
  bd : ∀ x ∈ a.1, Bd m x
  pt : PtB n a.2
theorem MB.back {m n : Nat} {a : Mo} (h : MB m n a) : MB m (2 * m + n + 4) (moBack a) := by
  have q := qbk_nz h.len h.nz
  have l : (pln (qbk a.1)).length = 4 := by rw [pln_len, qbk_len h.len]
  have b := pln_bds q (qbk_bd h.bd)
  exact ⟨l, pln_nz q, b, (PtB.rot l (pln_nz q) b h.pt).neg⟩
end Z
set_option Elab.async false
set_option linter.all false
set_option maxRecDepth 100000
set_option exponentiation.threshold 20000
/-! R7: laws of motions. -/
namespace Z
open PySem PySem.Spec PyProof.Rows L2 RZ
/-- the parts that laws of motions ask -/
structure MW (a : Mo) : Prop where
  len : a.1.length = 4
  nz : ∃ x ∈ a.1, x ≠ 0
theorem MB.w {m n : Nat} {a : Mo} (h : MB m n a) : MW a := ⟨h.len, h.nz⟩
theorem MW.back {a : Mo} (h : MW a) : MW (moBack a) :=
  ⟨by simp only [moBack]; rw [pln_len, qbk_len h.len], pln_nz (qbk_nz h.len h.nz)⟩
theorem MB.mono {m n k l : Nat} {a : Mo} (h : MB m n a) (h1 : m ≤ k) (h2 : n ≤ l) : MB k l a := ⟨h.len, h.nz, fun x hx => (h.bd x hx).mono h1, h.pt.mono h2⟩
end Z
set_option Elab.async false
set_option linter.all false
set_option maxRecDepth 100000
set_option exponentiation.threshold 20000
/-! R8: ways (three whole numbers), their products; swings and twists. -/
namespace Z
open PySem PySem.Spec PyProof.Rows L2 RZ
def dt : List Int → List Int → Int
  | [a, b, c], [p, q, r] => a * p + b * q + c * r
  | _, _ => 0
def crs : List Int → List Int → List Int
  | [a, b, c], [p, q, r] => [b * r - c * q, c * p - a * r, a * q - b * p]
  | _, _ => []
theorem three_of {a : List Int} (h : a.length = 3) : ∃ x y z, a = [x, y, z] := by
  match a, h with
  | [x, y, z], _ => exact ⟨x, y, z, rfl⟩
theorem cut_one {x : D} {xs : List D} : cutD (x :: xs) (some 1) none = xs := cutD_drop (xs := x :: xs) 1
/-! ### swing and twist -/
def hd (f : List Int) : Int := f.headD 0
/-! scaled -/
theorem hd_map {k : Int} {f : List Int} (h : f.length = 4) : hd (f.map (k * ·)) = k * hd f := by
  obtain ⟨w, x, y, z, rfl⟩ := four_of h
  rfl
/-- a value is itself -/
theorem eqv_self (d : D) : (py d).eqv (py d) = true := by
  have h := D.rec (motive_1 := fun d => (py d).eqv (py d) = true) (motive_2 := fun xs => PyData.eqvAll (pys xs) (pys xs) = true) (by simp only [py, PyData.eqv]) (fun b => by simp [py, PyData.eqv]) (fun b => by simp [py, PyData.eqv]) (fun b => by simp [py, PyData.eqv]) (fun xs h => by simpa [py, PyData.eqv] using h) (fun xs h => by simpa [py, PyData.eqv] using h) (by simp only [pys, PyData.eqvAll]) (fun x xs h1 h2 => by simp only [pys, PyData.eqvAll, h1, h2, Bool.and_self]) d
  exact h
end Z
set_option Elab.async false
set_option linter.all false
set_option maxRecDepth 100000
set_option exponentiation.threshold 20000
/-! R9: settings, axes, turns about ways. -/
namespace Z
open PySem PySem.Spec PyProof.Rows L2 RZ
/-- the plain setting -/
def pset (k l : Int) : List Int := (pln [l, k]).reverse
/-- the turn about a way by a setting -/
def abt (a : List Int) (k l : Int) : List Int := l :: a.map (k * ·)
theorem abt_len {a : List Int} (ha : a.length = 3) (k l : Int) : (abt a k l).length = 4 := by simp [abt, ha]
theorem abt_nz {a : List Int} (za : ∃ n ∈ a, n ≠ 0) {k l : Int} (h : ∃ n ∈ [k, l], n ≠ 0) : ∃ n ∈ abt a k l, n ≠ 0 := by
  obtain ⟨n, hn, h0⟩ := h
  simp only [List.mem_cons, List.not_mem_nil, or_false] at hn
  rcases hn with rfl | rfl
  · obtain ⟨m, hm, h1⟩ := nz_map h0 za
    exact ⟨m, List.mem_cons_of_mem _ hm, h1⟩
  · exact ⟨n, by simp [abt], h0⟩
/-! the first part that isn't 0 -/
def fnz : List Int → Nat
  | [] => 0
  | x :: xs => if x = 0 then fnz xs + 1 else 0
def rstQ (f : List Int) : Rat := ((hd f * hd f : Int) : Rat) / (nrmI f : Rat)
/-! a locked turn behind a taken back twist -/
end Z
set_option Elab.async false
set_option linter.all false
set_option maxRecDepth 100000
set_option exponentiation.threshold 20000
/-! R10: fractions in general; mirrors. -/
namespace Z
open PySem PySem.Spec PyProof.Rows L2 RZ
theorem mul_ne {a b : Rat} (ha : a ≠ 0) (hb : b ≠ 0) : a * b ≠ 0 := fun h => (Rat.mul_eq_zero.mp h).elim ha hb
theorem min_made {p q : Rat} : ((p.num * (q.den : Int) - q.num * (p.den : Int) : Int) : Rat) / (((p.den : Int) * (q.den : Int) : Int) : Rat) = p - q := by
  obtain ⟨d1, z1, e1, f1⟩ := fr_parts p
  obtain ⟨d2, z2, e2, f2⟩ := fr_parts q
  simp only [Rat.intCast_sub, Rat.intCast_mul, e1, e2, f1, f2]
  have := Rat.mul_inv_cancel _ (mul_ne z1 z2)
  rw [Rat.div_def]
  generalize (d1 * d2)⁻¹ = j at this ⊢
  grind
theorem mul_made {p q : Rat} : ((p.num * q.num : Int) : Rat) / (((p.den : Int) * (q.den : Int) : Int) : Rat) = p * q := by
  obtain ⟨d1, z1, e1, f1⟩ := fr_parts p
  obtain ⟨d2, z2, e2, f2⟩ := fr_parts q
  simp only [Rat.intCast_mul, e1, e2, f1, f2]
  have := Rat.mul_inv_cancel _ (mul_ne z1 z2)
  rw [Rat.div_def]
  generalize (d1 * d2)⁻¹ = j at this ⊢
  grind
theorem BQ.add {m n : Nat} {p q : Rat} (hp : BQ m p) (hq : BQ n q) : BQ (m + n + 1) (p + q) := by
  rw [← add_made]
  exact BQ.made made_ne (((hp.1.mul hq.2).add (hq.1.mul hp.2)).mono (by omega)) ((hp.2.mul hq.2).mono (by omega))
theorem BQ.sub {m n : Nat} {p q : Rat} (hp : BQ m p) (hq : BQ n q) : BQ (m + n + 1) (p - q) := by
  rw [← min_made]
  exact BQ.made made_ne (((hp.1.mul hq.2).sub (hq.1.mul hp.2)).mono (by omega)) ((hp.2.mul hq.2).mono (by omega))
theorem BQ.mul {m n : Nat} {p q : Rat} (hp : BQ m p) (hq : BQ n q) : BQ (m + n) (p * q) := by
  rw [← mul_made]
  exact BQ.made made_ne (hp.1.mul hq.1) (hp.2.mul hq.2)
theorem BQ.neg {m : Nat} {p : Rat} (hp : BQ m p) : BQ m (-p) := ⟨by rw [Rat.neg_num]; exact hp.1.neg, by rw [Rat.neg_den]; exact hp.2⟩
theorem BQ.int {n : Nat} {x : Int} (h : Bd n x) : BQ (n + 1) (x : Rat) := ⟨by simpa using h.mono (by omega), by simpa using Bd.lit (n := n + 1) (i := 1) (by simpa using Nat.one_lt_two_pow (by omega))⟩
/-! mirrors as fours -/
def z4 (a : List Int) : List Int := 0 :: a
end Z
set_option Elab.async false
set_option linter.all false
set_option maxRecDepth 100000
set_option exponentiation.threshold 20000
/-! R11: two mirrors turn. -/
set_option Elab.async false
set_option linter.all false
set_option maxRecDepth 100000
set_option exponentiation.threshold 20000
/-! R12: screws. -/
namespace Z
open PySem PySem.Spec PyProof.Rows L2 RZ
/-! ### the screw of a motion -/
def axI (f : List Int) : List Int := prow ((pln f).drop 1)
def ksI (f : List Int) : Int := ((pln f).drop 1)[fnz (axI f)]!
def lsI (f : List Int) : Int := (axI f)[fnz (axI f)]! * hd (pln f)
def kI (f : List Int) : Int := (pset (ksI f) (lsI f))[0]!
def lI (f : List Int) : Int := (pset (ksI f) (lsI f))[1]!
/-- what is known of the screw -/
structure Scr (f : List Int) : Prop where
  al : (axI f).length = 3
  az : ∃ n ∈ axI f, n ≠ 0
  k0 : kI f ≠ 0
  ab : pln (abt (axI f) (kI f) (lI f)) = pln f
  par : crs (axI f) ((pln f).drop 1) = [0, 0, 0]
theorem Scr.nz {f : List Int} (h : Scr f) : ∃ n ∈ abt (axI f) (kI f) (lI f), n ≠ 0 := abt_nz h.az ⟨kI f, by simp, h.k0⟩
theorem Scr.rot {f : List Int} (h : Scr f) (hf : f.length = 4) (zf : ∃ n ∈ f, n ≠ 0) (p : Pt) : Z.rot (abt (axI f) (kI f) (lI f)) p = Z.rot f p := by
  rw [← rot_pln (abt_len h.al _ _) h.nz, h.ab, rot_pln hf zf]
end Z
set_option Elab.async false
set_option linter.all false
set_option maxRecDepth 100000
set_option exponentiation.threshold 20000
/-! R13: sizes over one bottom; the promises of screws. -/
namespace Z
open PySem PySem.Spec PyProof.Rows L2 RZ
structure Tp (n : Nat) (B : Int) (q : Rat) : Prop where
  ex : ∃ t : Int, q = (t : Rat) / (B : Rat) ∧ Bd n t
theorem Tp.mono {m n : Nat} {B : Int} {q : Rat} (h : Tp m B q) (k : m ≤ n) : Tp n B q := let ⟨t, e, b⟩ := h.ex; ⟨t, e, b.mono k⟩
theorem Tp.add {m n : Nat} {B : Int} {p q : Rat} (hp : Tp m B p) (hq : Tp n B q) : Tp (max m n + 1) B (p + q) := by
  obtain ⟨t, e1, b1⟩ := hp.ex
  obtain ⟨u, e2, b2⟩ := hq.ex
  refine ⟨t + u, ?_, b1.add b2⟩
  rw [e1, e2, Rat.intCast_add]; simp only [Rat.div_def]; grind
theorem Tp.sub {m n : Nat} {B : Int} {p q : Rat} (hp : Tp m B p) (hq : Tp n B q) : Tp (max m n + 1) B (p - q) := by
  obtain ⟨t, e1, b1⟩ := hp.ex
  obtain ⟨u, e2, b2⟩ := hq.ex
  refine ⟨t - u, ?_, b1.sub b2⟩
  rw [e1, e2, Rat.intCast_sub]; simp only [Rat.div_def]; grind
end Z
set_option Elab.async false
set_option linter.all false
set_option maxRecDepth 100000
set_option exponentiation.threshold 20000
/-! R14: what screws do. -/
set_option Elab.async false
set_option linter.all false
set_option maxRecDepth 100000
set_option exponentiation.threshold 20000
/-! R15: purses of three numbers; ways spun. -/
namespace Z
open PySem PySem.Spec PyProof.Rows L2 RZ
/-- a draw from a purse of three: the third number grows by four at most -/
def spDr3 : SpZ := fun rs S W => match rs, S with
  | [.loc 0, .d (.int n)], [.lst [.int _, .int c, .int k]] => (0 < n ∧ n ≤ 10000000000000000000000000000000000000000) ∧ Bd SB c ∧ (0 ≤ k ∧ k ≤ 1000000000) ∧ ∀ v p k' : Int, 0 ≤ v → v < n → 0 ≤ k' → k' ≤ k + 4 → W (.d (.int v)) [.lst [.int p, .int c, .int k']]
  | _, _ => False
def spSm3 : SpZ := fun rs S W => match rs, S with
  | [.loc 0, .d (.int n)], [.lst [.int _, .int c, .int k]] => (0 ≤ n ∧ n ≤ 1000000000000000000000000000000) ∧ Bd SB c ∧ (0 ≤ k ∧ k ≤ 1000000000) ∧ ∀ v p k' : Int, -n ≤ v → v ≤ n → 0 ≤ k' → k' ≤ k + 4 → W (.d (.int v)) [.lst [.int p, .int c, .int k']]
  | _, _ => False
def spFr3 : SpZ := fun rs S W => match rs, S with
  | [.loc 0, .d (.int n)], [.lst [.int _, .int c, .int k]] => (1 ≤ n ∧ n ≤ 1000000000000000000000000000000) ∧ Bd SB c ∧ (0 ≤ k ∧ k ≤ 900000000) ∧ ∀ (ns : List Int) (p k' : Int), ns.length = 4 → (∀ x ∈ ns, -n ≤ x ∧ x ≤ n) → (∃ x ∈ ns, x ≠ 0) → 0 ≤ k' → k' ≤ k + 16 → W (.d (.tup (ns.map D.int))) [.lst [.int p, .int c, .int k']]
  | _, _ => False
/-- the turned way, times the four's size -/
def spn (f a : List Int) : List Int := (rowsI f).map fun r => dt r a
/-- do two ways point alike? -/
def alike (a b : List Int) : Bool := decide (crs a b = [0, 0, 0]) && decide (0 < dt a b)
end Z
set_option Elab.async false
set_option linter.all false
set_option maxRecDepth 100000
set_option exponentiation.threshold 20000
/-! R16: roots; ways led to ways. -/
set_option Elab.async false
set_option linter.all false
set_option maxRecDepth 100000
set_option exponentiation.threshold 20000
/-! R17: the laws that draw by cells. -/
namespace Z
open PySem PySem.Spec PyProof.Rows L2 RZ
theorem nrmI_smul {k : Int} {f : List Int} (hf : f.length = 4) : nrmI (f.map (k * ·)) = k * k * nrmI f := by
  obtain ⟨w, x, y, z, rfl⟩ := four_of hf
  simp only [nrmI, List.map_cons, List.map_nil]; grind
theorem div_scale {a b c : Rat} (hc : c ≠ 0) : (c * a) / (c * b) = a / b := by
  by_cases hb : b = 0
  · subst hb; simp [Rat.div_def]
  · have i1 := Rat.mul_inv_cancel _ (mul_ne hc hb)
    have i2 := Rat.mul_inv_cancel _ hb
    rw [Rat.div_def, Rat.div_def]
    generalize (c * b)⁻¹ = i at *
    generalize b⁻¹ = j at *
    grind
theorem rstQ_smul {k : Int} (hk : k ≠ 0) {f : List Int} (hf : f.length = 4) : rstQ (f.map (k * ·)) = rstQ f := by
  unfold rstQ
  rw [hd_map hf, nrmI_smul hf]
  have e : k * hd f * (k * hd f) = k * k * (hd f * hd f) := by grind
  have hk2 : ((k * k : Int) : Rat) ≠ 0 := by exact_mod_cast Int.mul_ne_zero hk hk
  rw [e, Rat.intCast_mul (k * k), Rat.intCast_mul (k * k)]
  exact div_scale hk2
theorem rstQ_pln {f : List Int} (hf : f.length = 4) (zf : ∃ n ∈ f, n ≠ 0) : rstQ (pln f) = rstQ f := by
  conv => rhs; rw [pln_mul zf]
  exact (rstQ_smul (fsgl_ne zf) (by rw [pln_len, hf])).symm
theorem rstQ_bk {f : List Int} (hf : f.length = 4) : rstQ (qbk f) = rstQ f := by
  obtain ⟨w, x, y, z, rfl⟩ := four_of hf
  have e : nrmI (qbk [w, x, y, z]) = nrmI [w, x, y, z] := by simp only [qbk, nrmI]; grind
  unfold rstQ
  rw [e]; rfl
end Z
set_option Elab.async false
set_option linter.all false
set_option maxRecDepth 100000
set_option exponentiation.threshold 20000
/-! R23: turns about one way. -/
set_option Elab.async false
set_option linter.all false
set_option maxRecDepth 100000
set_option exponentiation.threshold 20000
/-! R25: rows of turns. -/
namespace Z
open PySem PySem.Spec PyProof.Rows L2 RZ
def prodF (fs : List (List Int)) : List Int := fs.foldl (fun g f => qmul f g) [1, 0, 0, 0]
structure OkF (f : List Int) : Prop where
  len : f.length = 4
  nz : ∃ n ∈ f, n ≠ 0
  bd : ∀ x ∈ f, Bd 100 x
end Z
set_option Elab.async false
set_option linter.all false
set_option maxRecDepth 100000
set_option maxHeartbeats 1000000
/-! Z9: zip of a text and a tuple. -/
namespace Z
open PySem PySem.Spec PyProof.Rows L2 RZ
section
variable {X : Cx} {e e2 : Expr} {ws : PA1} {pos : Pos}
abbrev wZipS (ws : PA1) : PI1 := fun r S W => ws r S fun xs S1 => match xs with
  | [.r (.d (.str s)), .r (.d (.tup ys))] => s.cps.all (· < 128) = true ∧ W { items := prs (chrs s) (ys.map R.d) } S1
  | _ => False
end
end Z
set_option Elab.async false
set_option linter.all false
set_option maxRecDepth 100000
/-! Z10: numbers as texts, texts joined, tuples repeated. -/
namespace Z
open PySem PySem.Spec PyProof.Rows L2 RZ
/-- a whole number as a text -/
def numT (i : Int) : Str := PySem.Str.ofString (toString i)
section
variable {X : Cx} {e : Expr} {we wo : PE1} {pos : Pos}
abbrev fStr : PF := fun xs S W => match xs with
  | [.r (.d (.int i))] => i.natAbs.log2 < 1920 ∧ W (.r (.d (.str (numT i)))) S
  | _ => False
/-- a tuple some times -/
abbrev pRepT : P2 := fun x y S W => match x, y with
  | .r (.d (.tup xs)), .r (.d (.int k)) => (1 ≤ xs.length ∧ 2 ≤ k ∧ k ≤ 1000 ∧ xs.length ≤ 1000) ∧ W (.r (.d (.tup (List.replicate k.toNat xs).flatten))) S
  | _, _ => False
/-- a row of texts -/
abbrev strsOf : List D → Option (List Str)
  | [] => some []
  | .str x :: r => (strsOf r).map (x :: ·)
  | _ :: _ => none
/-- s.join(list or tuple) -/
abbrev wJoin (wo we : PE1) : PE1 := fun r S W => wo r S fun x S1 => match x with
  | .r (.d (.str a)) => we r S1 fun y S2 => match seqOf S2 y with
    | some xs => match strsOf xs with
      | some ss => (ss.map (·.length)).sum + ss.length * a.length ≤ 16777216 ∧ W (.r (.d (.str (Txt.join a ss)))) S2
      | none => False
    | none => False
  | _ => False
end
end Z
set_option Elab.async false
set_option linter.all false
set_option maxRecDepth 100000
set_option exponentiation.threshold 20000
/-! R27: things as texts. -/
namespace Z
open PySem PySem.Spec PyProof.Rows L2 RZ
/-- a fraction's text -/
def frT (p : Int × Int) : Str := if p.2 = 1 then numT p.1 else (numT p.1 ++ PySem.Str.ofString "/") ++ numT p.2
def OkPw (p : Int × Int) : Prop := Bd 110 p.1 ∧ Bd 110 p.2
abbrev prD (p : Int × Int) : D := .tup [.int p.1, .int p.2]
abbrev ptT (ps : List (Int × Int)) : Str := Txt.join (PySem.Str.ofString " ") (ps.map frT)
abbrev tbT (qs : List (List (Int × Int))) : Str := Txt.join (PySem.Str.ofString "; ") (qs.map ptT)
abbrev rwT (sep : String) (ns : List Int) : Str := Txt.join (PySem.Str.ofString sep) (ns.map numT)
abbrev ptsD (ps : List (Int × Int)) : D := .tup (ps.map prD)
def OkPt (ps : List (Int × Int)) : Prop := ps.length = 3 ∧ ∀ p ∈ ps, OkPw p
def OkTb (qs : List (List (Int × Int))) : Prop := qs.length = 3 ∧ ∀ q ∈ qs, OkPt q
def OkRw (ns : List Int) : Prop := ns.length ≤ 4 ∧ ∀ n ∈ ns, Bd 110 n
/-- a thing of one of the six kinds, and its text -/
def Thing (kind : Int) (x : D) (W : Str → Prop) : Prop :=
  (kind = 0 ∧ ∃ p, x = prD p ∧ OkPw p ∧ W (frT p)) ∨ (kind = 1 ∧ ∃ ns : List Int, x = .tup (ns.map D.int) ∧ OkRw ns ∧ W (rwT " " ns)) ∨ (kind = 2 ∧ ∃ ns : List Int, x = .tup (ns.map D.int) ∧ OkRw ns ∧ W (rwT " " ns)) ∨
    (kind = 3 ∧ ∃ ps, x = ptsD ps ∧ OkPt ps ∧ W (ptT ps)) ∨ (kind = 4 ∧ ∃ qs, x = .tup (qs.map ptsD) ∧ OkTb qs ∧ W (tbT qs)) ∨ (kind = 5 ∧ ∃ k l, x = .tup [.int k, .int l] ∧ OkPw (k, l) ∧ W (rwT ":" [k, l]))
/-- a comprehension that maps data -/
theorem lcL_mapD {α : Type} {k : Nat} {chk : Sto → Prop} {f : R → Rho → Option Rho} {t : PT1} {w : PE1} {r : Rho} {S : Sto} {W : List D → Sto → Prop} {g : α → D} {xs : List α} (v : α → D) (hk : S.take k = S) (hc : chk S)
    (h : ∀ x ∈ xs, ∃ r1, f (.d (g x)) r = some r1 ∧ (∀ W1 : Bool → Sto → Prop, W1 true S → t r1 S W1) ∧ ∀ W1 : PK1, W1 (.r (.d (v x))) S → w r1 S W1) (q : W (xs.map v) S) :
    lcL k chk f t w r ((xs.map g).map R.d) S W := by
  induction xs generalizing W with
  | nil => exact ⟨hc, q⟩
  | cons x xs ih =>
    obtain ⟨r1, h1, h2, h3⟩ := h x (by simp)
    rw [List.map_cons, List.map_cons]
    unfold lcL
    refine ⟨hc, ?_⟩
    rw [h1]
    refine h2 _ ?_
    rw [if_pos rfl]
    refine h3 _ ?_
    show lcL k chk f t w r _ (S.take k) _
    rw [hk]
    exact ih (fun y hy => h y (by simp [hy])) (by simpa using q)
/-- what may be drawn -/
def Drawn (kind : Int) (W : D → Prop) : Prop :=
  (kind = 0 ∧ ∀ p, OkPw p → W (prD p)) ∨ ((kind = 1 ∨ kind = 2) ∧ ∀ ns : List Int, OkRw ns → W (.tup (ns.map D.int))) ∨ (kind = 3 ∧ ∀ ps, OkPt ps → W (ptsD ps)) ∨ (kind = 4 ∧ ∀ qs, OkTb qs → W (.tup (qs.map ptsD))) ∨
    (kind = 5 ∧ ∀ k l, OkPw (k, l) → W (.tup [.int k, .int l]))
theorem Drawn.of {kind : Int} {V : D → Prop} (k0 : 0 ≤ kind) (k1 : kind < 6) (h : ∀ d t, (∀ W : Str → Prop, W t → Thing kind d W) → V d) : Drawn kind V := by
  rcases (by omega : kind = 0 ∨ kind = 1 ∨ kind = 2 ∨ kind = 3 ∨ kind = 4 ∨ kind = 5) with rfl | rfl | rfl | rfl | rfl | rfl
  · exact .inl ⟨rfl, fun p o => h _ _ fun W w => .inl ⟨rfl, p, rfl, o, w⟩⟩
  · exact .inr (.inl ⟨.inl rfl, fun p o => h _ _ fun W w => .inr (.inl ⟨rfl, p, rfl, o, w⟩)⟩)
  · exact .inr (.inl ⟨.inr rfl, fun p o => h _ _ fun W w => .inr (.inr (.inl ⟨rfl, p, rfl, o, w⟩))⟩)
  · exact .inr (.inr (.inl ⟨rfl, fun p o => h _ _ fun W w => .inr (.inr (.inr (.inl ⟨rfl, p, rfl, o, w⟩)))⟩))
  · exact .inr (.inr (.inr (.inl ⟨rfl, fun p o => h _ _ fun W w => .inr (.inr (.inr (.inr (.inl ⟨rfl, p, rfl, o, w⟩))))⟩)))
  · exact .inr (.inr (.inr (.inr ⟨rfl, fun k l o => h _ _ fun W w => .inr (.inr (.inr (.inr (.inr ⟨rfl, k, l, rfl, o, w⟩))))⟩)))
abbrev told : List (Int × Int) := [(1, 2), (-3, 1), (0, 1)]
end Z
set_option Elab.async false
set_option linter.all false
set_option maxRecDepth 100000
/-! Z11: a written dict whose keys are tuples of whole numbers, asked once. -/
namespace Z
open PySem PySem.Spec PyProof.Rows L2 RZ
/-- what is written of a dict: keys and values -/
abbrev KVs := List (List Int × Int)
section
variable {X : Cx} {pos : Pos}
def Ext (H H' : Hp) : Prop := ∀ b o, H b = some o → H' b = some o
theorem RepS.ext {K : PySem.W.Frag} {m : List Addr} {H H' : Hp} {S : Sto} (r : RepS K m H S) (h : Ext H H') (g : Grow m H m H') : RepS K m H' S :=
  ⟨r.nd, r.len, fun n ob e => by
    obtain ⟨a, q1, q2⟩ := r.at_ n ob e
    obtain ⟨u, e2⟩ := q2.some
    exact ⟨a, q1, q2.grow g ((h a u e2).trans e2.symm)⟩, fun P hP => g.tb.tab P (r.tab P hP)⟩
theorem Grow.ext {m : List Addr} {H H' : Hp} (h : Ext H H') : Grow m H m H' := ⟨fun _ _ e => e, fun b xs e => h b _ e, fun b o u e => h b _ e, fun b o e => h b _ e, fun b o e _ _ => h b o e, fun _ q n => absurd q n, TbK.ext h⟩
/-- what a written dict holds at a key, or None -/
def kvLook (kvs : KVs) (k : List Int) (o : Option Int) : Option Int := kvs.foldl (fun o kv => if k = kv.1 then some kv.2 else o) o
def kvGet (kvs : KVs) (k : List Int) : D := match kvLook kvs k none with
  | some v => .int v
  | none => .non
/-- x = {..}; return x.get(e, None) -/
abbrev wDGet (i : Nat) (kvs : KVs) (we : PE1) : PS1 := fun N r S => i < r.length ∧ we (r.set i none) S fun y S1 => match y with
  | .r (.d (.tup xs)) => match intsOf xs with
    | some k => N.rt (.d (kvGet kvs k)) S1
    | none => False
  | _ => False
end
end Z
set_option Elab.async false
set_option linter.all false
set_option maxRecDepth 100000
set_option exponentiation.threshold 20000
/-! R28: how often a turn comes back. -/
set_option Elab.async false
set_option linter.all false
set_option maxRecDepth 100000
/-! Z12: order of data, sorted, a list that a def has handed back put into a row. -/
namespace Z
open PySem PySem.Spec PyProof.Rows L2 RZ
section
variable {X : Cx}
/-- x < y of data -/
abbrev pLtD : P2 := fun x y S W => match pyOf S x, pyOf S y with
  | some d, some e => (PySem.W.alike d e = true ∧ d ≠ .none ∧ min d.depth e.depth ≤ 60) ∧ W (.r (.d (.bl (PySem.W.dataLt d e)))) S
  | _, _ => False
/-- sorted -/
def srtD (ds : List D) : List D := ds.mergeSort (PySem.W.dataLe false py)
theorem each_rep {K : PySem.W.Frag} {H : Hp} : ∀ {ds : List D} {vs : List V} {its : List Value}, RepDs K H ds vs → Vals vs its → PySem.W.EachIs (fun u d => ∃ v, RelV v u ∧ RepD K H d v) its ds
  | [], _, _, h, r => by cases h; cases r; exact .nil
  | d :: ds, _, _, ⟨v, t, e, h, q⟩, r => by
    subst e
    cases r with
    | cons r1 r2 => exact .cons ⟨v, r1, h⟩ (each_rep q r2)
theorem rep_each {K : PySem.W.Frag} {H : Hp} : ∀ {ds : List D} {its : List Value}, PySem.W.EachIs (fun u d => ∃ v, RelV v u ∧ RepD K H d v) its ds → ∃ vs, RepDs K H ds vs ∧ Vals vs its
  | [], _, .nil => ⟨[], rfl, .nil⟩
  | d :: ds, _, .cons ⟨v, r, h⟩ t => by
    obtain ⟨vs, q1, q2⟩ := rep_each t
    exact ⟨v :: vs, ⟨v, vs, rfl, h, q1⟩, .cons r q2⟩
abbrev fSorted : PF := fun xs S W => match xs with
  | [x] => match isLst x, seqOf S x with
    | true, some ds => (PySem.W.AllAlike (ds.map py) ∧ PySem.W.Sortable (ds.map py) ∧ ∀ d ∈ ds, (py d).depth ≤ 50) ∧ W (.f (srtD ds)) S
    | _, _ => False
  | _ => False
/-- a list that has just come into the store, and that nobody will write: from here on it is data -/
abbrev wFzL (w : PE1) : PE1 := fun r S W => w r S fun x S1 => match x with
  | .r (.loc n) => match S1[n]? with
    | some (.lst xs) => (S.length ≤ n ∧ n + 1 = S1.length) ∧ W (.r (.d (.lst xs))) (S1.take n)
    | _ => False
  | .f xs => W (.r (.d (.lst xs))) S1
  | .r y => W (.r y) S1
theorem take_get {α : Type} {l : List α} {n k : Nat} {x : α} (h : (l.take n)[k]? = some x) : k < n ∧ l[k]? = some x := by
  rw [List.getElem?_take] at h
  split at h
  · rename_i q; exact ⟨q, h⟩
  · cases h
theorem we_fzL {e : Expr} {we : PE1} (h : WE X e we) : WE X e (wFzL we) := by
  refine ⟨⟨fun pins s z H Q I ⟨m, r, S, W, hE, hS, hw, hf⟩ => ?_⟩⟩
  refine thn (h.pe.run pins s z H (fun v H1 => Q v H1 ∨ ∃ a vs, v = .ref a ∧ H1 a = some (.lst vs) ∧ ∀ od, Q v (upd H1 a (.frz od (.lst vs)))) I ⟨m, r, S, _, hE, hS, hw, fun x S1 v m1 H1 h1 g1 r1 q1 => ?_⟩) fun v s1 ⟨x, H1, I1, rl, q⟩ => ?_
  · cases x with
    | f xs =>
      obtain ⟨a, vs, rfl, e1, ha, h0, hd⟩ := q1
      exact .inr ⟨a, vs, rfl, e1, fun od => hf _ S1 _ m1 _ h1 (g1.frz_new h0 e1) (r1.frz ha e1) ⟨a, vs, rfl, .inl ⟨od, upd_same⟩, RepDs.keep (kt_fz e1) (kf_fz e1) xs vs hd⟩⟩
    | r y =>
      cases y with
      | d y => exact .inl (hf _ S1 v m1 H1 h1 g1 r1 q1)
      | ro y => exact .inl (hf _ S1 v m1 H1 h1 g1 r1 q1)
      | ex y => exact .inl (hf _ S1 v m1 H1 h1 g1 r1 q1)
      | ad y => exact .inl (hf _ S1 v m1 H1 h1 g1 r1 q1)
      | tr y => exact .inl (hf _ S1 v m1 H1 h1 g1 r1 q1)
      | loc n =>
        simp only at h1
        split at h1
        · rename_i xs en
          obtain ⟨⟨k1, k2⟩, w⟩ := h1
          obtain ⟨a, ha, rfl⟩ := q1
          obtain ⟨a', ha', vs, e1, hd⟩ := r1.at_ n _ en
          rw [ha] at ha'; cases ha'
          have ml : m.length = S.length := hS.len
          have m1l : m1.length = S1.length := r1.len
          have anew : a ∉ m := fun hm => by
            obtain ⟨j, hj⟩ := List.getElem?_of_mem hm
            have jl : j < m.length := (List.getElem?_eq_some_iff.mp hj).1
            have := g1.pre j a hj
            obtain ⟨l1, e2⟩ := List.getElem?_eq_some_iff.mp this
            obtain ⟨l2, e3⟩ := List.getElem?_eq_some_iff.mp ha
            have := (List.getElem_inj r1.nd).mp (e2.trans e3.symm)
            omega
          have h0 : H a = none := g1.new a (List.mem_of_getElem? ha) anew
          refine .inr ⟨a, vs, rfl, e1, fun od => ?_⟩
          have ne : ∀ b, b ∈ m1.take n → b ≠ a := fun b hb e => by
            subst e
            obtain ⟨j, hj⟩ := List.getElem?_of_mem hb
            obtain ⟨jn, hj⟩ := take_get hj
            obtain ⟨l1, e2⟩ := List.getElem?_eq_some_iff.mp hj
            obtain ⟨l2, e3⟩ := List.getElem?_eq_some_iff.mp ha
            have := (List.getElem_inj r1.nd).mp (e2.trans e3.symm)
            omega
          have G : Grow m H (m1.take n) (upd H1 a (.frz od (.lst vs))) := by
            refine ⟨fun j b hj => ?_, fun b xs' hb => kt_fz e1 b xs' (g1.tup b xs' hb), fun b o u hb => kf_fz e1 b o u (g1.frz b o u hb), fun b φ hb => by rw [upd_ne (ne_of (g1.xt b φ hb) e1 (fun q => nomatch q))]; exact g1.xt b φ hb, fun b o hb hn ht => ?_, fun b hb hn => g1.new b (List.mem_of_mem_take hb) hn, g1.tb.trans (TbK.write e1 (fun _ => (nomatch ·)) (fun _ => (nomatch ·)))⟩
            · have jl : j < m.length := (List.getElem?_eq_some_iff.mp hj).1
              rw [List.getElem?_take_of_lt (by omega)]
              exact g1.pre j b hj
            · rw [upd_ne (ne_of_none hb h0)]
              exact g1.frame b o hb hn ht
          have R' : RepS X.K (m1.take n) (upd H1 a (.frz od (.lst vs))) (S1.take n) := by
            refine ⟨(List.take_sublist n m1).nodup r1.nd, by simp [m1l], fun j ob hj => ?_, fun P hP => (TbK.write e1 (fun _ => (nomatch ·)) (fun _ => (nomatch ·))).tab P (r1.tab P hP)⟩
            obtain ⟨jn, hj⟩ := take_get hj
            obtain ⟨b, hb, ho⟩ := r1.at_ j ob hj
            refine ⟨b, by rw [List.getElem?_take_of_lt jn]; exact hb, ?_⟩
            have bn : b ≠ a := ne b (List.mem_of_getElem? (by rw [List.getElem?_take_of_lt jn]; exact hb))
            exact ho.via (fun x v => RepR.conv (fun _ _ h => h) (fun x v => RepD.keep (kt_fz e1) (kf_fz e1) x v) (kt_fz e1) (kf_fz e1) (fun b C h => by rw [upd_ne (ne_of h e1 (fun q => nomatch q))]; exact h) x v) (upd_ne bn)
          exact hf _ _ _ _ _ w G R' ⟨a, vs, rfl, .inl ⟨od, upd_same⟩, RepDs.keep (kt_fz e1) (kf_fz e1) xs vs hd⟩
        · exact h1.elim
  · rcases q with q | ⟨a, vs, rfl, e1, q⟩
    · exact ⟨x, H1, I1, rl, q⟩
    · obtain ⟨od, I2⟩ := I1.lock e1 trivial
      exact ⟨_, _, I2, rl, q od⟩
end
end Z
set_option Elab.async false
set_option linter.all false
set_option maxRecDepth 100000
/-! Z13: the lesser and the greater of two alike data. -/
namespace PySem
namespace W
end W
end PySem
namespace Z
open PySem PySem.Spec PyProof.Rows L2 RZ
section
variable {X : Cx}
abbrev fMin2D : PF := fun xs S W => match xs with
  | [.r (.d d), .r (.d e)] => (PySem.W.AlikeAll [py d, py e] ∧ (py d).depth ≤ 50 ∧ (py e).depth ≤ 50) ∧ W (.r (.d (if PySem.W.dataLt (py e) (py d) then e else d))) S
  | _ => False
abbrev fMax2D : PF := fun xs S W => match xs with
  | [.r (.d d), .r (.d e)] => (PySem.W.AlikeAll [py d, py e] ∧ (py d).depth ≤ 50 ∧ (py e).depth ≤ 50) ∧ W (.r (.d (if PySem.W.dataLt (py d) (py e) then e else d))) S
  | _ => False
end
end Z
set_option Elab.async false
set_option linter.all false
set_option maxRecDepth 100000
/-! Z14: a written dict of texts, read at once: {"x": "y", ..}[e]. -/
namespace Z
open PySem PySem.Spec PyProof.Rows L2 RZ
/-- what is written: texts by texts -/
abbrev SVs := List (Str × Str)
def svLook (kvs : SVs) (k : Str) (o : Option Str) : Option Str := kvs.foldl (fun o kv => if k = kv.1 then some kv.2 else o) o
/-- {"x": "y", ..}[e] -/
abbrev wDIx (kvs : SVs) (we : PE1) : PE1 := fun r S W => we r S fun y S1 => match y with
  | .r (.d (.str k)) => match svLook kvs k none with
    | some v => W (.r (.d (.str v))) S1
    | none => False
  | _ => False
end Z
set_option Elab.async false
set_option linter.all false
set_option maxRecDepth 100000
/-! Z15: x[::-1] of texts and tuples, the least and the greatest of a list of data. -/
namespace PySem.W
end PySem.W
namespace Z
open PySem PySem.Spec PyProof.Rows L2 RZ
/-- a text the other way about -/
def revS (x : Str) : Str := ⟨x.cps.toList.reverse.toArray⟩
section
variable {X : Cx}
/-- x[::-1] of a text or a tuple -/
abbrev wRvX (w : PE1) : PE1 := fun r S W => w r S fun x S1 => match x with
  | .r (.d (.tup xs)) => W (.r (.d (.tup xs.reverse))) S1
  | .r (.d (.str z)) => z.length ≤ 16777216 ∧ W (.r (.d (.str (revS z)))) S1
  | _ => False
theorem RepDs.rev {K : PySem.W.Frag} {H : Hp} : ∀ {ds : List D} {vs : List V}, RepDs K H ds vs → RepDs K H ds.reverse vs.reverse
  | [], _, h => by cases h; exact rfl
  | d :: ds, _, ⟨v, r, e, h, t⟩ => by
    subst e
    rw [List.reverse_cons, List.reverse_cons]
    exact RepDs.app (RepDs.rev t) ⟨v, [], rfl, h, rfl⟩
/-- min of a list of two data -/
abbrev fMin1D : PF := fun xs S W => match xs with
  | [x] => match isLst x, seqOf S x with
    | true, some [d, e] => (PySem.W.AlikeAll [py d, py e] ∧ (py d).depth ≤ 50 ∧ (py e).depth ≤ 50) ∧ W (.r (.d (if PySem.W.dataLt (py e) (py d) then e else d))) S
    | _, _ => False
  | _ => False
abbrev fMax1D : PF := fun xs S W => match xs with
  | [x] => match isLst x, seqOf S x with
    | true, some [d, e] => (PySem.W.AlikeAll [py d, py e] ∧ (py d).depth ≤ 50 ∧ (py e).depth ≤ 50) ∧ W (.r (.d (if PySem.W.dataLt (py d) (py e) then e else d))) S
    | _, _ => False
  | _ => False
end
end Z
set_option Elab.async false
set_option linter.all false
set_option maxRecDepth 100000
/-! Z16: exceptions of the program's own classes: raised, let out of a def, caught and kept. -/
namespace L2
open PySem PySem.Spec PyProof.Rows
end L2
set_option Elab.async false
set_option linter.all false
set_option maxRecDepth 100000
/-! Z18: len(set(row of whole numbers)); a row of items the other way about; two lists put together, also such that stay as they are. -/
namespace Z
open PySem PySem.Spec PyProof.Rows L2 RZ
section
variable {X : Cx} {e : Expr} {we : PE1}
/-- how many unlike ones -/
def metN (ns : List Int) : Nat := (firstMet (fun i => ns.getD i 0) ns.length).length
/-- len(set(x)) -/
abbrev wUnlike (w : PE1) : PE1 := fun r S W => w r S fun x S1 => match isLst x, seqOf S1 x with
  | true, some ds => match intsOf ds with
    | some ns => ns.length ≤ 4000 ∧ W (.r (.d (.int (metN ns : Nat)))) S1
    | none => False
  | _, _ => False
/-- x[::-1] of a list -/
abbrev wRvL (w : PE1) : PE1 := fun r S W => w r S fun x S1 => match isLst x, seqOf S1 x with
  | true, some ds => W (.f ds.reverse) S1
  | _, _ => False
theorem we_rvL {k : Nat} {p1 p2 p3 pos : Pos} (h : WE X e we) : WE X (.Subscript e (.Slice none none (some (.UnaryOp .USub (.Constant (.int 1) k p1) p2)) p3) pos) (wRvL we) :=
  ⟨peImp (pe_revL h.pe) fun s H Q ⟨m, r, S, W, hE, hS, hw, hf⟩ => up1 hE hS hw fun x S1 v m1 H1 h1 g1 r1 q1 => by
    split at h1
    · rename_i ds hl es
      obtain ⟨a, vs, rfl, k1, k2⟩ := q1.seq r1 es
      rw [if_pos hl] at k2
      exact ⟨a, vs, rfl, k2, (hf.later g1 r1).lst r1 k1.rev h1⟩
    · exact h1.elim⟩
/-- two lists, whether they may be written or not -/
def rCatQ (K : PySem.W.Frag) : R2 := fun x y H Q => ∃ a b xs ys, x = .ref a ∧ y = .ref b ∧ SqL K H a xs ∧ SqL K H b ys ∧ xs.length + ys.length ≤ sizeLine ∧ ∀ p, H p = none → Q (.ref p) (upd H p (.lst (xs ++ ys)))
theorem op_catQ : OpR X (binaryOp .Add) (rCatQ X.K) := by
  intro pins s σ H x y v u Q I rx ry h
  obtain ⟨a, b, xs, ys, rfl, rfl, ha, hb, sz, q⟩ := h
  cases rx
  cases ry
  obtain ⟨us, r1, p1, _⟩ := I.list ha
  obtain ⟨ws, r2, p2, _⟩ := I.list hb
  obtain ⟨⟨c1, d1, t1, l1⟩, o1, k1, n1, g1⟩ := p1.isList
  obtain ⟨⟨c2, d2, t2, l2⟩, o2, k2, n2, g2⟩ := p2.isList
  simp only at k1 g1 k2 g2
  subst k1 g1 k2 g2
  have e1 := r1.length
  have e2 := r2.length
  refine concat_meets ⟨_, o1, rfl⟩ ⟨_, o2, rfl⟩ noFill_list_add seq_list_add PySem.F.slot_list_add PySem.F.entry_list_add (PySem.F.args_list_add_2 _ _) (list_addW a b us.toArray ws.toArray n1 n2 d1 d2 l1 l2 (by simp only [List.size_toArray]; omega)) ⟨o1, o2, ?_⟩
  have ea : us.toArray ++ ws.toArray = (us ++ ws).toArray := by simp
  rw [ea]
  exact ⟨.ref _, _, I.lnew (t' := s.toks) (r1.append r2) (by rw [List.length_append]; omega), rfl, q _ I.fresh⟩
abbrev pCatQ : P2 := fun x y S W => match isLst x && isLst y, seqOf S x, seqOf S y with
  | true, some xs, some ys => xs.length + ys.length ≤ 16777216 ∧ W (.f (xs ++ ys)) S
  | _, _, _ => False
theorem o_catQ : OpP X (binaryOp .Add) pCatQ := by
  refine ⟨_, op_catQ, fun x y S W v u m H H0 Q r qx qy w f => ?_⟩
  unfold pCatQ at w
  split at w
  · rename_i xs ys e0 e1 e2
    rw [Bool.and_eq_true] at e0
    obtain ⟨a, vs, rfl, h1, h2⟩ := qx.seq r e1
    obtain ⟨b, us, rfl, h3, h4⟩ := qy.seq r e2
    rw [if_pos e0.1] at h2
    rw [if_pos e0.2] at h4
    exact ⟨a, b, vs, us, rfl, rfl, h2, h4, by rw [h1.len, h3.len, sizeLine_eq]; exact w.1, f.lst r (h1.app h3) w.2⟩
  · exact w.elim
end
end Z
set_option Elab.async false
set_option linter.all false
set_option maxRecDepth 100000
set_option exponentiation.threshold 20000
/-! R38: stands, the rests of their steps, calm ways looked at. -/
namespace Z
open PySem PySem.Spec PyProof.Rows L2 RZ
abbrev fsL (fs : List (List Int)) : List D := fs.map fun f => D.tup (f.map D.int)
abbrev nsL (ns : List Int) : List D := ns.map D.int
def atF (fs : List (List Int)) (i : Int) : List Int := fs.getD i.toNat []
def stQ (fs : List (List Int)) (i j : Int) : Rat := rstQ (pln (qmul (atF fs j) (pln (qbk (atF fs i)))))
def OkFs (fs : List (List Int)) : Prop := ∀ f ∈ fs, OkF f
structure OkG (f : List Int) : Prop where
  len : f.length = 4
  nz : ∃ n ∈ f, n ≠ 0
  bd : ∀ x ∈ f, Bd 400 x
theorem OkF.g {f : List Int} (o : OkF f) : OkG f := ⟨o.len, o.nz, fun x hx => (o.bd x hx).mono (by decide)⟩
def OkGs (fs : List (List Int)) : Prop := ∀ f ∈ fs, OkG f
theorem OkFs.g {fs : List (List Int)} (h : OkFs fs) : OkGs fs := fun f hf => (h f hf).g
def InP (fs : List (List Int)) (i : Int) : Prop := 0 ≤ i ∧ i < fs.length
theorem at_get {fs : List (List Int)} {i : Int} (h : InP fs i) : getI (fsL fs) i = some (.tup ((atF fs i).map D.int)) ∧ atF fs i ∈ fs := by
  obtain ⟨h0, h1⟩ := h
  have hl : i.toNat < fs.length := by omega
  have e : atF fs i = fs[i.toNat] := by unfold atF; rw [List.getD_eq_getElem?_getD, List.getElem?_eq_getElem hl]; rfl
  rw [e]
  refine ⟨?_, List.getElem_mem hl⟩
  rw [getI_of h0 (by simpa using h1), List.getElem?_map, List.getElem?_eq_getElem hl]; rfl
/-! ### places -/
instance {fs : List (List Int)} {i : Int} : Decidable (InP fs i) := by unfold InP; infer_instance
theorem prs_ints (ps qs : List Int) : prs ((nsL ps).map R.d) ((nsL qs).map R.d) = (ps.zip qs).map fun p => R.d (.tup [.int p.1, .int p.2]) := by
  induction ps generalizing qs with
  | nil => simp [prs]
  | cons p ps ih =>
    cases qs with
    | nil => simp [prs]
    | cons q qs => simp only [nsL, List.map_cons, prs, List.zip_cons_cons] at *; rw [ih]
/-! ### the least of some rests -/
/-! ### no step out of some places -/
end Z
set_option Elab.async false
set_option linter.all false
set_option maxRecDepth 100000
set_option exponentiation.threshold 20000
/-! R39: more for calm ways. -/
namespace Z
open PySem PySem.Spec PyProof.Rows L2 RZ
theorem lcL_filD {α : Type} {k : Nat} {chk : Sto → Prop} {f : R → Rho → Option Rho} {t : PT1} {w : PE1} {r : Rho} {S : Sto} {W : List D → Sto → Prop} {g : α → D} {xs : List α} (p : α → Bool) (v : α → D) (hk : S.take k = S) (hc : chk S)
    (h : ∀ x ∈ xs, ∃ r1, f (.d (g x)) r = some r1 ∧ (∀ W1 : Bool → Sto → Prop, W1 (p x) S → t r1 S W1) ∧ (p x = true → ∀ W1 : PK1, W1 (.r (.d (v x))) S → w r1 S W1)) (q : W ((xs.filter p).map v) S) :
    lcL k chk f t w r ((xs.map g).map R.d) S W := by
  induction xs generalizing W with
  | nil => exact ⟨hc, q⟩
  | cons x xs ih =>
    obtain ⟨r1, h1, h2, h3⟩ := h x (by simp)
    rw [List.map_cons, List.map_cons]
    unfold lcL
    refine ⟨hc, ?_⟩
    rw [h1]
    refine h2 _ ?_
    cases hp : p x with
    | true =>
      rw [if_pos rfl]
      refine h3 hp _ ?_
      simp only [hk]
      refine ih (fun y hy => h y (List.mem_cons_of_mem _ hy)) ?_
      rw [List.filter_cons_of_pos hp] at q
      exact q
    | false =>
      rw [if_neg (by decide), hk]
      refine ih (fun y hy => h y (List.mem_cons_of_mem _ hy)) ?_
      rw [List.filter_cons_of_neg (by simp [hp])] at q
      exact q
end Z
set_option Elab.async false
set_option linter.all false
set_option maxRecDepth 100000
/-! Z19: dicts of the store whose keys are tuples. -/
namespace Z
open PySem PySem.Spec PyProof.Rows L2
/-- a key that a dict takes -/
def keyOk (x : D) : Bool := match keyN x with
  | some k => decide (k.depth ≤ 8)
  | none => false
def getT (kvs : List (D × D)) (k : D) : Option D := (kvs.find? fun p => decide (keyN p.1 = keyN k)).map (·.2)
def putT (kvs : List (D × D)) (k v : D) : List (D × D) := if (getT kvs k).isSome then kvs.map (fun p => if keyN p.1 = keyN k then (p.1, v) else p) else kvs ++ [(k, v)]
section
variable {X : Cx} {pins : List (Addr × Obj)} {σ : L2.St} {H H1 : Hp} {s : Shared} {a b : Addr}
abbrev PX (K : PySem.W.Frag) (H : Hp) : List (D × D) → List (NestedKey × Addr × Value) → Prop :=
  Paired fun p x => keyN p.1 = some x.1 ∧ x.1.depth ≤ 8 ∧ RepD K H p.1 (.ref x.2.1) ∧ ∃ v, RelV v x.2.2 ∧ RepD K H p.2 v
theorem PX.val {K : PySem.W.Frag} {kvs : List (D × D)} {xs : List (NestedKey × Addr × Value)} {k : D} {kk : NestedKey} (h : PX K H kvs xs) (ek : keyN k = some kk) :
    (getT kvs k = none ∧ atKey xs kk = none) ∨ ∃ d p v, getT kvs k = some d ∧ atKey xs kk = some p ∧ RelV v p.2 ∧ RepD K H d v := by
  induction h with
  | nil => exact .inl ⟨rfl, rfl⟩
  | @cons p x ps xs hd tl ih =>
    obtain ⟨h1, h2, h3, v, h4, h5⟩ := hd
    by_cases e : x.1 = kk
    · refine .inr ⟨p.2, x.2, v, ?_, ?_, h4, h5⟩
      · unfold getT; rw [List.find?_cons_of_pos (by simp [h1, ek, e])]; rfl
      · unfold atKey; rw [List.find?_cons_of_pos (by simp [e])]; rfl
    · have e1 : getT (p :: ps) k = getT ps k := by unfold getT; rw [List.find?_cons_of_neg (by simp [h1, ek, e])]
      have e2 : atKey (x :: xs) kk = atKey xs kk := by unfold atKey; rw [List.find?_cons_of_neg (by simp [e])]
      rw [e1, e2]; exact ih
theorem PX.via {K : PySem.W.Frag} (f : ∀ x v, RepD K H x v → RepD K H1 x v) {kvs : List (D × D)} {xs : List (NestedKey × Addr × Value)} (h : PX K H kvs xs) : PX K H1 kvs xs :=
  Paired.mapP h fun _ _ z => let ⟨h1, h2, h3, v, h4, h5⟩ := z; ⟨h1, h2, f _ _ h3, v, h4, f _ _ h5⟩
/-! ### rules -/
/-- {} -/
abbrev wDNew : PE1 := fun r S W => W (.r (.loc S.length)) (S ++ [.dct 0 []])
/-- k in d -/
abbrev pInD (neg : Bool) : P2 := fun x y S W => match x, y with
  | .r (.d (.tup ks)), .r (.loc n) => match S[n]? with
    | some (.dct _ kvs) => keyOk (.tup ks) = true ∧ W (.r (.d (.bl (if neg then !(getT kvs (.tup ks)).isSome else (getT kvs (.tup ks)).isSome)))) S
    | _ => False
  | _, _ => False
/-- d[k] -/
abbrev pIxD : P2 := fun x y S W => match x, y with
  | .r (.loc n), .r (.d (.tup ks)) => match S[n]? with
    | some (.dct _ kvs) => match getT kvs (.tup ks) with
      | some z => keyOk (.tup ks) = true ∧ W (.r (.d z)) S
      | none => False
    | _ => False
  | _, _ => False
/-- d[k] = v -/
abbrev wDPut (wo wi we : PE1) : PS1 := fun N r S => we r S fun x S1 => wo r S1 fun o S2 => wi r S2 fun k S3 => match o, k, x with
  | .r (.loc n), .r (.d (.tup ks)), .r (.d z) => match S3[n]? with
    | some (.dct _ kvs) => (keyOk (.tup ks) = true ∧ kvs.length < 16777216) ∧ ∀ ep, N.nx r (S3.set n (.dct ep (putT kvs (.tup ks) z)))
    | _ => False
  | _, _, _ => False
/-- len(d) -/
abbrev fLenD : PF := fun xs S W => match xs with
  | [.r (.loc n)] => match S[n]? with
    | some (.dct _ kvs) => W (.r (.d (.int kvs.length))) S
    | _ => False
  | _ => False
end
end Z
set_option Elab.async false
set_option linter.all false
set_option maxRecDepth 100000
set_option exponentiation.threshold 20000
/-! R40: words over fours, dicts of fours and of words. -/
namespace Z
open PySem PySem.Spec PyProof.Rows L2 RZ
abbrev tI (ns : List Int) : D := .tup (ns.map D.int)
/-- the turn of a word -/
def trn (fs : List (List Int)) (ws : List Int) : List Int := pln (prodF (ws.map fun w => fs[w.toNat]!))
def InW (n : Nat) (ws : List Int) : Prop := ∀ w ∈ ws, 0 ≤ w ∧ w < n
instance {n : Nat} {ws : List Int} : Decidable (InW n ws) := by unfold InW; infer_instance
theorem trn_nil (fs : List (List Int)) : trn fs [] = [1, 0, 0, 0] := by
  show pln (prodF []) = _
  decide
/-! ### unlike ones -/
def insF (ks : List (List Int)) (f : List Int) : List (List Int) := if f ∈ ks then ks else ks ++ [f]
/-! ### dicts -/
/-! ### pools of turns -/
/-! ### words that are unlike -/
end Z
set_option Elab.async false
set_option linter.all false
set_option maxRecDepth 100000
/-! Z20: dicts of the store whose keys are ints and texts. -/
namespace Z
open PySem PySem.Spec PyProof.Rows L2
def keyK : D → Option Key
  | .int i => some (.inl i)
  | .str x => some (.inr x)
  | _ => none
def getK (kvs : List (Key × D)) (k : Key) : Option D := (kvs.find? fun p => decide (p.1 = k)).map (·.2)
def putD (kvs : List (Key × D)) (k : Key) (v : D) : List (Key × D) := if (kvs.any fun p => decide (p.1 = k)) = true then kvs.map (fun p => if p.1 = k then (p.1, v) else p) else kvs ++ [(k, v)]
abbrev PK (K : PySem.W.Frag) (H : Hp) : List (Key × D) → List (Key × V) → Prop := Paired (fun (p : Key × D) (q : Key × V) => q.1 = p.1 ∧ RepD K H p.2 q.2)
section
variable {K : PySem.W.Frag} {H H1 : Hp} {kvs : List (Key × D)} {ks : List (Key × V)} {k : Key} {d : D} {v : V}
theorem PK.val (h : PK K H kvs ks) (k : Key) : (getK kvs k = none ∧ valV ks k = none) ∨ ∃ d v, getK kvs k = some d ∧ valV ks k = some v ∧ RepD K H d v := by
  unfold PK at h
  induction h with
  | nil => exact .inl ⟨rfl, rfl⟩
  | @cons p q ps qs hd tl ih =>
    by_cases e : p.1 = k
    · refine .inr ⟨p.2, q.2, ?_, valV_pos (hd.1.trans e), hd.2⟩
      unfold getK; rw [List.find?_cons_of_pos (by simp [e])]; rfl
    · rw [valV_neg (by rw [hd.1]; exact e)]
      have e2 : getK (p :: ps) k = getK ps k := by unfold getK; rw [List.find?_cons_of_neg (by simp [e])]
      rw [e2]; exact ih
theorem PK.any (h : PK K H kvs ks) (k : Key) : (kvs.any fun p => decide (p.1 = k)) = ks.any fun p => decide (p.1 = k) := by
  unfold PK at h
  induction h with
  | nil => rfl
  | @cons p q ps qs hd tl ih => rw [List.any_cons, List.any_cons, ih, hd.1]
theorem PK.via (f : ∀ x v, RepD K H x v → RepD K H1 x v) (h : PK K H kvs ks) : PK K H1 kvs ks := Paired.mapP h fun _ _ z => ⟨z.1, f _ _ z.2⟩
end
section
variable {X : Cx}
/-- {} -/
abbrev wKNew : PE1 := fun r S W => W (.r (.loc S.length)) (S ++ [.dk []])
/-- {k: v} -/
abbrev wKNew1 (wk we : PE1) : PE1 := fun r S W => wk r S fun x S1 => we r S1 fun y S2 => match x, y with
  | .r (.d k), .r (.d z) => match keyK k with
    | some kk => W (.r (.loc S2.length)) (S2 ++ [.dk [(kk, z)]])
    | none => False
  | _, _ => False
/-- a dict of the store -/
theorem RepS.dk {K : PySem.W.Frag} {m : List Addr} {H : Hp} {S : Sto} {n : Nat} {kvs : List (Key × D)} {v : V} (r : RepS K m H S) (q : RepR K m H (.loc n) v) (e : S[n]? = some (.dk kvs)) : ∃ a ks, v = .ref a ∧ m[n]? = some a ∧ H a = some (.dK ks) ∧ PK K H kvs ks := by
  obtain ⟨a, h1, rfl⟩ := q
  obtain ⟨a', h2, ks, h3, h4⟩ := r.at_ n _ e
  rw [h1] at h2; cases h2
  exact ⟨a, ks, rfl, h1, h3, h4⟩
/-- k in d -/
abbrev pInK (neg : Bool) : P2 := fun x y S W => match x, y with
  | .r (.d k), .r (.loc n) => match S[n]?, keyK k with
    | some (.dk kvs), some kk => W (.r (.d (.bl (if neg then !(getK kvs kk).isSome else (getK kvs kk).isSome)))) S
    | _, _ => False
  | _, _ => False
/-- d[k] -/
abbrev pIxK : P2 := fun x y S W => match x, y with
  | .r (.loc n), .r (.d k) => match S[n]?, keyK k with
    | some (.dk kvs), some kk => match getK kvs kk with
      | some z => W (.r (.d z)) S
      | none => False
    | _, _ => False
  | _, _ => False
/-- d[k] = v -/
abbrev wKPut (wo wi we : PE1) : PS1 := fun N r S => we r S fun x S1 => wo r S1 fun o S2 => wi r S2 fun k S3 => match o, k, x with
  | .r (.loc n), .r (.d k), .r (.d z) => match S3[n]?, keyK k with
    | some (.dk kvs), some kk => kvs.length < 16777216 ∧ N.nx r (S3.set n (.dk (putD kvs kk z)))
    | _, _ => False
  | _, _, _ => False
/-- len(d) -/
abbrev fLenK : PF := fun xs S W => match xs with
  | [.r (.loc n)] => match S[n]? with
    | some (.dk kvs) => W (.r (.d (.int kvs.length))) S
    | _ => False
  | _ => False
/-- list(d) -/
def keyD : Key → D
  | .inl i => .int i
  | .inr x => .str x
abbrev fListK : PF := fun xs S W => match xs with
  | [.r (.loc n)] => match S[n]? with
    | some (.dk kvs) => W (.f (kvs.map fun p => keyD p.1)) S
    | _ => False
  | _ => False
end
end Z
set_option Elab.async false
set_option linter.all false
set_option maxRecDepth 100000
/-! Z21: tuples that hold lists of the store. -/
namespace Z
open PySem PySem.Spec PyProof.Rows L2
/-! ### a comprehension within a comprehension -/
def relab (sc S : Scope) : Scope := { sc with names := sc.names.map fun (n, k) => if (k == .free && S.kind == .function && S.names.lookup n == some .cell) then (n, .cell) else (n, k) }
theorem blkOk_in {N : List Str} {sc0 scope S : Scope} {env : Env} {own : List (Str × Nat)} (hs : env.scope = S) (h : blkC N (relab sc0 S) scope own = true) : BlkOk N (relabel sc0 env) scope own := by
  subst hs
  exact blkOk_by h
section
variable {X : Cx} {e a b : Expr} {es : List Expr} {pos : Pos} {we wa wb : PE1} {was : PA1}
/-- a new list is given its number right here -/
abbrev wNum (w : PE1) : PE1 := fun r S W => w r S fun x S1 => match x with
  | .f xs => W (.r (.loc S1.length)) (S1 ++ [.lst xs])
  | .r y => W (.r y) S1
/-- a tuple of values -/
abbrev wTupR (ws : PA1) : PE1 := fun r S W => ws r S fun xs S1 => match rsOf xs with
  | some rs => rs.length ≤ 16777216 ∧ W (.r (.tr rs)) S1
  | none => False
def getR (xs : List R) (k : Int) : Option R := if 0 ≤ k then xs[k.toNat]? else none
theorem getR_0 {a : R} {xs : List R} : getR (a :: xs) 0 = some a := rfl
theorem getR_1 {a b : R} {xs : List R} : getR (a :: b :: xs) 1 = some b := rfl
theorem getR_2 {a b c : R} {xs : List R} : getR (a :: b :: c :: xs) 2 = some c := rfl
/-- an item of a tuple of values -/
abbrev pIxT : P2 := fun x y S W => match x, y with
  | .r (.tr xs), .r (.d (.int k)) => match getR xs k with
    | some z => W (.r z) S
    | none => False
  | _, _ => False
abbrev fLenT : PF := fun xs S W => match xs with
  | [.r (.tr xs)] => W (.r (.d (.int xs.length))) S
  | _ => False
end
end Z
set_option Elab.async false
set_option linter.all false
set_option maxRecDepth 100000
set_option exponentiation.threshold 20000
/-! R41: ways from place to place, what is come to. -/
namespace Z
open PySem PySem.Spec PyProof.Rows L2 RZ
theorem rat_lt_le {a b c : Rat} (h : a < b) (k : b ≤ c) : a < c := Rat.not_le.mp fun q => absurd (Rat.le_trans k q) (Rat.not_le.mpr h)
def InN (n : Nat) (i : Int) : Prop := 0 ≤ i ∧ i < n
/-- come to by steps -/
inductive Rch (n : Nat) (E : Int → Int → Prop) (a : Int) : Int → Prop
  | refl : Rch n E a a
  | step {b c : Int} : Rch n E a b → InN n c → E b c → Rch n E a c
theorem Rch.inN {n : Nat} {E : Int → Int → Prop} {a b : Int} (h : Rch n E a b) (ha : InN n a) : InN n b := by
  cases h with
  | refl => exact ha
  | step _ k _ => exact k
theorem Rch.mono {n : Nat} {E F : Int → Int → Prop} {a b : Int} (h : Rch n E a b) (k : ∀ u v, E u v → F u v) : Rch n F a b := by
  induction h with
  | refl => exact .refl
  | step _ i e ih => exact .step ih i (k _ _ e)
theorem Rch.trans {n : Nat} {E : Int → Int → Prop} {a b c : Int} (h : Rch n E a b) (k : Rch n E b c) : Rch n E a c := by
  induction k with
  | refl => exact h
  | step _ i e ih => exact .step ih i e
theorem Rch.symm {n : Nat} {E : Int → Int → Prop} {a b : Int} (s : ∀ u v, E u v → E v u) (ha : InN n a) (h : Rch n E a b) : Rch n E b a := by
  induction h with
  | refl => exact .refl
  | @step b c h i e ih => exact (Rch.step .refl (h.inN ha) (s _ _ e)).trans ih
/-! ### places with the one ahead -/
abbrev kpK (kp : List (Int × Int)) : List Int := kp.map (·.1)
structure Part (n : Nat) (E : Int → Int → Prop) (a : Int) (kp : List (Int × Int)) : Prop where
  nd : (kpK kp).Nodup
  hd : kp[0]? = some (a, a)
  inN : ∀ k ∈ kpK kp, InN n k
  prd : ∀ (i : Nat) k p, kp[i + 1]? = some (k, p) → E p k ∧ ∃ (j : Nat) (q : Int), j < i + 1 ∧ kp[j]? = some (p, q)
section
variable {n : Nat} {E : Int → Int → Prop} {a : Int} {kp : List (Int × Int)}
theorem nodup_inN {l : List Int} (h : l.Nodup) (k : ∀ x ∈ l, InN n x) : l.length ≤ n := by
  have := h.length_le_of_subset (l₂ := (List.range n).map fun i : Nat => (i : Int)) fun x hx => by
    obtain ⟨h0, h1⟩ := k x hx
    exact List.mem_map.mpr ⟨x.toNat, List.mem_range.mpr (by omega), by omega⟩
  simpa using this
theorem Part.rch (h : Part n E a kp) : ∀ (i : Nat) k p, kp[i]? = some (k, p) → Rch n E a k := by
  intro i
  induction i using Nat.strongRecOn with
  | ind i ih =>
    intro k p e
    cases i with
    | zero => rw [h.hd] at e; cases e; exact .refl
    | succ i =>
      obtain ⟨e1, j, q, hj, e2⟩ := h.prd i k p e
      exact .step (ih j hj p q e2) (h.inN k (List.mem_map.mpr ⟨_, List.mem_of_getElem? e, rfl⟩)) e1
theorem Part.one (ha : InN n a) : Part n E a [(a, a)] := ⟨by simp, rfl, fun k hk => by simp at hk; subst hk; exact ha, fun i k p e => by simp at e⟩
end
/-! ### as a dict -/
abbrev kpD (kp : List (Int × Int)) : List (Key × D) := kp.map fun p => (Sum.inl p.1, D.int p.2)
theorem getK_kp (kp : List (Int × Int)) (k : Int) : getK (kpD kp) (.inl k) = (kp.find? fun p => decide (p.1 = k)).map fun p => D.int p.2 := by
  unfold getK
  induction kp with
  | nil => rfl
  | cons p kp ih =>
    rw [kpD, List.map_cons]
    by_cases e : p.1 = k
    · rw [List.find?_cons_of_pos (by simp [e]), List.find?_cons_of_pos (by simp [e])]; rfl
    · rw [List.find?_cons_of_neg (by simp [e]), List.find?_cons_of_neg (by simp [e])]; exact ih
theorem getK_at {kp : List (Int × Int)} (nd : (kpK kp).Nodup) {i : Nat} {k p : Int} (e : kp[i]? = some (k, p)) : getK (kpD kp) (.inl k) = some (.int p) := by
  rw [getK_kp]
  induction kp generalizing i with
  | nil => simp at e
  | cons x xs ih =>
    rw [kpK, List.map_cons, List.nodup_cons] at nd
    cases i with
    | zero => simp at e; subst e; rw [List.find?_cons_of_pos (by simp)]; rfl
    | succ i =>
      simp at e
      have hm : k ∈ kpK xs := List.mem_map.mpr ⟨_, List.mem_of_getElem? e, rfl⟩
      rw [List.find?_cons_of_neg (by simp; rintro rfl; exact nd.1 hm)]
      exact ih nd.2 e
/-! ### stands -/
theorem stQ_comm {fs : List (List Int)} (h : OkGs fs) {i j : Int} (hi : InP fs i) (hj : InP fs j) : stQ fs i j = stQ fs j i := by
  have comm : ∀ f g : List Int, OkG f → OkG g → rstQ (pln (qmul g (pln (qbk f)))) = rstQ (pln (qmul f (pln (qbk g)))) := by
    intro f g o k
    have q1 := qmul_len k.len (qbk_len o.len)
    have z1 := qmul_nz k.len (qbk_len o.len) k.nz (qbk_nz o.len o.nz)
    have q2 := qmul_len o.len (qbk_len k.len)
    have z2 := qmul_nz o.len (qbk_len k.len) o.nz (qbk_nz k.len k.nz)
    rw [pln_qmul_r k.len (qbk_len o.len) k.nz (qbk_nz o.len o.nz), pln_qmul_r o.len (qbk_len k.len) o.nz (qbk_nz k.len k.nz), rstQ_pln q1 z1, rstQ_pln q2 z2]
    have e : qmul f (qbk g) = qbk (qmul g (qbk f)) := by
      have lf := o.len
      have lg := k.len
      obtain ⟨w, x, y, z, rfl⟩ := four_of lf
      obtain ⟨p, q, r, s, rfl⟩ := four_of lg
      simp only [qmul, qbk, List.cons.injEq, and_true]
      refine ⟨?_, ?_, ?_, ?_⟩ <;> grind
    rw [e, rstQ_bk q1]
  unfold stQ
  exact comm _ _ (h _ (at_get hi).2) (h _ (at_get hj).2)
/-- the greatest rest with which one place is come to from another one -/
structure Best (n : Nat) (w : Int → Int → Rat) (one other : Int) (g : Rat) : Prop where
  rch : Rch n (fun u v => g ≤ w u v) one other
  no : ¬ Rch n (fun u v => g < w u v) one other
section
variable {n : Nat} {w : Int → Int → Rat} {one other : Int} {g k : Rat}
theorem Best.uniq (h : Best n w one other g) (q : Best n w one other k) : g = k := by
  have h1 : ¬ k < g := fun l => q.no (h.rch.mono fun u v e => rat_lt_le l e)
  have h2 : ¬ g < k := fun l => h.no (q.rch.mono fun u v e => rat_lt_le l e)
  exact Rat.le_antisymm (Rat.not_lt.mp h1) (Rat.not_lt.mp h2)
end
/-! ### calm ways -/
theorem adj {l : List Int} {z : Int × Int} : z ∈ l.zip l.tail ↔ ∃ i : Nat, l[i]? = some z.1 ∧ l[i + 1]? = some z.2 := by
  rw [List.mem_iff_getElem?]
  constructor
  · rintro ⟨i, hi⟩
    rw [List.getElem?_zip_eq_some, List.getElem?_tail] at hi
    exact ⟨i, hi⟩
  · rintro ⟨i, hi⟩
    refine ⟨i, ?_⟩
    rw [List.getElem?_zip_eq_some, List.getElem?_tail]
    exact hi
/-- the way back: each place's one ahead -/
structure Walk (kp : List (Int × Int)) (E : Int → Int → Prop) (qs : List Int) (u : Int) : Prop where
  last : qs.getLast? = some u
  mem : ∀ x ∈ qs, x ∈ kpK kp
  low : ∀ x ∈ qs, (kpK kp).idxOf u ≤ (kpK kp).idxOf x
  down : qs.Pairwise fun u v => (kpK kp).idxOf v < (kpK kp).idxOf u
  e : ∀ z ∈ qs.zip qs.tail, E z.2 z.1
theorem Walk.one {kp : List (Int × Int)} {E : Int → Int → Prop} {u : Int} (h : u ∈ kpK kp) : Walk kp E [u] u := ⟨rfl, fun x hx => by simp at hx; subst hx; exact h, fun x hx => by simp at hx; subst hx; exact Nat.le_refl _, by simp, by simp⟩
theorem idx_at {l : List Int} (nd : l.Nodup) {i : Nat} {x : Int} (h : l[i]? = some x) : l.idxOf x = i := by
  obtain ⟨hl, e⟩ := List.getElem?_eq_some_iff.mp h
  have h1 := List.idxOf_lt_length_iff.mpr (List.mem_of_getElem? h)
  have h2 : l[l.idxOf x] = x := by simp
  exact (List.getElem_inj nd).mp (h2.trans e.symm)
theorem Walk.next {n : Nat} {a : Int} {kp : List (Int × Int)} {E : Int → Int → Prop} {qs : List Int} {u : Int} (w : Walk kp E qs u) (h : Part n E a kp) (ne : u ≠ a) : ∃ p, getK (kpD kp) (.inl u) = some (.int p) ∧ Walk kp E (qs ++ [p]) p ∧ (kpK kp).idxOf p < (kpK kp).idxOf u := by
  have hu := w.mem u (List.mem_of_getLast? w.last)
  obtain ⟨⟨u', p⟩, hm, e0⟩ := List.mem_map.mp hu
  simp only at e0; subst e0
  obtain ⟨i, hi⟩ := List.getElem?_of_mem hm
  cases i with
  | zero => rw [h.hd] at hi; cases hi; exact absurd rfl ne
  | succ i =>
    obtain ⟨e1, j, q, hj, e2⟩ := h.prd i u' p hi
    have iu : (kpK kp).idxOf u' = i + 1 := idx_at h.nd (by rw [List.getElem?_map, hi]; rfl)
    have ip : (kpK kp).idxOf p = j := idx_at h.nd (by rw [List.getElem?_map, e2]; rfl)
    have pm : p ∈ kpK kp := List.mem_map.mpr ⟨_, List.mem_of_getElem? e2, rfl⟩
    refine ⟨p, getK_at h.nd hi, ⟨by simp, fun x hx => ?_, fun x hx => ?_, ?_, fun z hz => ?_⟩, by omega⟩
    · rcases List.mem_append.mp hx with q | q
      · exact w.mem x q
      · simp at q; subst q; exact pm
    · rcases List.mem_append.mp hx with q | q
      · have := w.low x q; omega
      · simp at q; subst q; exact Nat.le_refl _
    · rw [List.pairwise_append]
      refine ⟨w.down, by simp, fun x hx y hy => ?_⟩
      simp at hy; subst hy
      have := w.low x hx; omega
    · obtain ⟨k, h1, h2⟩ := adj.mp hz
      by_cases hk : k + 1 < qs.length
      · rw [List.getElem?_append_left (by omega)] at h1
        rw [List.getElem?_append_left hk] at h2
        exact w.e z (adj.mpr ⟨k, h1, h2⟩)
      · have l2 := (List.getElem?_eq_some_iff.mp h2).1
        simp only [List.length_append, List.length_cons, List.length_nil] at l2
        have ek : k + 1 = qs.length := by omega
        rw [ek, List.getElem?_append_right (Nat.le_refl _)] at h2
        simp at h2
        rw [List.getElem?_append_left (by omega)] at h1
        have := w.last
        rw [List.getLast?_eq_getElem?, show qs.length - 1 = k by omega, h1] at this
        cases this
        rw [← h2]
        exact e1
/-! ### sorted whole numbers -/
theorem Walk.len {fs : List (List Int)} {E : Int → Int → Prop} {a u : Int} {kp : List (Int × Int)} {qs : List Int} (w : Walk kp E qs u) (h : Part fs.length E a kp) : qs.length ≤ fs.length :=
  nodup_inN (w.down.imp fun h e => by subst e; omega) fun x hx => h.inN x (w.mem x hx)
/-- the fraction that is told of two places -/
def FarP (fs : List (List Int)) (p : Int × Int) (q : Rat) : Prop := if p.1 = p.2 then q = 1 else Best fs.length (stQ fs) p.1 p.2 q
theorem FarP.uniq {fs : List (List Int)} {p : Int × Int} {q k : Rat} (h : FarP fs p q) (g : FarP fs p k) : q = k := by
  unfold FarP at h g
  by_cases e : p.1 = p.2
  · rw [if_pos e] at h g; rw [h, g]
  · rw [if_neg e] at h g; exact h.uniq g
theorem depth_fs : ∀ fs : List (List Int), PyData.depthAll (pys (fsL fs)) ≤ 10 := by
  intro fs
  induction fs with
  | nil => simp [pys, PyData.depthAll]
  | cons f fs ih =>
    have := depth_ints f
    simp only [fsL, List.map_cons, pys, PyData.depthAll, py, PyData.depth] at ih ⊢
    omega
end Z
set_option Elab.async false
set_option linter.all false
set_option maxRecDepth 100000
set_option exponentiation.threshold 20000
/-! R42: the same rests of other stands. -/
namespace Z
open PySem PySem.Spec PyProof.Rows L2 RZ
/-! ### other lists of stands -/
theorem Rch.map {n m : Nat} {E F : Int → Int → Prop} {a b : Int} (φ : Int → Int) (h : Rch n E a b) (ha : InN n a) (i : ∀ v, InN n v → InN m (φ v)) (e : ∀ u v, InN n u → InN n v → E u v → F (φ u) (φ v)) : Rch m F (φ a) (φ b) := by
  induction h with
  | refl => exact .refl
  | step h k q ih => exact .step ih (i _ k) (e _ _ (h.inN ha) k q)
theorem Best.map {n : Nat} {w x : Int → Int → Rat} {a b : Int} {g : Rat} (φ : Int → Int) (h : Best n w a b g) (ha : InN n a) (i : ∀ v, InN n v → InN n (φ v)) (inv : ∀ v, InN n v → φ (φ v) = v) (e : ∀ u v, InN n u → InN n v → x (φ u) (φ v) = w u v) : Best n x (φ a) (φ b) g := by
  have e' : ∀ u v, InN n u → InN n v → w (φ u) (φ v) = x u v := fun u v iu iv => by
    have := e (φ u) (φ v) (i u iu) (i v iv)
    rw [inv u iu, inv v iv] at this
    exact this.symm
  have ib := h.rch.inN ha
  refine ⟨h.rch.map φ ha i fun u v iu iv q => by rw [e u v iu iv]; exact q, fun q => h.no ?_⟩
  have := q.map φ (i a ha) i (F := fun u v => g < w u v) fun u v iu iv q => by rw [e' u v iu iv]; exact q
  rw [inv a ha, inv b ib] at this
  exact this
theorem FarP.swap {fs : List (List Int)} {a b : Int} {q : Rat} (ok : OkGs fs) (h : FarP fs (a, b) q) (ia : InP fs a) (ib : InP fs b) : FarP fs (b, a) q := by
  unfold FarP at *
  simp only at *
  by_cases he : a = b
  · rw [if_pos he] at h; rw [if_pos he.symm]; exact h
  · rw [if_neg he] at h; rw [if_neg (fun z => he z.symm)]
    have sy : ∀ (f : Rat → Prop), (∀ u v, InP fs u → InP fs v → f (stQ fs u v) → f (stQ fs v u)) := fun f u v iu iv q => by rw [stQ_comm ok iv iu]; exact q
    have rv : ∀ (f : Rat → Prop) x y, InP fs x → Rch fs.length (fun u v => f (stQ fs u v)) x y → Rch fs.length (fun u v => f (stQ fs u v)) y x := by
      intro f x y ix r
      induction r with
      | refl => exact .refl
      | @step c d r i e ih => exact (Rch.step .refl (r.inN ix) (sy f c d (r.inN ix) i e)).trans ih
    exact ⟨rv (fun x => q ≤ x) a b ia h.rch, fun r => h.no (rv (fun x => q < x) b a ib r)⟩
theorem atF_rev {fs : List (List Int)} {i : Int} (hi : InP fs i) : atF fs.reverse (fs.length - 1 - i) = atF fs i := by
  obtain ⟨h0, h1⟩ := hi
  have hl : i.toNat < fs.length := by omega
  unfold atF
  rw [List.getD_eq_getElem?_getD, List.getD_eq_getElem?_getD]
  have e : ((fs.length : Int) - 1 - i).toNat = fs.length - 1 - i.toNat := by omega
  rw [e, List.getElem?_reverse (by omega)]
  congr 2
  omega
theorem FarP.rev {fs : List (List Int)} {a b : Int} {q : Rat} (h : FarP fs (a, b) q) (ia : InP fs a) (ib : InP fs b) : FarP fs.reverse ((fs.length : Int) - 1 - a, (fs.length : Int) - 1 - b) q := by
  unfold FarP at *
  simp only at *
  by_cases he : a = b
  · rw [if_pos he] at h; rw [if_pos (by rw [he])]; exact h
  · rw [if_neg he] at h; rw [if_neg (by omega), List.length_reverse]
    refine h.map (fun v => (fs.length : Int) - 1 - v) ia (fun v ⟨v0, v1⟩ => ⟨by omega, by omega⟩) (fun v _ => by omega) fun u v iu iv => ?_
    unfold stQ
    rw [atF_rev iu, atF_rev iv]
end Z
set_option Elab.async false
set_option linter.all false
set_option maxRecDepth 100000
set_option exponentiation.threshold 20000
/-! R43: all ways, lots. -/
namespace Z
open PySem PySem.Spec PyProof.Rows L2 RZ
/-! ### a rest is from 0 to 1 -/
/-! ### all ways of unlike places -/
def extW (n : Nat) (ps : List Int) : List (List Int) := ((List.range n).filter fun j : Nat => decide ((j : Int) ∉ ps)).map fun j : Nat => ps ++ [(j : Int)]
def grow (n : Nat) (K : List (List Int)) : List (List Int) := K.flatMap (extW n)
/-! ### sorted whole numbers -/
/-! ### lots -/
open Classical in
/-- the places that are come to from a, rising -/
noncomputable def cls (n : Nat) (E : Int → Int → Prop) (a : Int) : List Int := ((List.range n).filter fun j : Nat => decide (Rch n E a (j : Int))).map fun j : Nat => (j : Int)
end Z
set_option Elab.async false
set_option linter.all false
set_option maxRecDepth 100000
/-! Z22: enumerate; a written dict of one tuple; sorted(d), list(d.values()) of dicts whose keys are tuples. -/
namespace Z
open PySem PySem.Spec PyProof.Rows L2 RZ
section
variable {X : Cx} {e a b : Expr} {es : List Expr} {pos : Pos} {we wa wb : PE1} {was ws : PA1}
/-! ### enumerate -/
def enR (k : Nat) : List R → List R
  | [] => []
  | .d x :: xs => .d (.tup [.int (k : Nat), x]) :: enR (k + 1) xs
  | x :: xs => x :: enR (k + 1) xs
abbrev wEnum (ws : PA1) : PI1 := fun r S W => ws r S fun xs S1 => match xs with
  | [x] => match itOf S1 x with
    | some it => (isLst x = true ∧ allD it.items = true) ∧ W ⟨enR 0 it.items, it.chk⟩ S1
    | none => False
  | _ => False
/-! ### {k: v}, k a tuple -/
abbrev wDNew1 (wk we : PE1) : PE1 := fun r S W => wk r S fun x S1 => we r S1 fun y S2 => match x, y with
  | .r (.d (.tup ks)), .r (.d z) => keyOk (.tup ks) = true ∧ ∀ ep, W (.r (.loc S2.length)) (S2 ++ [.dct ep [(.tup ks, z)]])
  | _, _ => False
/-! ### what a dict holds, as a new list -/
abbrev fSortX : PF := fun xs S W => match xs with
  | [.r (.loc n)] => match S[n]? with
    | some (.dct _ kvs) => (PySem.W.AllAlike ((kvs.map (·.1)).map py) ∧ PySem.W.Sortable ((kvs.map (·.1)).map py) ∧ ∀ d ∈ kvs.map (·.1), (py d).depth ≤ 50) ∧ W (.f (srtD (kvs.map (·.1)))) S
    | _ => False
  | _ => False
abbrev wVals (wo : PE1) : PE1 := fun r S W => wo r S fun x S1 => match x with
  | .r (.loc n) => match S1[n]? with
    | some (.dct _ kvs) => W (.f (kvs.map (·.2))) S1
    | _ => False
  | _ => False
end
end Z
set_option Elab.async false
set_option linter.all false
set_option maxRecDepth 100000
set_option exponentiation.threshold 20000
/-! R44: all turns that some turns lead to, told in order; groups of turns. -/
namespace Z
open PySem PySem.Spec PyProof.Rows L2 RZ
abbrev Fo := List Int
/-- the new ones of a turn -/
def addN (c : Fo) (fs ws : List Fo) : List Fo := fs.foldl (fun ws f => insF ws (pln (qmul f c))) ws
def stp (fs : List Fo) : Nat → List Fo
  | 0 => [[1, 0, 0, 0]]
  | n + 1 => if n < (stp fs n).length then addN ((stp fs n)[n]!) fs (stp fs n) else stp fs n
/-! ### with words -/
abbrev Wo := List (Fo × List Int)
abbrev fstW (ps : Wo) : List Fo := ps.map (·.1)
structure Pw (fs : List Fo) (n : Nat) (ps : Wo) : Prop where
  nd : (fstW ps).Nodup
  wd : ∀ (i : Nat) p, ps[i]? = some p → InW fs.length p.2 ∧ p.2.length ≤ i ∧ p.2.length ≤ n ∧ trn fs p.2 = p.1
theorem Pw.mono {fs : List Fo} {m n : Nat} {ps : Wo} (h : Pw fs m ps) (k : m ≤ n) : Pw fs n ps := ⟨h.nd, fun i p e => let ⟨a, b, c, d⟩ := h.wd i p e; ⟨a, b, Nat.le_trans c k, d⟩⟩
theorem Pw.mem {fs : List Fo} {n : Nat} {ps : Wo} (h : Pw fs n ps) {f : Fo} (hf : f ∈ fstW ps) : ∃ w, InW fs.length w ∧ w.length ≤ n ∧ trn fs w = f := by
  obtain ⟨p, hp, rfl⟩ := List.mem_map.mp hf
  obtain ⟨i, hi⟩ := List.getElem?_of_mem hp
  obtain ⟨a, _, c, d⟩ := h.wd i p hi
  exact ⟨p.2, a, c, d⟩
theorem Pw.start (fs : List Fo) : Pw fs 0 [([1, 0, 0, 0], [])] := ⟨by simp, fun i p e => by
  cases i with
  | zero => cases e; exact ⟨fun w hw => by simp at hw, by simp, by simp, trn_nil fs⟩
  | succ i => simp at e⟩
theorem Pw.add {fs : List Fo} {n : Nat} {ps : Wo} (h : Pw fs n ps) {f : Fo} {w : List Int} (hf : f ∉ fstW ps) (h1 : InW fs.length w) (h2 : w.length ≤ ps.length) (h3 : w.length ≤ n) (h4 : trn fs w = f) : Pw fs n (ps ++ [(f, w)]) := by
  refine ⟨?_, fun i p e => ?_⟩
  · unfold fstW
    rw [List.map_append, List.nodup_append]
    refine ⟨h.nd, by simp, fun a ha b hb => ?_⟩
    simp at hb; subst hb
    rintro rfl; exact hf ha
  · by_cases hi : i < ps.length
    · rw [List.getElem?_append_left hi] at e; exact h.wd i p e
    · rw [List.getElem?_append_right (by omega)] at e
      by_cases h0 : i = ps.length
      · subst h0; simp at e; subst e; exact ⟨h1, h2, h3, h4⟩
      · rw [List.getElem?_eq_none (by simp; omega)] at e; cases e
/-- within a turn: j of the turns were set behind the one at a -/
structure Inn (fs : List Fo) (a j : Nat) (ps : Wo) : Prop where
  eq : fstW ps = addN ((stp fs a)[a]!) (fs.take j) (stp fs a)
  pw : Pw fs (a + 1) ps
  lt : a < (stp fs a).length
theorem Inn.start {fs : List Fo} {a : Nat} {ps : Wo} (e : fstW ps = stp fs a) (h : Pw fs a ps) (k : a < ps.length) : Inn fs a 0 ps := ⟨by rw [e]; rfl, h.mono (by omega), by rw [← e, List.length_map]; exact k⟩
theorem Inn.done {fs : List Fo} {a : Nat} {ps : Wo} (h : Inn fs a fs.length ps) : fstW ps = stp fs (a + 1) := by
  rw [h.eq, List.take_length, stp, if_pos h.lt]
/-- the one at a, and what comes next -/
structure Nxt (fs : List Fo) (a j : Nat) (ps : Wo) (c : Fo) (w : List Int) : Prop where
  at_ : ps[a]? = some (c, w)
  iw : InW fs.length w
  le : w.length ≤ a
  len : c.length = 4
  nz : ∃ x ∈ c, x ≠ 0
  bd : ∀ x ∈ c, Bd (103 * a + 1) x
  old : pln (qmul fs[j]! c) ∈ fstW ps → Inn fs a (j + 1) ps
  new : pln (qmul fs[j]! c) ∉ fstW ps → Inn fs a (j + 1) (ps ++ [(pln (qmul fs[j]! c), w ++ [(j : Int)])])
theorem Nxt.get {fs : List Fo} {a j : Nat} {ps : Wo} {c : Fo} {w : List Int} (h : Nxt fs a j ps c w) : getI (fsL (fstW ps)) (a : Int) = some (.tup (c.map D.int)) := by
  have lo : a < ps.length := (List.getElem?_eq_some_iff.mp h.at_).1
  have e := (List.getElem?_eq_some_iff.mp h.at_).2
  rw [getI_of (by omega) (by simpa using lo), Int.toNat_natCast, List.getElem?_map, List.getElem?_map, h.at_]; rfl
/-! ### the words themselves -/
/-! ### order of fours -/
/-! ### the groups of the pools -/
/-- these lead to 24 turns at most -/
def Few (fs : List Fo) : Prop := ∃ G : List Fo, G.length ≤ 24 ∧ (∀ w, InW fs.length w → trn fs w ∈ G) ∧ ∀ g ∈ G, ∀ x ∈ g, Bd 90 x
theorem Few.len {fs : List Fo} (h : Few fs) {n : Nat} {ps : Wo} (p : Pw fs n ps) : ps.length ≤ 24 := by
  obtain ⟨G, h1, h2, _⟩ := h
  have : (fstW ps).length ≤ G.length := List.Nodup.length_le_of_subset p.nd fun f hf => by
    obtain ⟨w, a, _, c⟩ := p.mem hf
    rw [← c]; exact h2 w a
  rw [List.length_map] at this
  omega
/-! ### sorted fours -/
/-! ### promises -/
end Z
set_option Elab.async false
set_option linter.all false
set_option maxRecDepth 100000
/-! Z23: list.clear, list.count. -/
namespace Z
open PySem PySem.Spec PyProof.Rows L2 RZ
section
variable {X : Cx} {e : Expr} {pos : Pos} {we : PE1}
/-- xs.clear() -/
abbrev wClr (wo : PE1) : PE1 := fun r S W => wo r S fun x S1 => match x with
  | .r (.loc n) => isLo S1 n = true ∧ W (.r (.d .non)) (S1.set n (.lst []))
  | _ => False
/-- xs.count(k), whole numbers -/
abbrev wCntL (wo we : PE1) : PE1 := fun r S W => wo r S fun x S1 => match isLst x, seqOf S1 x with
  | true, some _ => we r S1 fun y S2 => match y with
    | .r (.d (.int k)) => match seqOf S2 x with
      | some xs => match intsOf xs with
        | some ns => W (.r (.d (.int (ns.count k : Nat)))) S2
        | none => False
      | none => False
    | _ => False
  | _, _ => False
end
end Z
set_option Elab.async false
set_option linter.all false
set_option maxRecDepth 100000
/-! Z24: for k in d (keys are tuples), d.get(k, c), sorted(d.items()) (keys are whole numbers or texts). -/
namespace Z
open PySem PySem.Spec PyProof.Rows L2 RZ
/-! ### for k in d -/
section
variable {X : Cx} {tg e : Expr} {pos : Pos} {we : PE1}
abbrev wItX (w : PE1) : PI1 := fun r S W => w r S fun x S1 => match x with
  | .r (.loc n) => match S1[n]? with
    | some (.dct ep kvs) => W ⟨kvs.map (fun p => R.d p.1), fun S => S[n]? = some (.dct ep kvs)⟩ S1
    | _ => False
  | _ => False
/-! ### d.get(k, c) -/
abbrev wGetK (wo wk wc : PE1) : PE1 := fun r S W => wo r S fun x S1 => match x with
  | .r (.loc n) => match S1[n]? with
    | some (.dk _) => wk r S1 fun y S2 => wc r S2 fun z S3 => match y, z with
      | .r (.d k), .r (.d c) => match S3[n]?, keyK k with
        | some (.dk kvs), some kk => W (.r (.d ((getK kvs kk).getD c))) S3
        | _, _ => False
      | _, _ => False
    | _ => False
  | _ => False
/-! ### sorted(d.items()) -/
abbrev pairsD (kvs : List (Key × D)) : List D := kvs.map fun p => .tup [keyD p.1, p.2]
abbrev wItemsS (wo : PE1) : PE1 := fun r S W => wo r S fun x S1 => match x with
  | .r (.loc n) => match S1[n]? with
    | some (.dk kvs) => (PySem.W.AllAlike ((pairsD kvs).map py) ∧ PySem.W.Sortable ((pairsD kvs).map py) ∧ ∀ d ∈ pairsD kvs, (py d).depth ≤ 50) ∧ W (.f (srtD (pairsD kvs))) S1
    | _ => False
  | _ => False
end
end Z
set_option Elab.async false
set_option linter.all false
set_option maxRecDepth 100000
set_option exponentiation.threshold 20000
/-! R45: groups of turns looked at. -/
namespace Z
open PySem PySem.Spec PyProof.Rows L2 RZ
/-! ### the first ones of their kind -/
/-! ### points in dicts -/
def BP (p : Pt) : Prop := ∀ q ∈ qsOf p, BQ 600 q
theorem BP.tb {p : Pt} (h : BP p) {a : Fo} (o : OkF a) : TB a p := ⟨100, 2400, by decide, o.bd, PtB.of (h _ (by simp [qsOf])) (h _ (by simp [qsOf])) (h _ (by simp [qsOf]))⟩
def stay (fs : List Fo) (p : Pt) : List Fo := (fs.filter fun f => decide (rot f p = p)).map pln
end Z
set_option Elab.async false
set_option linter.all false
set_option maxRecDepth 100000
set_option maxHeartbeats 1000000
/-! Z25: zip of a tuple and a list. -/
namespace Z
open PySem PySem.Spec PyProof.Rows L2 RZ
section
variable {prog : Program} {w : World} {A : Around} {E : Value → Shared → Prop} {s : Shared}
theorem zipM_next_item {zA tI tO i1 i2 l1 l2 : Addr} {k1 k2 : Nat} {xs ys : Array Value} {x y a b : Value} {Q : Value → Shared → Prop} (AP : ZipApart zA tI tO i1 i2 l1 l2)
    (jz : IsZip s.heap zA tI tO .none) (jI : IsPair s.heap tI (.ref i1) (.ref i2)) (jO : IsPair s.heap tO a b)
    (j1 : s.heap.IsTupleIter i1 l1 k1) (j2 : s.heap.IsListIter i2 l2 k2) (jl1 : s.heap.IsTuple l1 xs) (jl2 : s.heap.IsList l2 ys) (jx : xs[k1]? = some x) (jy : ys[k2]? = some y)
    (jQ : ∀ h', IsZip h' zA tI tO (rawInt s.heap.objs.size) → IsPair h' tO x y → h'.IsTupleIter i1 l1 (k1 + 1) → h'.IsListIter i2 l2 (k2 + 1) → IsPair h' s.heap.objs.size x y → h'.objs.size = s.heap.objs.size + 1 →
      (∀ c o, c ≠ zA → c ≠ tO → c ≠ i1 → c ≠ i2 → s.heap.get? c = some o → h'.get? c = some o) → Q (.ref s.heap.objs.size) { s with heap := h' }) :
    wpAny (model prog w) A (Builtin.«zip.__next__» ⟨[.ref zA], []⟩) (fun fin s' => ∃ v, fin = .done (.ret v) ∧ Q v s') E s := by
  show wpAny _ _ (field (.ref zA) 2 >>= _) _ _ _
  refine wpAny_bind (wpAny_field jz rfl (x := .bool false) rfl ?_)
  show wpAny _ _ (field (.ref zA) 3 >>= _) _ _ _
  refine wpAny_bind (wpAny_field jz rfl (x := .ref tI) rfl ?_)
  refine wpAny_bind (wpAny_seqItems jI rfl ?_)
  show wpAny _ _ (Builtin.SmallTypes.ownedTupleIsFree (.ref zA) >>= _) _ _ _
  refine wpAny_bind ?_
  unfold Builtin.SmallTypes.ownedTupleIsFree
  refine wpAny_bind (wpAny_field jz rfl (x := .none) rfl (wpAny_pure ?_))
  simp only [if_true]
  refine wpAny_bind (wpAny_rule ?_)
  refine wpAny_bind (wpAny_field jz rfl (x := .ref tO) rfl ?_)
  refine wpAny_bind (wpAny_setField_rec jz (by simp) fun ka za sa => ?_)
  replace za : IsZip ka zA tI tO .ellipsis := za
  refine wpAny_bind ?_
  simp only [List.zipIdx_cons, List.zipIdx_nil, List.forIn_cons, List.forIn_nil]

  refine wpAny_bind (wpAny_bind (wpAny_onRaise ?_))
  show wpAny _ _ (Builtin.SmallTypes.nextOf (.ref i1) >>= _) _ _ _
  refine wpAny_bind (nextOf_tuple_item (j1.extBut sa.extBut AP.i1z) (jl1.extBut sa.extBut AP.l1z) jx fun kb jb1 sb => wpAny_pure ?_)
  have ob : IsPair kb tO a b := sb.extBut _ _ AP.TOi1 (sa.extBut _ _ AP.TOz jO)
  refine wpAny_bind (wpAny_seqItems ob rfl ?_)
  refine wpAny_bind (wpAny_updateSeq_pair ob fun kc oc sc => ?_)
  replace oc : IsPair kc tO x b := oc
  refine wpAny_bind (wpAny_letGo (wpAny_pure ?_))

  refine wpAny_bind (wpAny_bind (wpAny_onRaise ?_))
  show wpAny _ _ (Builtin.SmallTypes.nextOf (.ref i2) >>= _) _ _ _
  refine wpAny_bind (wpAny_nextOf_list_item (((j2.extBut sa.extBut AP.i2z).extBut sb.extBut AP.i12.symm).extBut sc.extBut AP.TOi2.symm)
    (((jl2.extBut sa.extBut AP.l2z).extBut sb.extBut AP.l2i1).extBut sc.extBut AP.l2TO) jy fun kd jd2 sd => wpAny_pure ?_)
  have od : IsPair kd tO x b := sd.extBut _ _ AP.TOi2 oc
  refine wpAny_bind (wpAny_seqItems od rfl ?_)
  refine wpAny_bind (wpAny_updateSeq_pair od fun ke oe se => ?_)
  replace oe : IsPair ke tO x y := oe
  refine wpAny_bind (wpAny_letGo (wpAny_pure (wpAny_pure ?_)))

  refine wpAny_bind (wpAny_seqItems oe rfl ?_)
  refine wpAny_bind (wpAny_newTuple ?_)
  have wsz : ke.objs.size = s.heap.objs.size := by rw [se.1, sd.1, sc.1, sb.1, sa.1]
  have ze : IsZip ke zA tI tO .ellipsis := se.extBut _ _ AP.TOz.symm (sd.extBut _ _ AP.i2z.symm (sc.extBut _ _ AP.TOz.symm (sb.extBut _ _ AP.i1z.symm za)))
  have kk5 : ∀ c o, c ≠ zA → c ≠ tO → c ≠ i1 → c ≠ i2 → s.heap.get? c = some o → ke.get? c = some o := fun c o c1 c2 c3 c4 e =>
    se.extBut _ _ c2 (sd.extBut _ _ c4 (sc.extBut _ _ c2 (sb.extBut _ _ c3 (sa.extBut _ _ c1 e))))
  have je1 : ke.IsTupleIter i1 l1 (k1 + 1) := ((jb1.extBut sc.extBut AP.TOi1.symm).extBut sd.extBut AP.i12).extBut se.extBut AP.TOi1.symm
  have je2 : ke.IsListIter i2 l2 (k2 + 1) := jd2.extBut se.extBut AP.TOi2.symm
  have zlt : zA < ke.objs.size := Heap.lt_size ze
  have Olt : tO < ke.objs.size := Heap.lt_size oe
  have i1lt : i1 < ke.objs.size := by obtain ⟨_, e, _⟩ := je1; exact Heap.lt_size e
  have i2lt : i2 < ke.objs.size := by obtain ⟨_, e, _⟩ := je2; exact Heap.lt_size e
  show wpAny _ _ (Builtin.SmallTypes.ownedTupleHandOut (.ref zA) (.ref ke.objs.size) >>= _) _ _ _
  refine wpAny_bind ?_
  unfold Builtin.SmallTypes.ownedTupleHandOut
  have zf : IsZip (ke.push { cls := .type "tuple", data := .seq #[x, y] }) zA tI tO .ellipsis := Heap.get?_push_of_some _ ze
  refine wpAny_bind (wpAny_setField_rec zf (by simp) fun kg zg sg => ?_)
  replace zg : IsZip kg zA tI tO (rawInt ke.objs.size) := zg
  refine wpAny_setField_rec zg (by simp) fun kh zh sh => ?_
  replace zh : IsZip kh zA tI tO (rawInt ke.objs.size) := zh
  have up : ∀ c o, c ≠ zA → ke.get? c = some o → kh.get? c = some o := fun c o c1 e => sh.extBut _ _ c1 (sg.extBut _ _ c1 (Heap.get?_push_of_some _ e))
  have th : IsPair kh ke.objs.size x y := sh.extBut _ _ (Nat.ne_of_gt zlt) (sg.extBut _ _ (Nat.ne_of_gt zlt) (Heap.get?_push_size _ rfl))
  have zs8 : kh.objs.size = ke.objs.size + 1 := by rw [sh.1, sg.1, Heap.size_push]
  rw [wsz] at zh th zs8
  refine wpAny_pure ⟨_, rfl, ?_⟩
  show Q (.ref ke.objs.size) _
  rw [wsz]
  exact jQ kh zh (up _ _ AP.TOz oe) (je1.at fun o e => up _ o AP.i1z e) (je2.at fun o e => up _ o AP.i2z e) th zs8 fun c o c1 c2 c3 c4 e => up c o c1 (kk5 c o c1 c2 c3 c4 e)
theorem zipM_next_end {zA tI tO i1 i2 l1 l2 : Addr} {k1 k2 : Nat} {xs ys : Array Value} {a b : Value} {Q : PySem.Fin → Shared → Prop} (jh : A.handled = none) (AP : ZipApart zA tI tO i1 i2 l1 l2)
    (jz : IsZip s.heap zA tI tO .none) (jI : IsPair s.heap tI (.ref i1) (.ref i2)) (jO : IsPair s.heap tO a b)
    (j1 : s.heap.IsTupleIter i1 l1 k1) (j2 : s.heap.IsListIter i2 l2 k2) (jl1 : s.heap.IsTuple l1 xs) (jl2 : s.heap.IsList l2 ys) (jend : xs[k1]? = none ∨ ys[k2]? = none)
    (jE : ∀ h' e, (∀ c o, c ≠ zA → c ≠ tO → c ≠ i1 → c ≠ i2 → s.heap.get? c = some o → h'.get? c = some o) → (∃ o, h'.get? e = some o ∧ o.cls = .type "StopIteration") → E (.ref e) { s with heap := h' }) :
    wpAny (model prog w) A (Builtin.«zip.__next__» ⟨[.ref zA], []⟩) Q E s := by
  show wpAny _ _ (field (.ref zA) 2 >>= _) _ _ _
  refine wpAny_bind (wpAny_field jz rfl (x := .bool false) rfl ?_)
  show wpAny _ _ (field (.ref zA) 3 >>= _) _ _ _
  refine wpAny_bind (wpAny_field jz rfl (x := .ref tI) rfl ?_)
  refine wpAny_bind (wpAny_seqItems jI rfl ?_)
  show wpAny _ _ (Builtin.SmallTypes.ownedTupleIsFree (.ref zA) >>= _) _ _ _
  refine wpAny_bind ?_
  unfold Builtin.SmallTypes.ownedTupleIsFree
  refine wpAny_bind (wpAny_field jz rfl (x := .none) rfl (wpAny_pure ?_))
  simp only [if_true]
  refine wpAny_bind (wpAny_rule ?_)
  refine wpAny_bind (wpAny_field jz rfl (x := .ref tO) rfl ?_)
  refine wpAny_bind (wpAny_setField_rec jz (by simp) fun ka za sa => ?_)
  replace za : IsZip ka zA tI tO .ellipsis := za
  refine wpAny_bind ?_
  simp only [List.zipIdx_cons, List.zipIdx_nil, List.forIn_cons, List.forIn_nil]
  refine wpAny_bind (wpAny_bind (wpAny_onRaise ?_))
  show wpAny _ _ (Builtin.SmallTypes.nextOf (.ref i1) >>= _) _ _ _
  cases jx : xs[k1]? with
  | none =>
    refine wpAny_bind (nextOf_tuple_end jh (j1.extBut sa.extBut AP.i1z) (jl1.extBut sa.extBut AP.l1z) jx fun kb e sb he => ?_)
    obtain ⟨oe, he1, he2⟩ := he
    have zb : IsZip kb zA tI tO .ellipsis := sb _ _ AP.i1z.symm za
    have ez : e ≠ zA := fun x => by subst x; rw [zb] at he1; cases he1; simp at he2
    refine wpAny_setField_rec zb (by simp) fun kc _ sc => jE kc e (fun c o c1 _ c3 _ x => sc.extBut _ _ c1 (sb _ _ c3 (sa.extBut _ _ c1 x))) ⟨oe, sc.extBut _ _ ez he1, he2⟩
  | some x =>
    have jy : ys[k2]? = none := by rcases jend with h | h; rw [jx] at h; cases h; exact h
    refine wpAny_bind (nextOf_tuple_item (j1.extBut sa.extBut AP.i1z) (jl1.extBut sa.extBut AP.l1z) jx fun kb jb1 sb => wpAny_pure ?_)
    have ob : IsPair kb tO a b := sb.extBut _ _ AP.TOi1 (sa.extBut _ _ AP.TOz jO)
    refine wpAny_bind (wpAny_seqItems ob rfl ?_)
    refine wpAny_bind (wpAny_updateSeq_pair ob fun kc oc sc => ?_)
    refine wpAny_bind (wpAny_letGo (wpAny_pure ?_))
    refine wpAny_bind (wpAny_bind (wpAny_onRaise ?_))
    show wpAny _ _ (Builtin.SmallTypes.nextOf (.ref i2) >>= _) _ _ _
    refine wpAny_bind (wpAny_nextOf_list_end jh (((j2.extBut sa.extBut AP.i2z).extBut sb.extBut AP.i12.symm).extBut sc.extBut AP.TOi2.symm)
      (((jl2.extBut sa.extBut AP.l2z).extBut sb.extBut AP.l2i1).extBut sc.extBut AP.l2TO) jy fun kd e sd he => ?_)
    obtain ⟨oe, he1, he2⟩ := he
    have zd : IsZip kd zA tI tO .ellipsis := sd _ _ AP.i2z.symm (sc.extBut _ _ AP.TOz.symm (sb.extBut _ _ AP.i1z.symm za))
    have ez : e ≠ zA := fun x => by subst x; rw [zd] at he1; cases he1; simp at he2
    refine wpAny_setField_rec zd (by simp) fun ke _ se => jE ke e (fun c o c1 c2 c3 c4 x => se.extBut _ _ c1 (sd _ _ c4 (sc.extBut _ _ c2 (sb.extBut _ _ c3 (sa.extBut _ _ c1 x))))) ⟨oe, se.extBut _ _ ez he1, he2⟩
theorem pyNext_zipM_item {zA tI tO i1 i2 l1 l2 : Addr} {k1 k2 : Nat} {xs ys : Array Value} {x y a b : Value} {Q : Option Value → Shared → Prop} (AP : ZipApart zA tI tO i1 i2 l1 l2)
    (jz : IsZip s.heap zA tI tO .none) (jI : IsPair s.heap tI (.ref i1) (.ref i2)) (jO : IsPair s.heap tO a b)
    (j1 : s.heap.IsTupleIter i1 l1 k1) (j2 : s.heap.IsListIter i2 l2 k2) (jl1 : s.heap.IsTuple l1 xs) (jl2 : s.heap.IsList l2 ys) (jx : xs[k1]? = some x) (jy : ys[k2]? = some y)
    (jQ : ∀ h', IsZip h' zA tI tO (rawInt s.heap.objs.size) → IsPair h' tO x y → h'.IsTupleIter i1 l1 (k1 + 1) → h'.IsListIter i2 l2 (k2 + 1) → IsPair h' s.heap.objs.size x y → h'.objs.size = s.heap.objs.size + 1 →
      (∀ c o, c ≠ zA → c ≠ tO → c ≠ i1 → c ≠ i2 → s.heap.get? c = some o → h'.get? c = some o) → Q (some (.ref s.heap.objs.size)) { s with heap := h' }) :
    wpAny (model prog w) A (pyNext (.ref zA)) Q E s := by
  have jT : s.TypeIs (.ref zA) "zip" := ⟨_, jz, rfl⟩
  unfold pyNext
  exact wpAny_bind (wpAny_attempt (wpAny_callSpecial?_slot (name := Str.ofString "__next__") jT F.slot_zip_next
    (wpAny_call_entry F.slot_zip_next jT F.entry_zip_next
      (zipM_next_item AP jz jI jO j1 j2 jl1 jl2 jx jy fun h' a1 a2 a3 a4 a5 a6 a7 => wpAny_pure (jQ h' a1 a2 a3 a4 a5 a6 a7)) (F.args_zip_next_1 _))))
theorem pyNext_zipM_end {zA tI tO i1 i2 l1 l2 : Addr} {k1 k2 : Nat} {xs ys : Array Value} {a b : Value} {Q : Option Value → Shared → Prop} (jh : A.handled = none) (AP : ZipApart zA tI tO i1 i2 l1 l2)
    (jz : IsZip s.heap zA tI tO .none) (jI : IsPair s.heap tI (.ref i1) (.ref i2)) (jO : IsPair s.heap tO a b)
    (j1 : s.heap.IsTupleIter i1 l1 k1) (j2 : s.heap.IsListIter i2 l2 k2) (jl1 : s.heap.IsTuple l1 xs) (jl2 : s.heap.IsList l2 ys) (jend : xs[k1]? = none ∨ ys[k2]? = none)
    (jQ : ∀ h', (∀ c o, c ≠ zA → c ≠ tO → c ≠ i1 → c ≠ i2 → s.heap.get? c = some o → h'.get? c = some o) → Q none { s with heap := h' }) : wpAny (model prog w) A (pyNext (.ref zA)) Q E s := by
  have jT : s.TypeIs (.ref zA) "zip" := ⟨_, jz, rfl⟩
  unfold pyNext
  refine wpAny_bind (wpAny_attempt (wpAny_callSpecial?_slot (name := Str.ofString "__next__") jT F.slot_zip_next
    (wpAny_call_entry F.slot_zip_next jT F.entry_zip_next (zipM_next_end jh AP jz jI jO j1 j2 jl1 jl2 jend fun h' e hk he => ?_) (F.args_zip_next_1 _))))
  obtain ⟨o, ho, hc⟩ := he
  refine wpAny_bind (wpAny_isInstance (T := "StopIteration") (b := true) ⟨o, ho, hc⟩ isSubtype_stop ?_)
  exact wpAny_pure (jQ _ hk)
end
abbrev zM1 (hh : Heap) (l1 : Addr) : Heap := hh.push { cls := .type "tuple_iterator", data := .fields #[.ref l1, .int 0 0] }
abbrev zM2 (hh : Heap) (l1 l2 : Addr) : Heap := (zM1 hh l1).push { cls := .type "list_iterator", data := .fields #[.ref l2, .int 0 0] }
abbrev zM3 (hh : Heap) (l1 l2 : Addr) : Heap := (zM2 hh l1 l2).push { cls := .type "tuple", data := .seq #[.ref hh.objs.size, .ref (zM1 hh l1).objs.size] }
abbrev zM4 (hh : Heap) (l1 l2 : Addr) : Heap := (zM3 hh l1 l2).push { cls := .type "tuple", data := .seq #[.none, .none] }
abbrev zM5 (hh : Heap) (l1 l2 : Addr) : Heap := (zM4 hh l1 l2).push { cls := .type "zip", data := .fields #[.none, .bool false, .bool false, .ref (zM2 hh l1 l2).objs.size, .ref (zM3 hh l1 l2).objs.size] }
theorem meets_zipM (l1 l2 : Addr) (xs ys : Array Value) :
    Meets (Builtin.«zip.__new__» ⟨[.type "zip", .ref l1, .ref l2], []⟩) (fun _ R s => s.heap.IsTuple l1 xs ∧ s.heap.IsList l2 ys ∧
      R (.ok (.ret (.ref (zM4 s.heap l1 l2).objs.size))) { s with heap := zM5 s.heap l1 l2 }) :=
  .of_wp fun prog w A R s h => by
    obtain ⟨hp, g, d, tk, os⟩ := s; obtain ⟨jl1, jl2, h⟩ := h
    have hsub := sub_zip
    have hL1 : Heap.IsTuple (Shared.heap ⟨hp, g, d, tk, os⟩) l1 xs := jl1
    have hL2 : Heap.IsList (Shared.heap ⟨hp.push { cls := .type "tuple_iterator", data := .fields #[.ref l1, .int 0 0] }, g, d, tk, os⟩) l2 ys := Heap.IsList.push jl2 _
    wp_walk using wpAny_pyIter_tuple hL1, wpAny_pyIter_list hL2
    exact ⟨_, rfl, h⟩
section
variable {prog : Program} {w : World} {A : Around} {E : Value → Shared → Prop} {s : Shared}
theorem call_zipM {l1 l2 : Addr} {xs ys : Array Value} {Q : Value → Shared → Prop} (jl1 : s.heap.IsTuple l1 xs) (jl2 : s.heap.IsList l2 ys)
    (hq : ∀ h', IsZip h' (s.heap.objs.size + 4) (s.heap.objs.size + 2) (s.heap.objs.size + 3) .none → IsPair h' (s.heap.objs.size + 2) (.ref s.heap.objs.size) (.ref (s.heap.objs.size + 1)) →
      IsPair h' (s.heap.objs.size + 3) .none .none → h'.IsTupleIter s.heap.objs.size l1 0 → h'.IsListIter (s.heap.objs.size + 1) l2 0 → h'.objs.size = s.heap.objs.size + 5 →
      (∀ c o, s.heap.get? c = some o → h'.get? c = some o) → Q (.ref (s.heap.objs.size + 4)) { s with heap := h' }) :
    wpAny (model prog w) A (call (.type "zip") [.ref l1, .ref l2]) Q E s := by
  refine callType_new F.called_zip (by decide) (F.typeCall_zip_2 _ _) (F.newCall_zip_2 _ _) (fun obj => F.args_object_init_3 obj _ _) F.entry_zip_new
    (meets_zipM l1 l2 xs ys) ⟨jl1, jl2, ?_⟩
  have z1 : (zM1 s.heap l1).objs.size = s.heap.objs.size + 1 := Heap.size_push ..
  have z2 : (zM2 s.heap l1 l2).objs.size = s.heap.objs.size + 2 := by rw [Heap.size_push, z1]
  have z3 : (zM3 s.heap l1 l2).objs.size = s.heap.objs.size + 3 := by rw [Heap.size_push, z2]
  have z4 : (zM4 s.heap l1 l2).objs.size = s.heap.objs.size + 4 := by rw [Heap.size_push, z3]
  have z5 : (zM5 s.heap l1 l2).objs.size = s.heap.objs.size + 5 := by rw [Heap.size_push, z4]
  have g5 : (zM5 s.heap l1 l2).get? (zM4 s.heap l1 l2).objs.size = some _ := Heap.get?_push_size _ rfl
  have g4 : (zM5 s.heap l1 l2).get? (zM3 s.heap l1 l2).objs.size = some _ := Heap.get?_push_of_some _ (Heap.get?_push_size _ rfl)
  have g3 : (zM5 s.heap l1 l2).get? (zM2 s.heap l1 l2).objs.size = some _ := Heap.get?_push_of_some _ (Heap.get?_push_of_some _ (Heap.get?_push_size _ rfl))
  have g2 : (zM5 s.heap l1 l2).get? (zM1 s.heap l1).objs.size = some _ := Heap.get?_push_of_some _ (Heap.get?_push_of_some _ (Heap.get?_push_of_some _ (Heap.get?_push_size _ rfl)))
  have g1 : (zM5 s.heap l1 l2).get? s.heap.objs.size = some _ := Heap.get?_push_of_some _ (Heap.get?_push_of_some _ (Heap.get?_push_of_some _ (Heap.get?_push_of_some _ (Heap.get?_push_size _ rfl))))
  show _ ∧ _
  rw [z2, z3, z4] at g5
  rw [z1, z2] at g3
  rw [z3] at g4
  rw [z1] at g2
  rw [z4]
  exact ⟨⟨_, g5, rfl⟩, hq _ g5 g3 g4 ⟨_, g1, rfl, rfl⟩ ⟨_, g2, rfl, rfl⟩ z5 fun c o x =>
    Heap.get?_push_of_some _ (Heap.get?_push_of_some _ (Heap.get?_push_of_some _ (Heap.get?_push_of_some _ (Heap.get?_push_of_some _ x))))⟩
end
/-- a tuple's and a list's items in new pairs -/
def ItzM (K : PySem.W.Frag) (a b : Addr) : It :=
  ⟨fun i H => ∃ (xs ys : List V) (x y : V), SqT K H a xs ∧ SqL K H b ys ∧ xs[i]? = some x ∧ ys[i]? = some y,
    fun i H v H' => ∃ T x y, v = .ref T ∧ H T = none ∧ H' = upd H T (.tup [x, y]) ∧ (∀ xs, SqT K H a xs → xs[i]? = some x) ∧ ∀ ys, SqL K H b ys → ys[i]? = some y,
    fun i H => ∃ xs ys : List V, SqT K H a xs ∧ SqL K H b ys ∧ (xs.length ≤ i ∨ ys.length ≤ i)⟩
theorem turn_zipM {P : Program} {w : World} {K : PySem.W.Frag} {elts : List Expr} {kk : Nat} {tpos : Pos} {a b zA tI tO i1 i2 : Addr} (AP : ZipApart zA tI tO i1 i2 a b) :
    Turn P w K (.Tuple elts kk tpos) (ItzM K a b) [zA, tI, tO, i1, i2] zA (fun i h => IsZip h zA tI tO .none ∧ IsPair h tI (.ref i1) (.ref i2) ∧ (∃ x y, IsPair h tO x y) ∧ h.IsTupleIter i1 a i ∧ h.IsListIter i2 b i) where
  mem := by simp
  obj := fun i h st c hc => by
    obtain ⟨jz, jI, ⟨x, y, jO⟩, ⟨o1, e1, _, d1⟩, ⟨o2, e2, _, d2⟩⟩ := st
    have e' : c = zA ∨ c = tI ∨ c = tO ∨ c = i1 ∨ c = i2 := by simpa using hc
    rcases e' with q | q | q | q | q
    · rw [q]; exact ⟨_, jz, fun v q => nomatch q⟩
    · rw [q]; exact ⟨_, jI, fun v q => nomatch q⟩
    · rw [q]; exact ⟨_, jO, fun v q => nomatch q⟩
    · rw [q]; exact ⟨o1, e1, fun v q => (by rw [d1] at q; cases q)⟩
    · rw [q]; exact ⟨o2, e2, fun v q => (by rw [d2] at q; cases q)⟩
  keep := fun i h h' st k => by
    obtain ⟨jz, jI, ⟨x, y, jO⟩, j1, j2⟩ := st
    exact ⟨k zA (by simp) _ jz, k tI (by simp) _ jI, ⟨x, y, k tO (by simp) _ jO⟩, j1.at fun o q => k i1 (by simp) o q, j2.at fun o q => k i2 (by simp) o q⟩
  item := by
    intro X hP hw hK hc i pins s σ H E I hf st hg
    subst hP hw hK
    obtain ⟨jz, jI, ⟨x0, y0, jO⟩, j1, j2⟩ := st
    obtain ⟨xs, ys, x, y, hqx, hqy, jx, jy⟩ := hg
    obtain ⟨its, rv, p1, _⟩ := I.tuple hqx
    obtain ⟨its2, rv2, p2, _⟩ := I.list hqy
    obtain ⟨u, hu, ru⟩ := rv.get jx
    obtain ⟨u2, hu2, ru2⟩ := rv2.get jy
    have hzl : zA < s.heap.objs.size := Heap.lt_size jz
    refine pyNext_zipM_item AP jz jI jO j1 j2 p1 p2.isList (x := u) (y := u2) (by simpa using hu) (by simpa using hu2) fun h' z' tO' j1' j2' jT wsz hk => ?_
    refine ⟨_, rfl, wpAny_letOwnedTupleGo_zip (s := { s with heap := h' }) z' fun h'' z'' sb => ?_⟩
    have jT2 : h''.get? s.heap.objs.size = some { cls := .type "tuple", data := .seq #[u, u2] } := (sb.2 _ (Nat.ne_of_gt hzl)).trans jT
    have new : ObjOk X.prog X.w (upd H s.heap.objs.size (.tup [x, y])) h'' s.heap.objs.size (.tup [x, y]) :=
      ⟨by show 2 ≤ sizeLine; decide, [u, u2], .cons ru (.cons ru2 .nil), ⟨_, jT2, rfl, _, rfl⟩⟩
    have I1 : Inv X pins σ (upd H s.heap.objs.size (.tup [x, y])) { s with heap := h'' } :=
      I.turnedNew (t' := s.toks) (ch := [zA, tI, tO, i1, i2]) (fun c o hb q => (sb.2 c (fun q' => hb (by simp [q']))).trans (hk c o (fun q' => hb (by simp [q'])) (fun q' => hb (by simp [q'])) (fun q' => hb (by simp [q'])) (fun q' => hb (by simp [q'])) q)) hf (Nat.le_refl _) new
    refine ⟨.ref s.heap.objs.size, _, I1, rfl, ⟨_, x, y, rfl, I.hok.fresh (Nat.le_refl _), rfl, fun l hl => by rw [I.tuple_inj hl hqx]; exact jx, fun l hl => by rw [I.list_inj hl hqy]; exact jy⟩, ⟨z'', ?_, ⟨u, u2, ?_⟩, ?_, ?_⟩, fun c hcm => ?_⟩
    · exact (sb.2 _ AP.TIz).trans (hk _ _ AP.TIz AP.TITO AP.TIi1 AP.TIi2 jI)
    · exact (sb.2 _ AP.TOz).trans tO'
    · exact j1'.at fun o q => (sb.2 _ AP.i1z).trans q
    · exact j2'.at fun o q => (sb.2 _ AP.i2z).trans q
    · have hlt : c < s.heap.objs.size := by
        have e' : c = zA ∨ c = tI ∨ c = tO ∨ c = i1 ∨ c = i2 := by simpa using hcm
        rcases e' with q | q | q | q | q
        · rw [q]; exact hzl
        · rw [q]; exact Heap.lt_size jI
        · rw [q]; exact Heap.lt_size jO
        · rw [q]; obtain ⟨_, e1, _⟩ := j1; exact Heap.lt_size e1
        · rw [q]; obtain ⟨_, e2, _⟩ := j2; exact Heap.lt_size e2
      rw [upd_ne (Nat.ne_of_lt hlt)]
      exact (hf c hcm).1
  done := by
    intro X hP hw hK hc i pins s σ H E I hf st hg
    subst hP hw hK
    obtain ⟨jz, jI, ⟨x0, y0, jO⟩, j1, j2⟩ := st
    obtain ⟨xs, ys, hqx, hqy, jend⟩ := hg
    obtain ⟨its, rv, p1, _⟩ := I.tuple hqx
    obtain ⟨its2, rv2, p2, _⟩ := I.list hqy
    have l1 := rv.length
    have l2 := rv2.length
    have he : its.toArray[i]? = none ∨ its2.toArray[i]? = none := by
      rcases jend with q | q
      · exact .inl (by simp; omega)
      · exact .inr (by simp; omega)
    exact pyNext_zipM_end (I.ok.hd hc) AP jz jI jO j1 j2 p1 p2.isList he fun h' hk => ⟨rfl, I.turnedL (t' := s.toks) (ch := [zA, tI, tO, i1, i2]) (fun c o hb q =>
      hk c o (fun q' => hb (by simp [q'])) (fun q' => hb (by simp [q'])) (fun q' => hb (by simp [q'])) (fun q' => hb (by simp [q'])) q) hf⟩
  self := fun A i s Q E st h => wpAny_pyIter_zip st.1 h
section
variable {X : Cx} {e e2 : Expr} {ws : PA1} {pos : Pos}
/-! ### zip of two lists, of two tuples, of a tuple and a list -/
def iZipX (K : PySem.W.Frag) (ta : TA) : TI := fun σ H R => ta σ H fun vs H1 => ∃ a b xs ys, vs = [.ref a, .ref b] ∧ ((SqL K H1 a xs ∧ SqL K H1 b ys ∧ R (Itz K a b) H1) ∨ (SqT K H1 a xs ∧ SqT K H1 b ys ∧ R (ItzT K a b) H1) ∨ (SqT K H1 a xs ∧ SqL K H1 b ys ∧ R (ItzM K a b) H1))
theorem pi_zipX {ta : TA} {p tpos : Pos} {elts : List Expr} {kk : Nat} (hg : Gl X "zip") (hm : X.mg "zip" = none) (ha : PA X [e, e2] ta)
    (hs : starEach [e, e2] X.env = (false, eval e X.env) :: starEach [e2] X.env := by rfl) (hpl : (backTo pos (starEach [e2] X.env)).any (·.1) = false := by rfl) :
    PI X (.Tuple elts kk tpos) (.Call (.Name "zip" p) [e, e2] [] pos) (iZipX X.K ta) := by
  refine ⟨fun pins s σ H R I h => ?_⟩
  refine Call_ (ld_blt I hg hm PyProof.Rows.boot_zip (PyProof.Rows.callWith_type1 (thn (ha.run pos pins s σ H _ I h) fun us s1 ⟨vs, H1, I1, r1, q1⟩ => ?_) hs hpl))
  obtain ⟨a, b, xs, ys, ex, q1⟩ := q1
  subst ex
  cases r1 with
  | cons r rr =>
    cases rr with
    | cons r' rr =>
      cases rr
      cases r
      cases r'
      have fresh5 : ∀ c, c ∈ [s1.heap.objs.size + 4, s1.heap.objs.size + 2, s1.heap.objs.size + 3, s1.heap.objs.size, s1.heap.objs.size + 1] → FpOk X pins H1 c := fun c hcm => by
        have hle : s1.heap.objs.size ≤ c := by
          simp only [List.mem_cons, List.not_mem_nil, or_false] at hcm
          rcases hcm with k | k | k | k | k <;> (rw [k]; first | exact Nat.le_add_right _ _ | exact Nat.le_refl _)
        exact I1.fpOk hle (I1.hok.fresh hle)
      rcases q1 with ⟨hqx, hqy, q⟩ | ⟨hqx, hqy, q⟩ | ⟨hqx, hqy, q⟩
      · obtain ⟨its, rv, p1, _⟩ := I1.list hqx
        obtain ⟨its2, rv2, p2, _⟩ := I1.list hqy
        refine call_zip_2 p1.isList p2.isList fun h' jz jI jO j1 j2 wsz hk => wpAny_pyIter_zip jz ?_
        have I2 : Inv X pins σ H1 { s1 with heap := h' } := I1.kept (t' := s1.toks) hk
        exact ⟨s1.heap.objs.size + 4, [s1.heap.objs.size + 4, s1.heap.objs.size + 2, s1.heap.objs.size + 3, s1.heap.objs.size, s1.heap.objs.size + 1], _, _, H1, rfl, I2, turn_zip (PySem.W.ktu_apart s1.heap.objs.size a b p1.lt p2.lt), ⟨jz, jI, ⟨_, _, jO⟩, j1, j2⟩, fresh5, q⟩
      · obtain ⟨its, rv, p1, _⟩ := I1.tuple hqx
        obtain ⟨its2, rv2, p2, _⟩ := I1.tuple hqy
        obtain ⟨o1, ho1, _⟩ := id p1
        obtain ⟨o2, ho2, _⟩ := id p2
        refine call_zipT (show s1.heap.IsTuple a its.toArray from p1) (show s1.heap.IsTuple b its2.toArray from p2) fun h' jz jI jO j1 j2 wsz hk => wpAny_pyIter_zip jz ?_
        have I2 : Inv X pins σ H1 { s1 with heap := h' } := I1.kept (t' := s1.toks) hk
        exact ⟨s1.heap.objs.size + 4, [s1.heap.objs.size + 4, s1.heap.objs.size + 2, s1.heap.objs.size + 3, s1.heap.objs.size, s1.heap.objs.size + 1], _, _, H1, rfl, I2, turn_zipT (PySem.W.ktu_apart s1.heap.objs.size a b (Heap.lt_size ho1) (Heap.lt_size ho2)), ⟨jz, jI, ⟨_, _, jO⟩, j1, j2⟩, fresh5, q⟩
      · obtain ⟨its, rv, p1, _⟩ := I1.tuple hqx
        obtain ⟨its2, rv2, p2, _⟩ := I1.list hqy
        obtain ⟨o1, ho1, _⟩ := id p1
        refine call_zipM (show s1.heap.IsTuple a its.toArray from p1) p2.isList fun h' jz jI jO j1 j2 wsz hk => wpAny_pyIter_zip jz ?_
        have I2 : Inv X pins σ H1 { s1 with heap := h' } := I1.kept (t' := s1.toks) hk
        exact ⟨s1.heap.objs.size + 4, [s1.heap.objs.size + 4, s1.heap.objs.size + 2, s1.heap.objs.size + 3, s1.heap.objs.size, s1.heap.objs.size + 1], _, _, H1, rfl, I2, turn_zipM (PySem.W.ktu_apart s1.heap.objs.size a b (Heap.lt_size ho1) p2.lt), ⟨jz, jI, ⟨_, _, jO⟩, j1, j2⟩, fresh5, q⟩
abbrev wZipX (ws : PA1) : PI1 := fun r S W => ws r S fun xs S1 => match xs with
  | [x, y] => match itOf S1 x, itOf S1 y with
    | some i, some j => ((isLst x = true → isLst y = true) ∧ allD i.items = true ∧ allD j.items = true) ∧ W ⟨prs i.items j.items, fun S => i.chk S ∧ j.chk S⟩ S1
    | _, _ => False
  | _ => False
theorem itok_zipMX {K : PySem.W.Frag} {m0 : List Addr} {H0 : Hp} {i j : It1} {a b : Addr} (h1 : allD i.items = true) (h2 : allD j.items = true)
    (hx : ∀ m H S', Grow m0 H0 m H → RepS K m H S' → i.chk S' → ∃ vs, RepRs K m H i.items vs ∧ SqT K H a vs)
    (hy : ∀ m H S', Grow m0 H0 m H → RepS K m H S' → j.chk S' → ∃ vs, RepRs K m H j.items vs ∧ SqL K H b vs) : ItOk K m0 H0 (ItzM K a b) ⟨prs i.items j.items, fun S => i.chk S ∧ j.chk S⟩ :=
  ⟨fun k m H S g r hc => by
    obtain ⟨vs, k1, k2⟩ := hx m H S g r hc.1
    obtain ⟨us, k3, k4⟩ := hy m H S g r hc.2
    refine ⟨fun z e => ?_, fun e => ?_⟩
    · obtain ⟨x, y, e1, e2, rfl⟩ := prs_get e
      obtain ⟨v, p1, p2⟩ := RepRs.get k1 e1
      obtain ⟨u, p3, p4⟩ := RepRs.get k3 e2
      refine ⟨⟨vs, us, v, u, k2, k4, p1, p3⟩, fun w H' ⟨T, v', u', e3, n, e4, f1, f2⟩ => ?_⟩
      have q1 := (f1 vs k2).symm.trans p1
      have q2 := (f2 us k4).symm.trans p3
      cases q1; cases q2
      subst e3 e4
      have gg : Grow m H m (upd H T (.tup [v, u])) := Grow.alloc n
      exact ⟨gg, r.alloc n, T, [v, u], rfl, .inl (.inl upd_same), v, [u], rfl, RepD.grow gg x v p2, u, [], rfl, RepD.grow gg y u p4, rfl⟩
    · have hl := prs_none h1 h2 e
      rw [← RepRs.len k1, ← RepRs.len k3] at hl
      exact ⟨vs, us, k2, k4, hl⟩⟩
theorem wi_zipX {p tpos : Pos} {elts : List Expr} {kk : Nat} (hg : Gl X "zip") (hm : X.mg "zip" = none) (ha : WA X [e, e2] ws)
    (hs : starEach [e, e2] X.env = (false, eval e X.env) :: starEach [e2] X.env := by rfl) (hpl : (backTo pos (starEach [e2] X.env)).any (·.1) = false := by rfl) : WI X (.Tuple elts kk tpos) (.Call (.Name "zip" p) [e, e2] [] pos) (wZipX ws) :=
  ⟨piImp (pi_zipX hg hm ha.pa hs hpl) fun s H R ⟨m, r, S, W, hE, hS, hw, hf⟩ => ⟨m, r, S, _, hE, hS, hw, fun xs S1 vs m1 H1 h1 g1 r1 q1 => by
    split at h1
    · rename_i x y
      obtain ⟨v, u, rfl, qx, qy⟩ := q1.two
      split at h1
      · rename_i i j e1 e2
        obtain ⟨⟨hl, d1, d2⟩, h1⟩ := h1
        obtain ⟨a, rfl, hx⟩ := itOf_seq e1 qx r1
        obtain ⟨b, rfl, hy⟩ := itOf_seq e2 qy r1
        obtain ⟨vs, k1, k2⟩ := hx m1 H1 S1 Grow.refl r1 (itOf_chk e1)
        obtain ⟨us, k3, k4⟩ := hy m1 H1 S1 Grow.refl r1 (itOf_chk e2)
        refine ⟨a, b, vs, us, rfl, ?_⟩
        cases hb : isLst x with
        | true =>
          rw [hl hb] at k4 hy
          rw [hb] at k2 hx
          rw [if_pos rfl] at k2 k4
          exact .inl ⟨k2, k4, hf _ S1 m1 H1 _ h1 g1 r1 (itok_zip true d1 d2 hx hy rfl)⟩
        | false =>
          rw [hb] at k2 hx
          rw [if_neg Bool.false_ne_true] at k2
          cases hc : isLst y with
          | false =>
            rw [hc] at k4 hy
            rw [if_neg Bool.false_ne_true] at k4
            exact .inr (.inl ⟨k2, k4, hf _ S1 m1 H1 _ h1 g1 r1 (itok_zip false d1 d2 hx hy rfl)⟩)
          | true =>
            rw [hc] at k4 hy
            rw [if_pos rfl] at k4
            refine .inr (.inr ⟨k2, k4, hf _ S1 m1 H1 _ h1 g1 r1 (itok_zipMX d1 d2 (fun m H S' g r' hc' => ?_) fun m H S' g r' hc' => ?_)⟩)
            · obtain ⟨vs', k5, k6⟩ := hx m H S' g r' hc'
              rw [if_neg Bool.false_ne_true] at k6
              exact ⟨vs', k5, k6⟩
            · obtain ⟨vs', k5, k6⟩ := hy m H S' g r' hc'
              rw [if_pos rfl] at k6
              exact ⟨vs', k5, k6⟩
      · exact h1.elim
    · exact h1.elim⟩⟩
end
end Z
set_option Elab.async false
set_option linter.all false
set_option maxRecDepth 100000
set_option exponentiation.threshold 20000
/-! R46: how often the turns of a group come back. -/
set_option Elab.async false
set_option linter.all false
set_option maxRecDepth 100000
set_option exponentiation.threshold 20000
/-! R47: counts of turns. -/
set_option Elab.async false
set_option linter.all false
set_option maxRecDepth 100000
set_option exponentiation.threshold 20000
/-! R48: groups of turns: inverses, cosets, counting. -/
namespace Z
open PySem PySem.Spec PyProof.Rows L2 RZ
/-- a plain four -/
structure Pf (f : Fo) : Prop where
  len : f.length = 4
  nz : ∃ x ∈ f, x ≠ 0
  pl : pln f = f
theorem Pf.of {f : Fo} (l : f.length = 4) (z : ∃ x ∈ f, x ≠ 0) : Pf (pln f) := ⟨by rw [pln_len, l], pln_nz z, pln_pln z⟩
abbrev oneF : Fo := [1, 0, 0, 0]
theorem Pf.one : Pf oneF := ⟨rfl, ⟨1, by simp, by decide⟩, by decide⟩
def inv (a : Fo) : Fo := pln (qbk a)
/-! ### counting by what a function answers -/
/-! ### points of a group -/
end Z
set_option Elab.async false
set_option linter.all false
set_option maxRecDepth 100000
set_option exponentiation.threshold 20000
/-! R49: sorted lists of the same things; orbits of one turn; the closure is a group. -/
set_option Elab.async false
set_option linter.all false
set_option maxRecDepth 100000
set_option exponentiation.threshold 20000
/-! R50: what some turns lead to is a group. -/
namespace Z
open PySem PySem.Spec PyProof.Rows L2 RZ
/-! ### the other way round -/
def flipW (n : Nat) (w : List Int) : List Int := w.map fun i => (n : Int) - 1 - i
theorem flip_in {n : Nat} {w : List Int} (h : InW n w) : InW n (flipW n w) := fun v hv => by
  obtain ⟨i, hi, rfl⟩ := List.mem_map.mp hv
  have := h i hi
  omega
theorem trn_flip {fs : List Fo} {w : List Int} (h : InW fs.length w) : trn fs.reverse w = trn fs (flipW fs.length w) := by
  unfold trn flipW
  rw [List.map_map]
  congr 2
  refine List.map_congr_left fun i hi => ?_
  have := h i hi
  have hl : i.toNat < fs.length := by omega
  simp only [Function.comp]
  rw [getElem!_pos fs.reverse i.toNat (by simpa using hl), getElem!_pos fs _ (by omega), List.getElem_reverse]
  congr 1; omega
theorem Few.rev {fs : List Fo} (h : Few fs) : Few fs.reverse := by
  obtain ⟨G, h1, h2, h3⟩ := h
  refine ⟨G, h1, fun w hw => ?_, h3⟩
  rw [List.length_reverse] at hw
  rw [trn_flip hw]
  exact h2 _ (flip_in hw)
/-! ### sorted points -/
def BP1 (p : Pt) : Prop := ∀ q ∈ qsOf p, BQ 100 q
theorem BP1.rot {p : Pt} (h : BP1 p) {f : Fo} (o : OkF f) : BP (rot f p) := fun q hq => (rot_bq o.len o.nz o.bd h q hq).mono (by decide)
end Z
set_option Elab.async false
set_option linter.all false
set_option maxRecDepth 100000
/-! Z26: all(xs), any(xs) of a list of truths. -/
set_option Elab.async false
set_option linter.all false
set_option maxRecDepth 100000
/-! Z27: defs over the whole store, that may raise: statements, expressions, calls, try .. except T as n: k = n; isinstance of what was kept. -/
namespace Z
open PySem PySem.Spec PyProof.Rows L2 RZ
/-- what stands behind a statement that may raise -/
structure EX where
  n : En
  ex : Str → Rho → Sto → Prop
abbrev PX1 := EX → Rho → Sto → Prop
def ClsN (K : PySem.W.Frag) (x : Str) (C : Addr) : Prop := PySem.W.nsIn K mainGlobals x = some (some (.ref C))
theorem ClsN.uniq {K : PySem.W.Frag} {x : Str} {C D : Addr} (h : ClsN K x C) (k : ClsN K x D) : C = D := by
  unfold ClsN at h k
  rw [h] at k
  cases k; rfl
/-- the table of what is a what -/
def subX (x c : Str) : Bool := x == c || c == "TurnError" || c == "ValueError"
section
variable {K : PySem.W.Frag}
def FinX (K : PySem.W.Frag) (m : List Addr) (H : Hp) (ex : Str → Rho → Sto → Prop) (Wx : WX) : Prop :=
  ∀ x C r' S' m' H' s', ex x r' S' → ClsN K x C → Grow m H m' H' → RepE K m' H' r' s' → RepS K m' H' S' → Wx (.ref C) none s' H'
theorem FinX.later {m m1 : List Addr} {H H1 : Hp} {ex : Str → Rho → Sto → Prop} {Wx : WX} (f : FinX K m H ex Wx) (g : Grow m H m1 H1) : FinX K m1 H1 ex Wx :=
  fun x C r' S' m' H' s' h c g' e q => f x C r' S' m' H' s' h c (g.trans g') e q
/-- an expression that may raise -/
abbrev PXK := Str → Sto → Prop
abbrev PEX := Rho → Sto → PK1 → PXK → Prop
def FinE (K : PySem.W.Frag) (m : List Addr) (H : Hp) (XW : PXK) (Wx : WX) (s : L2.St) : Prop :=
  ∀ x C S' m' H', XW x S' → ClsN K x C → Grow m H m' H' → RepS K m' H' S' → Wx (.ref C) none s H'
theorem FinE.later {m m1 : List Addr} {H H1 : Hp} {XW : PXK} {Wx : WX} {s : L2.St} (f : FinE K m H XW Wx s) (g : Grow m H m1 H1) : FinE K m1 H1 XW Wx s :=
  fun x C S' m' H' h c g' r => f x C S' m' H' h c (g.trans g') r
/-- a row of expressions that may raise -/
abbrev PAX := Rho → Sto → (List SV → Sto → Prop) → PXK → Prop
end
section
variable {X : Cx} {Wx : WX} {st : Stmt} {rest : List Stmt} {e : Expr} {es : List Expr} {pos : Pos}
/-! ### statements -/
abbrev xL (w : PS1) : PX1 := fun N r S => w N.n r S
abbrev xNext : PX1 := fun N r S => N.n.nx r S
abbrev xSeq (t u : PX1) : PX1 := fun N r S => t { N with n := { N.n with nx := u N } } r S
abbrev xIf (c : PT1) (t u : PX1) : PX1 := fun N r S => c r S fun b S1 => if b = true then t N r S1 else u N r S1
/-- raise X("..") -/
abbrev xRaise (x : Str) : PX1 := fun N r S => N.ex x r S
/-- f(..) as a statement -/
abbrev xDrop (w : PEX) : PX1 := fun N r S => w r S (fun _ S1 => N.n.nx r S1) (fun x S1 => N.ex x r S1)
/-- y = f(..) -/
abbrev xSet (i : Nat) (w : PEX) : PX1 := fun N r S => w r S (fun x S1 => bindV x S1 fun y S2 => N.n.nx (r.set i (some y)) S2) (fun x S1 => N.ex x r S1)
/-- return f(..) -/
abbrev xRet (w : PEX) : PX1 := fun N r S => w r S (fun x S1 => bindV x S1 N.n.rt) (fun x S1 => N.ex x r S1)
/-! ### expressions -/
/-- an expression that can't raise -/
abbrev xE (w : PE1) : PEX := fun r S W _ => w r S W
abbrev xaL (w : PA1) : PAX := fun r S W _ => w r S W
abbrev xaCons (wa : PEX) (ws : PAX) : PAX := fun r S W XW => wa r S (fun x S1 => ws r S1 (fun xs S2 => W (x :: xs) S2) XW) XW
/-- a tuple, of things some of which may raise -/
abbrev xTup (ws : PAX) : PEX := fun r S W XW => ws r S (fun xs S1 => match dataOf xs with
  | some ds => ds.length ≤ 16777216 ∧ W (.r (.d (.tup ds))) S1
  | none => False) XW
/-! ### defs over the whole store -/
abbrev SpW := List R → Sto → (R → Sto → Prop) → PXK → Prop
def liftW (K : PySem.W.Frag) (n : Nat) (sp : SpW) : Sp := fun vs H Q E => ∃ m rs S W XW, rs.length = n ∧ RepRs K m H rs vs ∧ RepS K m H S ∧ sp rs S W XW ∧ (∀ x S' v m' H', W x S' → Grow m H m' H' → RepS K m' H' S' → RepR K m' H' x v → Q v H') ∧
  ∀ x C S' m' H', XW x S' → ClsN K x C → Grow m H m' H' → RepS K m' H' S' → E (.ref C) none H'
structure FnW (P : Program) (w : World) (K : PySem.W.Frag) (mg : Str → Option Value) (base : Heap) (k : Nat) (x : Str) (n : Nat) (sp : SpW) : Prop where
  ok : ∃ f fd ps, ps.length = n ∧ mg x = some (.ref f) ∧ PySem.W.keepIn K (.ref f) = true ∧ Binds K fd ps [] ∧ FnOk P w K mg base (L2.CX P w) k f fd ps (liftW K n sp)
theorem FnW.mono {P : Program} {w : World} {K : PySem.W.Frag} {mg : Str → Option Value} {base : Heap} {j k : Nat} {x : Str} {n : Nat} {sp : SpW} (F : FnW P w K mg base j x n sp) (h : j ≤ k) : FnW P w K mg base k x n sp := by
  obtain ⟨f, fd, ps, h1, h2, h3, h4, h5⟩ := F.ok
  exact ⟨f, fd, ps, h1, h2, h3, h4, h5.mono h⟩
abbrev wxCall (sp : SpW) (n : Nat) (ws : PA1) : PEX := fun r S W XW => ws r S fun xs S1 => bindVs xs S1 fun rs S2 => rs.length = n ∧ sp rs S2 (fun x T => W (.r x) T) XW
/-- .. called where it raises nothing -/
abbrev wwCall (sp : SpW) (n : Nat) (ws : PA1) : PE1 := fun r S W => ws r S fun xs S1 => bindVs xs S1 fun rs S2 => rs.length = n ∧ sp rs S2 (fun x T => W (.r x) T) (fun _ _ => False)
end
section
variable {X : Cx} {Wx : WX} {st : Stmt} {rest : List Stmt} {e : Expr} {es : List Expr} {pos : Pos}
/-! ### try: body, except T as n: k = n -/
/-- i the clause's name, k what it is kept in; what the body may raise -/
abbrev wTryK (known : List Str) (i k : Nat) (body : PX1) : PS1 := fun N r S => body { n := N, ex := fun x r' S' => (x ∈ known ∧ i < r'.length ∧ k < r'.length ∧ i ≠ k) ∧ N.nx ((r'.set k (some (.ex x))).set i none) S' } r S
theorem RepE.drop {K : PySem.W.Frag} {m : List Addr} {H : Hp} {r : Rho} {s : L2.St} {i : Nat} (h : RepE K m H r s) : RepE K m H (r.set i none) (s.set i none) := by
  refine ⟨by simp [h.len], fun j x e => ?_⟩
  by_cases hj : i = j
  · subst hj
    by_cases hl : i < r.length
    · rw [List.getElem?_set_self hl] at e; cases e
    · rw [List.getElem?_eq_none (by simpa using hl)] at e; cases e
  · rw [List.getElem?_set_ne hj] at e
    obtain ⟨v, h1, h2⟩ := h.at_ j x e
    exact ⟨v, by rw [List.getElem?_set_ne hj]; exact h1, h2⟩
/-! ### isinstance of what was kept -/
abbrev wIsX (known : List Str) (c : Str) (w : PE1) : PE1 := fun r S W => w r S fun y S1 => match y with
  | .r (.ex x) => x ∈ known ∧ W (.r (.d (.bl (subX x c)))) S1
  | _ => False
end
end Z
namespace L2
open PySem PySem.Spec PyProof.Rows
end L2
namespace Z
open PySem PySem.Spec PyProof.Rows L2 RZ
section
variable {X : Cx} {Wx : WX} {st : Stmt} {rest : List Stmt} {e : Expr} {es : List Expr} {pos : Pos}
abbrev wIsXT (known : List Str) (cs : List Str) (w : PE1) : PE1 := fun r S W => w r S fun y S1 => match y with
  | .r (.ex x) => x ∈ known ∧ W (.r (.d (.bl (cs.any fun c => subX x c)))) S1
  | _ => False
end
end Z
set_option Elab.async false
set_option linter.all false
set_option maxRecDepth 100000
/-! Z28: o[i] += e on a list of the store. -/
namespace L2
open PySem PySem.Spec PyProof.Rows
end L2
namespace Z
open PySem PySem.Spec PyProof.Rows L2 RZ
section
variable {X : Cx} {e : Expr} {we wi : PE1} {pos p2 : Pos}
/-- o[i] += e, ints of a list of the store -/
abbrev wAugI (wo wi we : PE1) : PS1 := fun N r S => wo r S fun y S1 => wi r S1 fun z S2 => match y, z with
  | .r (.loc n), .r (.d (.int k)) => (0 ≤ k ∧ k < 1000000) ∧ isLo S2 n = true ∧ match S2[n]? with
    | some (.lst xs) => match xs[k.toNat]? with
      | some (.int a) => we r S2 fun x S3 => match x with
        | .r (.d (.int b)) => match S3[n]? with
          | some (.lst ys) => ys.length = xs.length ∧ N.nx r (S3.set n (.lst (ys.set k.toNat (.int (a + b)))))
          | _ => False
        | _ => False
      | _ => False
    | _ => False
  | _, _ => False
end
end Z
set_option Elab.async false
set_option linter.all false
set_option maxRecDepth 100000
/-! Z29: lists of any values at known places. -/
namespace Z
open PySem PySem.Spec PyProof.Rows L2 RZ
section
variable {K : PySem.W.Frag} {m m1 : List Addr} {H H0 H1 : Hp} {S S1 : Sto} {a : Addr} {n : Nat} {xs : List R} {W : PK1} {Q : VK}
theorem RepR.any {x : R} {v : V} (h : RepR K [] H x v) : RepR K m H x v := RepR.pre (fun n a e => by simp at e) x v h
theorem RepRs.any : ∀ {xs : List R} {vs : List V}, RepRs K [] H xs vs → RepRs K m H xs vs
  | [], _, h => h
  | x :: xs, _, ⟨v, r, e, h, t⟩ => ⟨v, r, e, h.any, t.any⟩
theorem RepS.la (r : RepS K m H S) (e : S[n]? = some (O.la a xs)) : ∃ vs, m[n]? = some a ∧ H a = some (.lst vs) ∧ RepRs K [] H xs vs := by
  obtain ⟨b, h1, rfl, vs, h2, h3⟩ := r.at_ n _ e
  exact ⟨vs, h1, h2, h3⟩
theorem Grow.la {vs vs' : List V} (hn : m[n]? = some a) (k : H a = some (.lst vs)) : Grow m H m (upd H a (.lst vs')) := Grow.writeO hn k wr_lst
theorem RepRs.conv0 (g : Grow m H m1 H1) {xs : List R} {vs : List V} (h : RepRs K [] H xs vs) : RepRs K [] H1 xs vs := RepRs.via (fun x v h => RepR.grow0 g x v h) xs vs h
/-- a new list at a place -/
theorem Fin.la (f : Fin K m H W Q) (r : RepS K m H S) {vs : List V} (h : RepRs K [] H xs vs) (w : ∀ a, W (.r (.ad a)) (S ++ [.la a xs])) : ∀ p, H p = none → Q (.ref p) (upd H p (.lst vs)) := fun p hp =>
  f (.r (.ad p)) _ (.ref p) (m ++ [p]) _ (w p) (Grow.push hp (Grow.alloc hp)) ((r.alloc hp).pushO (r.notmem hp) ⟨rfl, vs, upd_same, h.conv0 (m := []) (m1 := []) (Grow.alloc hp)⟩) rfl
theorem RepRs.app : ∀ {xs ys : List R} {vs us : List V}, RepRs K m H xs vs → RepRs K m H ys us → RepRs K m H (xs ++ ys) (vs ++ us)
  | [], _, _, _, h, k => by cases h; exact k
  | x :: xs, _, _, _, ⟨v, r, e, h, t⟩, k => by subst e; exact ⟨v, r ++ _, rfl, h, RepRs.app t k⟩
theorem RepRs.take : ∀ {xs : List R} {vs : List V} (n : Nat), RepRs K m H xs vs → RepRs K m H (xs.take n) (vs.take n)
  | _, _, 0, h => by simp [RepRs]
  | [], _, n + 1, h => by cases h; simp [RepRs]
  | x :: xs, _, n + 1, ⟨v, r, e, h, t⟩ => by subst e; exact ⟨v, r.take n, rfl, h, RepRs.take n t⟩
theorem RepRs.drop : ∀ {xs : List R} {vs : List V} (n : Nat), RepRs K m H xs vs → RepRs K m H (xs.drop n) (vs.drop n)
  | _, _, 0, h => by simpa using h
  | [], _, n + 1, h => by cases h; simp [RepRs]
  | x :: xs, _, n + 1, ⟨v, r, e, h, t⟩ => by subst e; simpa using RepRs.drop n t
theorem RepRs.set : ∀ {xs : List R} {vs : List V} {y : R} {u : V} (n : Nat), RepRs K m H xs vs → RepR K m H y u → RepRs K m H (xs.set n y) (vs.set n u)
  | [], _, _, _, n, h, k => by cases h; simp [RepRs]
  | x :: xs, _, _, _, 0, ⟨v, r, e, h, t⟩, k => by subst e; exact ⟨_, r, rfl, k, t⟩
  | x :: xs, _, _, _, n + 1, ⟨v, r, e, h, t⟩, k => by subst e; exact ⟨v, _, rfl, h, RepRs.set n t k⟩
theorem RepRs.one {x : R} {v : V} (h : RepR K m H x v) : RepRs K m H [x] [v] := ⟨v, [], rfl, h, rfl⟩
theorem RepRs.dropLast {vs : List V} (h : RepRs K m H xs vs) : RepRs K m H xs.dropLast vs.dropLast := by
  rw [List.dropLast_eq_take, List.dropLast_eq_take, RepRs.len h]
  exact RepRs.take _ h
end
/-- an item of a row -/
def ixR (xs : List R) (k : Int) : Option R := if 0 ≤ k then xs[k.toNat]? else if -(xs.length : Int) ≤ k then xs[(k + xs.length).toNat]? else none
theorem RepRs.atI {K : PySem.W.Frag} {m : List Addr} {H : Hp} {xs : List R} {vs : List V} {k : Int} {z : R} (h : RepRs K m H xs vs) (e : ixR xs k = some z) : ∃ v, L2.atI vs k = some v ∧ RepR K m H z v := by
  unfold ixR at e
  unfold L2.atI ixN
  have hl := RepRs.len h
  rw [hl]
  by_cases h0 : 0 ≤ k
  · rw [if_pos h0] at e
    obtain ⟨v, h1, h2⟩ := RepRs.get h e
    have : k.toNat < vs.length := (List.getElem?_eq_some_iff.mp h1).1
    rw [if_pos h0, if_pos (by omega)]
    exact ⟨v, h1, h2⟩
  · rw [if_neg h0] at e
    split at e
    · rename_i h1
      obtain ⟨v, h2, h3⟩ := RepRs.get h e
      rw [if_neg h0, if_pos h1]
      exact ⟨v, h2, h3⟩
    · cases e
section
variable {X : Cx} {e a b : Expr} {es : List Expr} {pos p2 : Pos} {we wa wb wi : PE1} {was : PA1}
/-- [..], of any values, at a place -/
abbrev wLstA (ws : PA1) : PE1 := fun r S W => ws r S fun xs S1 => match rsOf xs with
  | some rs => (rs.length ≤ 16777216 ∧ noLocs rs = true) ∧ ∀ a, W (.r (.ad a)) (S1 ++ [.la a rs])
  | none => False
/-- a new list is given a place -/
abbrev wAtL (w : PE1) : PE1 := fun r S W => w r S fun x S1 => match x with
  | .f xs => ∀ a, W (.r (.ad a)) (S1 ++ [.la a (xs.map R.d)])
  | .r y => W (.r y) S1
/-- (a, b, ..) = a list at a place -/
abbrev wUnlA (n : Nat) (fs : List R → Rho → Option Rho) (w : PE1) : PS1 := fun N r S => w r S fun x S1 => match x with
  | .r (.ad a) => ∃ (k : Nat) (xs : List R), S1[k]? = some (O.la a xs) ∧ xs.length = n ∧ (match fs xs r with
    | some r' => N.nx r' S1
    | none => False)
  | _ => False
/-- an item -/
abbrev pIxA : P2 := fun x y S W => match x, y with
  | .r (.ad a), .r (.d (.int k)) => ∃ (n : Nat) (xs : List R) (z : R), S[n]? = some (O.la a xs) ∧ ixR xs k = some z ∧ W (.r z) S
  | _, _ => False
/-- how many -/
abbrev fLenA : PF := fun xs S W => match xs with
  | [.r (.ad a)] => ∃ (n : Nat) (ys : List R), S[n]? = some (O.la a ys) ∧ W (.r (.d (.int ys.length))) S
  | _ => False
/-- for x in .. -/
abbrev wItA (w : PE1) : PI1 := fun r S W => w r S fun x S1 => match x with
  | .r (.ad a) => ∃ (n : Nat) (xs : List R), S1[n]? = some (O.la a xs) ∧ W ⟨xs, fun S => S[n]? = some (O.la a xs)⟩ S1
  | _ => False
/-- x.append(e) -/
abbrev wAppA (wo we : PE1) : PE1 := fun r S W => wo r S fun x S1 => match x with
  | .r (.ad a) => (∃ (n : Nat) (xs : List R), S1[n]? = some (O.la a xs)) ∧ we r S1 fun y S2 => match y with
    | .r z => noLoc z = true ∧ ∃ (n : Nat) (xs : List R), S2[n]? = some (O.la a xs) ∧ xs.length < 16777216 ∧ W (.r (.d .non)) (S2.set n (.la a (xs ++ [z])))
    | _ => False
  | _ => False
/-- x.pop() -/
abbrev wPopA (wo : PE1) : PE1 := fun r S W => wo r S fun x S1 => match x with
  | .r (.ad a) => ∃ (n : Nat) (xs : List R) (z : R), S1[n]? = some (O.la a xs) ∧ xs[xs.length - 1]? = some z ∧ W (.r z) (S1.set n (.la a xs.dropLast))
  | _ => False
/-- x.clear() -/
abbrev wClrA (wo : PE1) : PE1 := fun r S W => wo r S fun x S1 => match x with
  | .r (.ad a) => ∃ (n : Nat) (xs : List R), S1[n]? = some (O.la a xs) ∧ W (.r (.d .non)) (S1.set n (.la a []))
  | _ => False
/-- o[i] = e -/
abbrev wStIA (wo wi we : PE1) : PS1 := fun N r S => we r S fun x S1 => wo r S1 fun o S2 => wi r S2 fun k S3 => match o, k, x with
  | .r (.ad a), .r (.d (.int k)), .r z => noLoc z = true ∧ ∃ (n : Nat) (xs : List R) (j : Nat), S3[n]? = some (O.la a xs) ∧ ixD xs.length k = some j ∧ N.nx r (S3.set n (.la a (xs.set j z)))
  | _, _, _ => False
end
end Z
set_option Elab.async false
set_option linter.all false
set_option maxRecDepth 100000
/-! Z30: texts: slices, text times number, one sign in a text. -/
namespace Z
open PySem PySem.Spec PyProof.Rows L2 RZ
section
variable {X : Cx} {a b : Expr} {pos p2 : Pos} {wa wb : PE1}
/-- x[lo:hi] of a text -/
abbrev wSlT (wa : PE1) (wl wh : Rho → Sto → (Option Int → Sto → Prop) → Prop) : PE1 := fun r S W => wa r S fun x S1 => wl r S1 fun lo S2 => wh r S2 fun hi S3 => match x with
  | .r (.d (.str z)) => z.length ≤ 16777216 ∧ W (.r (.d (.str (Txt.slice z lo hi)))) S3
  | _ => False
end
/-- text times number -/
abbrev pSMul : P2 := fun x y S W => match x, y with
  | .r (.d (.str z)), .r (.d (.int n)) => (0 ≤ n ∧ n ≤ 1000 ∧ z.length ≤ 1000) ∧ W (.r (.d (.str (Txt.mul z n)))) S
  | _, _ => False
end Z
set_option Elab.async false
set_option linter.all false
set_option maxRecDepth 100000
/-! Z39: texts taken apart; int(text); a < b <= c. -/
namespace Z
open PySem PySem.Spec PyProof.Rows L2 RZ
section
variable {X : Cx} {e a b c : Expr} {we wo wa wb wc : PE1} {pos : Pos}
/-- s.split(sep) -/
abbrev wSplit (wo we : PE1) : PE1 := fun r S W => wo r S fun x S1 => match x with
  | .r (.d (.str a)) => we r S1 fun y S2 => match y with
    | .r (.d (.str b)) => ((b.length == 0) = false ∧ a.length + 2 ≤ 16777216) ∧ W (.f ((Txt.split a b).map D.str)) S2
    | _ => False
  | _ => False
/-- s.partition(sep) -/
abbrev wPart (wo we : PE1) : PE1 := fun r S W => wo r S fun x S1 => match x with
  | .r (.d (.str a)) => we r S1 fun y S2 => match y with
    | .r (.d (.str b)) => ((b.length == 0) = false ∧ a.length ≤ 16777216) ∧ W (.r (.d (.tup [.str (Txt.partition a b).1, .str (Txt.partition a b).2.1, .str (Txt.partition a b).2.2]))) S2
    | _ => False
  | _ => False
/-- int(text) -/
abbrev fIntT : PF := fun xs S W => match xs with
  | [.r (.d (.str a))] => ∃ n : Int, intText? a = some n ∧ a.length ≤ 640 ∧ W (.r (.d (.int n))) S
  | _ => False
/-- a < b <= c -/
abbrev wChn (rp rp' : P2) (wa wb wc : PE1) : PE1 := fun r S W => wa r S fun x S1 => wb r S1 fun y S2 => rp x y S2 fun z S3 => match z with
  | .r (.d (.bl k)) => if k = true then wc r S3 fun u S4 => rp' y u S4 W else W (.r (.d (.bl false))) S3
  | _ => False
theorem chn {op op' : CmpOp} {rp rp' : P2} (ho : OpP X (compareOp op) rp) (ho' : OpP X (compareOp op') rp') : ∃ r r' : R2, OpR X (compareOp op) r ∧ OpR X (compareOp op') r' ∧ ∀ s H Q, up X.K (wChn rp rp' wa wb wc) s H Q → tChain r r' (up X.K wa) (up X.K wb) (up X.K wc) s H Q := by
  obtain ⟨r1, h1, h2⟩ := ho
  obtain ⟨r2, k1, k2⟩ := ho'
  refine ⟨r1, r2, h1, k1, fun s H Q ⟨m, ρ, S, W, hE, hS, hw, hf⟩ => up2 hE hS hw fun x y S2 v u m2 H2 z g2 r2 qx qy => h2 x y S2 _ v u m2 H2 H _ r2 qx qy z fun t S3 tv m3 H3 zt g3 r3 qt => ?_⟩
  split at zt
  · rename_i k
    obtain rfl : tv = V.bl k := qt
    refine ⟨k, rfl, ?_⟩
    split at zt
    · rename_i hk
      rw [if_pos hk]
      exact ⟨m3, ρ, S3, _, hE.grow (g2.trans g3), r3, zt, fun y2 S4 u2 m4 H4 z4 g4 r4 q4 => k2 y y2 S4 W u u2 m4 H4 H Q r4 (qy.grow (g3.trans g4)) (q4.back (g2.trans g3) r3) z4 (hf.later ((g2.trans g3).trans g4) r4)⟩
    · rename_i hk
      rw [if_neg hk]
      exact (hf.later (g2.trans g3) r3).here r3 (x := .r (.d (.bl false))) rfl zt
  · exact zt.elim
theorem we_chn {op op' : CmpOp} {rp rp' : P2} (ho : OpP X (compareOp op) rp) (ho' : OpP X (compareOp op') rp') (ha : WE X a wa) (hb : WE X b wb) (hc : WE X c wc) (hm : lastMarks [op, op'] [b, c] = false := by with_unfolding_all rfl) : WE X (.Compare a [op, op'] [b, c] pos) (wChn rp rp' wa wb wc) := by
  obtain ⟨r1, r2, h1, k1, h⟩ := chn (wa := wa) (wb := wb) (wc := wc) ho ho'
  exact ⟨peImp (pe_chain h1 k1 ha.pe hb.pe hc.pe hm) h⟩
end
end Z
set_option Elab.async false
set_option linter.all false
set_option maxRecDepth 100000
/-! Z42: walking into a construct with what comes after kept closed (nested calls). -/
namespace Z
open PySem PySem.Spec PyProof.Rows L2 RZ
variable {r : Rho} {S : Sto}
theorem setI {i : Nat} {w : PE1} {N : En} (h : ∀ P : PK1, (∀ x S1, (bindV x S1 fun y S2 => N.nx (r.set i (some y)) S2) → P x S1) → w r S P) : wSet i w N r S := h _ fun _ _ h => h
theorem ifI {c : PT1} {t u : PS1} {N : En} (h : ∀ P : Bool → Sto → Prop, (∀ b S1, (if b = true then t N r S1 else u N r S1) → P b S1) → c r S P) : wIf c t u N r S := h _ fun _ _ h => h
end Z
set_option Elab.async false
set_option linter.all false
set_option maxRecDepth 100000
/-! Z59: sorted(rows, key=lambda row: abs(row[0])). -/
namespace Z
open PySem PySem.Spec PyProof.Rows L2 RZ
abbrev lamArgs (p : Pos) : Arguments := { posonlyargs := [], args := [{ arg := "row", annotation := none, pos := p }], vararg := none, kwonlyargs := [], kw_defaults := [], kwarg := none, defaults := [] }
abbrev lamScope : Scope := { kind := .function, names := [(("row" : Str), .local), (("abs" : Str), .globalImplicit)], isGenerator := false, isCoroutine := false, more := [] }
abbrev lamBody (p1 p2 p3 p4 p5 : Pos) : Expr := .Call (.Name "abs" p1) [.Subscript (.Name "row" p2) (.Constant (.int 0) 0 p3) p4] [] p5
/-- the key's call: the heap stays, but for what is new -/
theorem lam_turn {X : Cx} {pins : List (Addr × Obj)} {σ : L2.St} {H : Hp} {s : Shared} {q : Str} {f c' : Addr} {pm ctv : Value} {p0 p1 p2 p3 p4 p5 : Pos} (I : Inv X pins σ H s)
    (hf : s.heap.get? f = some (PySem.W.kla_obj "<lambda>" q (lamArgs p0) (lamBody p1 p2 p3 p4 p5) lamScope [] pm c' ctv)) (hc : H c' = some (LamX.CodeO c' q)) (hm : X.mg "abs" = none) (hdep : X.A.in1.in1.depth < recursionLimit)
    {t : Addr} {a : Int} {vs : List V} (ht : SqT X.K H t (.int a :: vs)) {h : Heap} {tk : Nat} (kp : ∀ b o, s.heap.get? b = some o → h.get? b = some o) :
    wpAny (model X.prog X.w) X.A.in1.in1 (call (.ref f) [.ref t]) (PySem.W.KeyPure (.int (if a < 0 then -a else a)) { s with heap := h, toks := tk }) (fun _ _ => False) { s with heap := h, toks := tk } := by
  have I1 : Inv X pins σ H { s with heap := h, toks := tk } := I.kept kp
  obtain ⟨its, rv, it, _⟩ := I1.tuple ht
  have i0 : ∃ tok, its.toArray[0]? = some (Value.int a tok) := by
    cases rv with
    | cons r1 r2 =>
      obtain ⟨tok, rfl⟩ := r1
      exact ⟨tok, rfl⟩
  obtain ⟨tok, i0⟩ := i0
  have lits : 0 < its.toArray.size := (Array.getElem?_eq_some_iff.mp i0).1
  have of : h.get? f = some (PySem.W.kla_obj "<lambda>" q (lamArgs p0) (lamBody p1 p2 p3 p4 p5) lamScope [] pm c' ctv) := kp f _ hf
  obtain ⟨⟨oc, us, t1, hoc, hdc, hvc⟩, _, _⟩ := I1.hok c' _ hc
  have hbind : bindArgs (PySem.W.kla_fn "<lambda>" q (lamArgs p0) (lamBody p1 p2 p3 p4 p5) lamScope [] pm (.ref c') ctv) ⟨[.ref t], []⟩ = pure [(("row" : Str), .ref t)] := by rfl
  have ky : lamScope.names.lookup ("row" : Str) = some .local := by decide +kernel
  have ka : lamScope.names.lookup ("abs" : Str) = some .globalImplicit := by decide +kernel
  refine wpAny_call ?_
  refine PySem.W.kla_callFunE hdep of rfl rfl rfl rfl ⟨c', oc, us, t1, rfl, hoc, hdc, hvc⟩ ?_
  rw [hbind]
  refine wpAny_pure (wpAny_newFunctionEnv (fun z hz => ?_) (fun z hz => ?_) (fun h1 hns hsb => ⟨I1.nolimit.fresh _ hsb, ?_⟩) rfl)
  · simp only [List.mem_cons, List.not_mem_nil, or_false] at hz
    rcases hz with rfl | rfl <;> decide
  · cases List.mem_singleton.mp hz
    exact ky
  have kp1 : ∀ b o, h.get? b = some o → h1.get? b = some o := fun b o e => hsb.extBut b o (Nat.ne_of_lt (Heap.lt_size e)) (Heap.get?_push_of_some _ e)
  refine PySem.W.kla_codeExpr ?_
  have I2 : Inv X pins σ H { s with heap := h1, toks := tk + 1 } := I1.kept kp1
  obtain ⟨its', rv', it', _⟩ := I2.tuple ht
  obtain ⟨mb, m1, m2⟩ := I.mod.blt
  have gl : Heap.Ns h1 mainGlobals X.mg := I.mod.glob.keeps I2.bk
  have bl : Heap.Ns h1 builtinsNs mb := m1.keeps I2.bk
  have j0 : ∃ tok, its'.toArray[0]? = some (Value.int a tok) := by
    cases rv' with
    | cons r1 r2 =>
      obtain ⟨tok, rfl⟩ := r1
      exact ⟨tok, rfl⟩
  obtain ⟨tok', j0⟩ := j0
  have lits' : 0 < its'.toArray.size := (Array.getElem?_eq_some_iff.mp j0).1
  refine wpAny_Call_Name_kw ?_
  refine Calls.Name_function_global rfl ka (Calls.loadGlobal_builtin gl hm bl ((m2 "abs" (by decide)).trans rfl) ?_)
  refine PyProof.Rows.callWith_builtin1 (Calls.spliced_cons ?_) rfl rfl
  refine wpAny_Subscript_Constant_late ?_
  refine wpAny_Name (wpAny_loadName_local (m := fun x => [(("row" : Str), Value.ref t)].reverse.lookup x) (v := Value.ref t) rfl ky hns (by rfl) ?_)
  refine wpAny_Constant_int ⟨"tuple", "tuple.__getitem__", slot_tuple_getitem.lookup, it'.typeIs, getItem_tuple it' (by decide) (by decide) (j := 0) (seqIndex_of (k := 0) (by decide) (by omega)) j0 ?_⟩
  refine Calls.spliced_nil ?_
  refine PyProof.Rows.call_abs_int fun u tk2 => ?_
  exact ⟨h1, tk2, rfl, kp1, .int _ _⟩
/-- the lambda is made: nothing that is told changes but the table -/
theorem lam_make3 {X : Cx} {pins : List (Addr × Obj)} {σ : L2.St} {H : Hp} {s : Shared} {T c : Addr} {p0 p1 p2 p3 p4 p5 pos : Pos} {Q E : Value → Shared → Prop} (I : Inv X pins σ H s) (TB : LamX.TabB X.base X.mg c T) (cd : X.env.code = .ref c) (hT : LamX.TabS H T lamQ)
    (hq : X.env.qual ++ "<lambda>" = lamQ)
    (h : ∀ (f c' : Addr) (pm ctv : Value) (H1 : Hp) (s' : Shared), Inv X pins σ H1 s' → (∀ b o, H b = some o → b ≠ T → H1 b = some o) → LamX.TabS H1 T lamQ →
      s'.heap.get? f = some (PySem.W.kla_obj "<lambda>" lamQ (lamArgs p0) (lamBody p1 p2 p3 p4 p5) lamScope [] pm c' ctv) → H1 c' = some (LamX.CodeO c' lamQ) → (∃ ps, H1 T = some (.tbl ps)) → (∀ b, H1 b = none → H b = none) → Q (.ref f) s') :
    wpAny (model X.prog X.w) X.A (eval (.Lambda (lamArgs p0) (lamBody p1 p2 p3 p4 p5) lamScope pos) X.env) Q E s := by
  obtain ⟨ps, tT, tr, all⟩ := id hT
  refine PySem.W.kla_eval (by rfl) ?_
  rw [hq]
  have bm := TB.bm.keeps I.bk
  have gT := I.hok T _ tT
  have noFree : ∀ y ∈ lamScope.names, y.2 = .free → ∃ c, X.env.cells.lookup y.1 = some c := fun y hy e => by
    simp only [List.mem_cons, List.not_mem_nil, or_false] at hy
    rcases hy with rfl | rfl <;> cases e
  have clo := closure_ok (env := X.env) noFree
  have clo : closureFor lamScope X.env = pure [] := clo
  cases found : codeAmong pos ps.toList with
  | none =>
    refine PySem.W.kla_makeFunction (mg := X.mg) (c := c) (P := T) (ps := ps) clo I.ok.glob (I.mod.glob.keeps I.bk) cd (TB.code.keeps I.bk) gT tr found TB.gP bm fun c' ctv g tk ext ge lt rec new => ?_
    obtain ⟨c2, oc, us, tok, e2, o1, o2, o3⟩ := rec
    cases e2
    have nC : H c' = none := I.hok.fresh ge
    have nT : T ≠ c' := ne_of_none tT nC
    let ob := PySem.W.kla_obj "<lambda>" lamQ (lamArgs p0) (lamBody p1 p2 p3 p4 p5) lamScope [] ((X.mg "__name__").getD .none) c' ctv
    have J := LamX.inv_table (q := lamQ) (t' := tk) (more := #[rawInt pos.line, rawInt pos.col, .ref c']) (h' := g.push ob) I tT (fun b o nb e => Heap.get?_push_of_some _ (ext b o nb e)) (Heap.get?_push_of_some _ new) ge ⟨oc, us, tok, Heap.get?_push_of_some _ o1, o2, o3⟩
    have keep : ∀ b o, H b = some o → b ≠ T → upd (upd H T (.tbl (ps ++ #[rawInt pos.line, rawInt pos.col, .ref c']))) c' (LamX.CodeO c' lamQ) b = some o := fun b o e nb => by
      rw [upd_ne (ne_of_none e nC), upd_ne nb]; exact e
    have tT1 : upd (upd H T (.tbl (ps ++ #[rawInt pos.line, rawInt pos.col, .ref c']))) c' (LamX.CodeO c' lamQ) T = some (.tbl (ps ++ #[rawInt pos.line, rawInt pos.col, .ref c'])) := by
      rw [upd_ne nT, upd_same]
    have eL : (ps ++ #[rawInt pos.line, rawInt pos.col, .ref c']).toList = ps.toList ++ [rawInt pos.line, rawInt pos.col, .ref c'] := by simp
    refine h g.objs.size c' ((X.mg "__name__").getD .none) ctv _ _ J keep ⟨_, tT1, by rw [eL]; exact PySem.TriplesOk_snoc _ _ _ _ tr, fun p' cv hcv => ?_⟩ (Heap.get?_push_size _ rfl) upd_same ⟨_, tT1⟩ fun b n => ?_
    · rw [eL] at hcv
      rcases LamX.among_app _ tr hcv with z | z
      · obtain ⟨c0, e1, e2⟩ := all p' cv z
        refine ⟨c0, e1, keep _ _ e2 fun w => ?_⟩
        subst w
        rw [tT] at e2
        exact LamX.codeO_ne _ (Option.some.inj e2).symm
      · exact ⟨c', z, upd_same⟩
    · by_cases b1 : b = c'
      · rw [b1]; exact nC
      · by_cases b2 : b = T
        · rw [b2, tT1] at n; cases n
        · rw [upd_ne b1, upd_ne b2] at n; exact n
  | some cv =>
    obtain ⟨c', e, hco⟩ := all pos cv found
    subst e
    refine PySem.W.kla_makeFunctionHit (mg := X.mg) (c := c) (P := T) (ps := ps) clo I.ok.glob (I.mod.glob.keeps I.bk) cd (TB.code.keeps I.bk) gT tr found bm fun ctv g tk ext ge => ?_
    have J : Inv X pins σ H { s with heap := g.push (PySem.W.kla_obj "<lambda>" lamQ (lamArgs p0) (lamBody p1 p2 p3 p4 p5) lamScope [] ((X.mg "__name__").getD .none) c' ctv), toks := tk } := I.kept fun b o e => Heap.get?_push_of_some _ (ext b o e)
    exact h g.objs.size c' ((X.mg "__name__").getD .none) ctv H _ J (fun b o e _ => e) hT (Heap.get?_push_size _ rfl) hco ⟨_, tT⟩ fun b n => n
def hdI : D → Int
  | .tup (.int a :: _) => a
  | _ => 0
def absH (d : D) : Int := if hdI d < 0 then -hdI d else hdI d
/-- sorted(x, key=lambda row: abs(row[0])): which of the orders that fit is left open -/
abbrev wSortK (w : PE1) : PE1 := fun r S W => w r S fun x S1 => match isLst x, seqOf S1 x with
  | true, some ds => (∀ d ∈ ds, ∃ (a : Int) (xs : List D), d = .tup (.int a :: xs)) ∧ ∀ ys : List D, ys.Perm ds → ys.Pairwise (fun a b => absH a ≤ absH b) → W (.f ys) S1
  | _, _ => False
theorem grow_tab {K : PySem.W.Frag} {m : List Addr} {H H2 : Hp} {S : Sto} {T : Addr} (r : RepS K m H S) (tt : ∃ ps, H T = some (.tbl ps)) (keep : ∀ b o, H b = some o → b ≠ T → H2 b = some o) (tab : LamX.TabS H2 T lamQ) (tt2 : ∃ ps, H2 T = some (.tbl ps)) : Grow m H m H2 ∧ RepS K m H2 S := by
  obtain ⟨ps, tt⟩ := tt
  have nt : ∀ b o, H b = some o → (∀ ps, o ≠ .tbl ps) → b ≠ T := fun b o e n z => by
    subst z
    rw [tt] at e
    exact n ps (Option.some.inj e).symm
  have tb : TbK H H2 := ⟨fun P ⟨us, a1, a2, a3⟩ => by
    by_cases z : P = T
    · rw [z]; exact tab
    · refine ⟨us, keep _ _ a1 z, a2, fun pos cv hc => ?_⟩
      obtain ⟨c, e1, e2⟩ := a3 pos cv hc
      exact ⟨c, e1, keep _ _ e2 (nt _ _ e2 (fun ps => LamX.codeO_ne ps))⟩, fun b us e => by
    by_cases z : b = T
    · rw [z]; exact tt2
    · exact ⟨us, keep _ _ e z⟩⟩
  have g : Grow m H m H2 := ⟨fun _ _ h => h, fun b xs e => keep _ _ e (nt _ _ e (fun _ => (nomatch ·))), fun b o u e => keep _ _ e (nt _ _ e (fun _ => (nomatch ·))), fun b C e => keep _ _ e (nt _ _ e (fun _ => (nomatch ·))), fun b o e _ n => keep _ _ e (nt _ _ e n), fun _ h n => absurd h n, tb⟩
  refine ⟨g, r.nd, r.len, fun n o e => ?_, fun P hP => tb.tab P (r.tab P hP)⟩
  obtain ⟨a, h1, h2⟩ := r.at_ n o e
  obtain ⟨u, e2⟩ := h2.some
  exact ⟨a, h1, h2.grow g ((keep _ _ e2 (nt _ _ e2 (h2.ntbl e2))).trans e2.symm)⟩
section
variable {X : Cx} {e : Expr} {we : PE1}
theorem we_sortK {T c : Addr} {p0 p1 p2 p3 p4 p5 p6 lpos kpos pos : Pos} (hg : Gl X ("sorted" : Str)) (hm : X.mg ("sorted" : Str) = none) (hma : X.mg ("abs" : Str) = none) (he : WE X e we) (TB : LamX.TabB X.base X.mg c T) (cd : X.env.code = .ref c) (hT : LamTab X.K T)
    (hq : X.env.qual ++ "<lambda>" = lamQ) (hdep : X.A.in1.in1.depth < recursionLimit) (hu : X.A.units + 64 < cLine)
    (he1 : backTo pos (starEach [e] X.env) = (false, eval e X.env) :: backTo pos (starEach [] X.env) := by rfl) (hpl : (backTo pos (starEach [e] X.env)).any (·.1) = false := by rfl) (hst : starEach [e] X.env = (false, eval e X.env) :: starEach [] X.env := by rfl) :
    WE X (.Call (.Name "sorted" p6) [e] [⟨some ("key" : Str), .Lambda (lamArgs p0) (lamBody p1 p2 p3 p4 p5) lamScope lpos, kpos⟩] pos) (wSortK we) := by
  refine ⟨⟨fun pins s z H Q I ⟨m, r, S, W, hE, hS, hw, hf⟩ => ?_⟩⟩
  refine wpAny_Call_Name_kw (ld_blt I hg hm (by rfl) ?_)
  refine PyProof.Rows.callWith_kw (thn ((pa_cons he.pe pa_nil (hs := hst)).run pos pins s z H (fun vs H1 => ∃ v x S1 m1, vs = [v] ∧ Grow m H m1 H1 ∧ RepS X.K m1 H1 S1 ∧ RepV X.K m1 H1 H x v ∧ (match isLst x, seqOf S1 x with
    | true, some ds => (∀ d ∈ ds, ∃ (a : Int) (xs : List D), d = .tup (.int a :: xs)) ∧ ∀ ys : List D, ys.Perm ds → ys.Pairwise (fun a b => absH a ≤ absH b) → W (.f ys) S1
    | _, _ => False)) I ⟨m, r, S, _, hE, hS, hw, fun x S1 v m1 H1 h1 g1 r1 q1 => ⟨v, x, S1, m1, rfl, g1, r1, q1, h1⟩⟩) fun us s1 ⟨vs, H1, I1, rv1, v, x, S1, m1, ev, g1, r1, q1, h1⟩ => ?_) he1 hpl (by rfl) (by rfl)
  subst ev
  show wpAny _ _ (evalAll ((do let v ← eval (.Lambda (lamArgs p0) (lamBody p1 p2 p3 p4 p5) lamScope lpos) X.env; standAt pos; pure v) :: [])) _ _ s1
  refine wpAny_evalAll_cons (wpAny_bind (lam_make3 I1 TB cd (r1.tab T hT) hq fun f c' pm ctv H2 s2 I2 keep tab hfo hco tt2 _ => wpAny_bind (wpAny_standAt (wpAny_pure ?_))))
  refine wpAny_evalAll_nil ?_
  have tt1 : ∃ ps, H1 T = some (.tbl ps) := by
    obtain ⟨ps, e, _⟩ := r1.tab T hT
    exact ⟨ps, e⟩
  obtain ⟨g2, r2⟩ := grow_tab r1 tt1 keep tab tt2
  obtain ⟨u, rfl, ru⟩ := vals1 rv1
  split at h1
  · rename_i ds il es
    obtain ⟨rows, h1⟩ := h1
    have q2 := q1.grow g2
    obtain ⟨a, us, rfl, hd, hs⟩ := q2.seq r2 es
    rw [if_pos il] at hs
    obtain rfl : u = Value.ref a := ru
    obtain ⟨its, rv, hl, hz⟩ := I2.list hs
    have lds : ds.length = us.length := hd.len.symm
    show wpAny _ _ (call (.builtin "sorted") [.ref a] [(Str.ofString "key", .ref f)]) _ _ _
    have ea := each_rep hd rv
    refine PySem.W.sorted_key_data (b := false) (β := D) (R := fun u d => ∃ v, RelV v u ∧ RepD X.K H2 d v) (fun d => .int (absH d)) hl.isList ea (PySem.W.AllAlike.of fun _ _ => rfl) (PySem.W.Sortable.others fun _ => ⟨(nomatch ·), fun _ => (nomatch ·)⟩) (by rw [lds]; exact hz) (fun d _ => ?_) (ksk_s1 _ _) (fun _ => ksk_l1 _ _) (fun _ => ksk_t1 _ _) (fun v d hR hx h tk kp => ?_) fun out c h' tk kp fr hD lo eo => ?_
    · show X.A.units + 2 + (PyData.int _).depth < _
      simp only [PyData.depth]; omega
    · obtain ⟨y, ry, hy⟩ := hR
      obtain ⟨i, xs, rfl⟩ := rows d hx
      obtain ⟨t, ys, rfl, ht, hys⟩ := hy
      obtain ⟨y0, yr, rfl, h0, h2⟩ := hys
      obtain rfl : y0 = V.int i := h0
      obtain rfl : v = Value.ref t := ry
      exact lam_turn I2 hfo hco hma hdep ht kp
    · rw [PySem.W.dataLe_int] at eo
      obtain ⟨zs, z1, z2⟩ := rep_each eo
      have I3 : Inv X pins z (upd H2 (s2.heap.objs.size + 1) (.lst zs)) { s2 with heap := h', toks := tk } := I2.laid (t' := tk) kp (Nat.le_succ _) ⟨?_, _, _, z2, hD⟩
      · have w := h1 (ds.mergeSort fun a b => decide (absH a ≤ absH b)) (List.mergeSort_perm _ _) ((List.pairwise_mergeSort (fun a b c h1 h2 => by simp only [decide_eq_true_eq] at *; omega) (fun a b => by simp only [Bool.or_eq_true, decide_eq_true_eq]; omega) ds).imp fun h => of_decide_eq_true h)
        have hf2 := (hf.later g1 r1).later g2 r2
        exact ⟨.ref (s2.heap.objs.size + 1), _, I3, rfl, hf2.lst r2 z1 w _ (I2.hok.fresh (Nat.le_succ _))⟩
      · rw [z1.len, List.length_mergeSort, lds]; exact hz
  · exact h1.elim
end
end Z
set_option Elab.async false
set_option linter.all false
set_option maxRecDepth 100000
/-! Z60: the head of a law that makes a lambda: the table of its def's code is known from the start. -/
namespace Z
open PySem PySem.Spec PyProof.Rows L2 RZ
section
variable {P : Program} {w : World} {K : PySem.W.Frag} {mg mb : Str → Option Value} {CX : CXT} {k : Nat} {fa a c T : Addr} {fd : FuncData} {x : Str} {sp : Sp} {s1 : Shared} {vs : List Value} {ns : List Int}
/-- the law's call from a heap in which the script and the table may be told -/
theorem enterT (inK : K.In s1.heap) (gl : s1.heap.Ns mainGlobals mg) (bl : s1.heap.Ns builtinsNs mb) (bo : ∀ x : Str, x ≠ "__name__" → mb x = bootBuiltins x) (nl : s1.heap.NoLimit) (g0 : s1.gens = #[])
    (em : s1.heap.get? T = some (PySem.W.tabObj #[])) (nT : K.lookup T = none) (cd : PySem.W.codeHdIn K c T = true)
    (main : ∃ (u : Addr) (ob : Obj), mg "__builtins__" = some (.ref u) ∧ u ≠ builtinsNs ∧ s1.heap.get? u = some ob ∧ ob.cls = .type "module" ∧ ob.dict = some builtinsNs ∧ ob.data = .plain)
    (sc : s1.heap.get? a = some { cls := .type "list", data := .seq vs.toArray }) (hr : Room k callerA)
    (F : ∀ base : Heap, K.In base → base.Ns mainGlobals mg → LamX.TabB base mg c T → FnOk P w K mg base CX k fa fd [x] sp) (bind : ∀ (s : Shared) (u : Value), BindsTo s fd ⟨[u], []⟩ [(x, u)]) (hCX : ∀ H e s', CX [] H s1 (fun _ _ _ => False) e s' → False)
    {H : Hp} (only : ∀ b, b ≠ T → H b = none ∨ ∃ o xs, H b = some (.frz o (.lst xs))) (tt : H T = some (.tbl #[])) (told : sp [.ref a] H (fun v _ => v = .bl true) fun _ _ _ => False) (ok : HOk P w H s1.heap) (at_ : ∀ b, H b ≠ none → (b = a ∨ b = T) ∧ K.lookup b = none) :
    codeAny (model P w) callerA (.call (.ref fa) ⟨[.ref a], []⟩) (fun r s' => r = .ok (.ret (.bool true)) ∧ OldK s1.heap s'.heap ∧ s'.os = s1.os ∧ AllBare s'.gens) s1 := by
  let B := hidT s1.heap H
  have stay : ∀ {b o}, s1.heap.get? b = some o → (b = a → H b = none) → b ≠ T → B.get? b = some o := fun {b o} e n t => by
    refine hidT_get e ?_
    by_cases q : H b = none
    · exact q
    · rcases (at_ _ q).1 with z | z
      · exact n z
      · exact absurd z t
  have dict : ∀ {b o es ep}, s1.heap.get? b = some o → o.data = .dict es ep → b ≠ a ∧ b ≠ T := fun {b o es ep} e d => by
    refine ⟨fun z => ?_, fun z => ?_⟩
    · subst z
      rw [sc] at e
      cases e
      have d' : (Data.seq vs.toArray : Data) = .dict es ep := d
      cases d'
    · subst z
      rw [em] at e
      cases e
      have d' : (Data.fields #[] : Data) = .dict es ep := d
      cases d'
  have space : ∀ {b m}, s1.heap.Ns b m → B.Ns b m := fun {b m} z => by
    obtain ⟨o, es, ep, e, d, r⟩ := z
    have n := dict e d
    exact ⟨o, es, ep, stay e (fun q => absurd q n.1) n.2, d, r⟩
  have kB : K.In B := fun b o e => stay (inK b o e) (fun q => by
    subst q
    by_cases z : H b = none
    · exact z
    · rw [(at_ _ z).2] at e; cases e) (fun q => by subst q; rw [nT] at e; cases e)
  have mB : Mod K mg B := by
    obtain ⟨mc, u, v⟩ := nl
    exact ⟨kB, space gl, ⟨mb, space bl, bo⟩, mc, space u, v⟩
  have nG : ∀ {b : Addr} {m}, s1.heap.Ns b m → b ≠ T := fun {b m} z => by
    obtain ⟨o, es, ep, e, d, r⟩ := z
    exact (dict e d).2
  have tab : LamX.TabB B mg c T := by
    refine ⟨PySem.W.codeHd_of_K kB cd, ?_, nG gl⟩
    obtain ⟨u, ob, m1, m2, m3, m4, m5, m6⟩ := main
    have ng : u ≠ mainGlobals := fun z => by
      obtain ⟨o, es, ep, e, d, _⟩ := gl
      rw [← z, m3] at e
      cases e
      rw [m6] at d; cases d
    have nt : u ≠ T := fun z => by
      rw [z, em] at m3
      cases m3
      cases m6
    have na : u ≠ a := fun z => by
      rw [z, sc] at m3
      cases m3
      cases m6
    exact ⟨u, ob, m1, m2, ng, nt, stay m3 (fun z => absurd z na) nt, m4, m5, m6⟩
  have env : Env0 P w K mg B callerA [] s1 H := { frames := rfl, mod := mB, bs := fun b o e => of_hidT e, bsz := Nat.le_of_eq (hidT_size _ _), funs := trivial, frf := fun b hb => absurd (show b ∈ ([] : List Addr) from hb) List.not_mem_nil, hok := ok, bare := .of_eq g0 }
  have run := (F B kB (space gl) tab).run callerA [] s1 H ⟨[.ref a], []⟩ [.ref a] [.ref a] _ _ hr env (bind s1 (.ref a)) (.cons rfl .nil) told
  refine codeAny_mono run fun r s' h => ?_
  match r, h with
  | .error e, h => exact absurd h (hCX H e s')
  | .ok (.ret u), ⟨v, H', os, bare, un, ok', rv, q⟩ =>
    have q : v = .bl true := q
    subst q
    have e : u = Value.bool true := rv
    subst e
    obtain ⟨more, m1⟩ := un.tbls T #[] tt
    have m2 : s'.heap.get? T = some (PySem.W.tabObj (#[] ++ more)) := ok' T _ m1
    have kept : ∀ b o, b ≠ T → s1.heap.get? b = some o → s'.heap.get? b = some o := fun b o nb e => by
      by_cases q : H b = none
      · exact un.keep b o e q (fun z => absurd (show b ∈ ([] : List Addr) from z) List.not_mem_nil) (by simp)
      · rcases only b nb with z | ⟨ob, xs, z⟩
        · exact absurd z q
        · have before := (ok b _ z).1
          have after := (ok' b _ (un.frzs b ob _ z)).1
          rw [e] at before
          cases before
          exact after
    refine ⟨rfl, ⟨fun b o e => ?_, fun b o e => ?_⟩, os, bare⟩
    · by_cases nb : b = T
      · subst nb
        rw [em] at e
        cases e
        exact .inr (.inl ⟨((PySem.W.codeHd_of_K inK cd).tab em).isCodeTable, rfl, #[], more, rfl, m2⟩)
      · exact .inl (kept b o nb e)
    · by_cases nb : b = T
      · subst nb
        exact ⟨_, m2⟩
      · exact ⟨o, kept b o nb e⟩
  | .ok .next, h => exact h.elim
  | .ok .brk, h => exact h.elim
  | .ok .cont, h => exact h.elim
/-- nothing told but the script, locked, and the empty table -/
def OnlyT (T : Addr) (H : Hp) : Prop := (∀ b, b ≠ T → H b = none ∨ ∃ o xs, H b = some (.frz o (.lst xs))) ∧ H T = some (.tbl #[])
theorem law_callT (inK : K.In s1.heap) (gl : s1.heap.Ns mainGlobals mg) (bl : s1.heap.Ns builtinsNs mb) (bo : ∀ x : Str, x ≠ "__name__" → mb x = bootBuiltins x) (nl : s1.heap.NoLimit) (g0 : s1.gens = #[])
    (em : s1.heap.get? T = some (PySem.W.tabObj #[])) (nT : K.lookup T = none) (cd : PySem.W.codeHdIn K c T = true)
    (main : ∃ (u : Addr) (ob : Obj), mg "__builtins__" = some (.ref u) ∧ u ≠ builtinsNs ∧ s1.heap.get? u = some ob ∧ ob.cls = .type "module" ∧ ob.dict = some builtinsNs ∧ ob.data = .plain)
    (sc : s1.heap.get? a = some { cls := .type "list", data := .seq vs.toArray }) (iv : IntsAre vs ns) (few : ns.length ≤ sizeLine) (hr : Room k callerA)
    (F : ∀ base : Heap, K.In base → base.Ns mainGlobals mg → LamX.TabB base mg c T → FnOk P w K mg base CX k fa fd [x] sp) (bind : ∀ (s : Shared) (u : Value), BindsTo s fd ⟨[u], []⟩ [(x, u)])
    (told : ∀ H : Hp, OnlyT T H → SqL K H a (ns.map V.int) → sp [.ref a] H (fun v _ => v = .bl true) fun _ _ _ => False) (hCX : ∀ H e s', CX [] H s1 (fun _ _ _ => False) e s' → False) :
    codeAny (model P w) callerA (.call (.ref fa) ⟨[.ref a], []⟩) (fun r s' => r = .ok (.ret (.bool true)) ∧ OldK s1.heap s'.heap ∧ s'.os = s1.os ∧ AllBare s'.gens) s1 := by
  have rv := vals_ints iv
  have ln := iv.length
  have aT : a ≠ T := fun z => by
    rw [z, em] at sc
    cases sc
  by_cases own : K.lookup a = none
  · let o : Obj := { cls := .type "list", data := .seq vs.toArray }
    let H : Hp := fun b => if b = a then some (.frz o (.lst (ns.map V.int))) else if b = T then some (.tbl #[]) else none
    have here : H a = some (.frz o (.lst (ns.map V.int))) := if_pos rfl
    have tt : H T = some (.tbl #[]) := (if_neg (fun z => aT z.symm)).trans (if_pos rfl)
    have else' : ∀ {b}, b ≠ a → b ≠ T → H b = none := fun h1 h2 => (if_neg h1).trans (if_neg h2)
    have only : OnlyT T H := ⟨fun b nb => by
      by_cases q : b = a
      · subst q; exact .inr ⟨_, _, here⟩
      · exact .inl (else' q nb), tt⟩
    refine enterT inK gl bl bo nl g0 em nT cd main sc hr F bind hCX only.1 tt (told H only (.inl (.inr ⟨o, here⟩))) (fun b u z => ?_) fun b z => ?_
    · by_cases q : b = a
      · subst q
        rw [here] at z
        cases z
        exact ⟨sc, by rw [List.length_map]; exact few, vs, _, rv, sc⟩
      · by_cases q2 : b = T
        · subst q2
          rw [tt] at z
          cases z
          exact em
        · rw [else' q q2] at z; cases z
    · by_cases q : b = a
      · exact ⟨.inl q, q ▸ own⟩
      · by_cases q2 : b = T
        · exact ⟨.inr q2, q2 ▸ nT⟩
        · exact absurd (else' q q2) z
  · obtain ⟨o, ho⟩ : ∃ o, K.lookup a = some o := by
      cases q : K.lookup a with
      | none => exact absurd q own
      | some o => exact ⟨o, rfl⟩
    have e := inK a o ho
    rw [sc] at e
    cases e
    let H : Hp := fun b => if b = T then some (.tbl #[]) else none
    have tt : H T = some (.tbl #[]) := if_pos rfl
    have else' : ∀ {b}, b ≠ T → H b = none := fun h => if_neg h
    refine enterT inK gl bl bo nl g0 em nT cd main sc hr F bind hCX (H := H) (fun b nb => .inl (else' nb)) tt (told _ ⟨fun b nb => .inl (else' nb), tt⟩ (.inr ⟨_, vs.toArray, _, ho, rfl, rfl, rfl, by rw [List.size_toArray, ln]; exact few, by simpa using rv⟩)) (fun b u z => ?_) fun b z => ?_
    · by_cases q2 : b = T
      · subst q2
        rw [tt] at z
        cases z
        exact em
      · rw [else' q2] at z; cases z
    · by_cases q2 : b = T
      · exact ⟨.inr q2, q2 ▸ nT⟩
      · exact absurd (else' q2) z
end
theorem walk_ofT {l : PySem.W.OpenLaw} {n k : Nat} {q : Program} {loose : List Str} {XP : (Str → Option Value) → Heap → Prop} {YP : World → Heap → Prop} {d : DefRec} {K : Params → PySem.W.Frag} {CX : World → CXT} {sp : World → Sp} {x : Str}
    (hn : l.most = some n) (hn2 : n ≤ sizeLine) (hdf : d.params.defaults = []) (hr : Room k callerA) (hY : ∀ (w : World) (h : Heap), YP w h → (K w.params).In h)
    (F : ∀ (w : World) (mg : Str → Option Value) (fa : Addr) (h : Heap), YP w h → (K w.params).In h → h.Ns mainGlobals mg → mg d.name = some (.ref fa) → ∃ (c T : Addr) (fd : FuncData), h.get? T = some (PySem.W.tabObj #[]) ∧ (K w.params).lookup T = none ∧ PySem.W.codeHdIn (K w.params) c T = true ∧ (∀ T', LamTab (K w.params) T' → T' = T) ∧
      (∀ (s : Shared) (u : Value), BindsTo s fd ⟨[u], []⟩ [(x, u)]) ∧ ∀ base : Heap, (K w.params).In base → base.Ns mainGlobals mg → LamX.TabB base mg c T → FnOk l.prog w (K w.params) mg base (CX w) k fa fd [x] (sp w))
    (told : ∀ (w : World) (H : Hp) (a T : Addr) (ns : List Int), ns.length ≤ n → (∀ z ∈ ns, Builtin.Int.intBits z ≤ 1048576) → OnlyT T H → (∀ T', LamTab (K w.params) T' → T' = T) → SqL (K w.params) H a (ns.map V.int) → sp w [.ref a] H (fun v _ => v = .bl true) fun _ _ _ => False)
    (hCX : ∀ (w : World) (H : Hp) (s : Shared) (e : Value) (s' : Shared), CX w [] H s (fun _ _ _ => False) e s' → False) : PySem.W.WalkO q loose XP YP l.row.toRowW d [] (fun f vs => PySem.call f vs) := by
  refine Att.attach_callB hn hdf fun w s0 s1 mg mb fa o pm cd doc a vs ns G Y ho hd hcd hmg hobj hints hlen hbits hg => ?_
  obtain ⟨c, T, fd, em, nT, hc, uq, hb, hF⟩ := F w mg fa _ Y (hY w _ Y) G.T.g hmg
  exact law_callT (hY w _ Y) G.T.g G.T.b G.T.builtins G.T.nolimit hg em nT hc G.T.bmain hobj hints (Nat.le_trans hlen hn2) hr hF hb (fun H hO hS => told w H a T ns hlen hbits hO uq hS) fun H e s' => hCX w H s1 e s'
theorem law_startT {K : PySem.W.Frag} {H : Hp} {a T : Addr} {ns : List Int} (hl : ns.length ≤ 63) (hb : ∀ z ∈ ns, Builtin.Int.intBits z ≤ 1048576) (hO : OnlyT T H) (uq : ∀ T', LamTab K T' → T' = T) (hS : SqL K H a (ns.map V.int)) :
    liftSp K 1 (spLaw Script) [.ref a] H (fun v _ => v = .bl true) fun _ _ _ => False := by
  refine ⟨[], [.ro (ns.map D.int)], [], fun x _ => x = .d (.bl true), rfl, ⟨.ref a, [], rfl, ⟨a, ns.map V.int, rfl, ?_, repInts_of ns⟩, rfl⟩, ⟨List.nodup_nil, rfl, fun _ _ e => by simp at e, fun T' h => by rw [uq T' h]; exact LamX.TabS.nil hO.2⟩, ⟨ns, rfl, ⟨hl, fun z hz => bits_lt (hb z hz)⟩, rfl⟩, fun x S' v m' H' w _ _ q => by subst w; exact q⟩
  rcases hS with (h | ⟨o, h⟩) | h
  · by_cases e : a = T
    · rw [e, hO.2] at h; cases h
    · rcases hO.1 a e with n | ⟨o, xs, n⟩
      · rw [n] at h; cases h
      · rw [n] at h; cases h
  · exact .inl ⟨o, h⟩
  · exact .inr h
section
variable {P : Program} {w : World} {K : PySem.W.Frag} {mg : Str → Option Value} {base : Heap}
theorem hd_uniq {c T T' : Addr} (h : PySem.W.codeHdIn K c T = true) (h' : PySem.W.codeHdIn K c T' = true) : T' = T := by
  unfold PySem.W.codeHdIn at h h'
  split at h
  · rename_i vs _ hk
    rw [hk] at h'
    simp only [Bool.and_eq_true] at h h'
    have a := h.1.1.1.1.1
    have b := h'.1.1.1.1.1
    split at a
    · rename_i P' e
      rw [e] at b
      have a := beq_iff_eq.mp a
      have b := beq_iff_eq.mp b
      rw [← a, ← b]
    · cases a
  · cases h
/-- a def of the text whose code object and table are known -/
structure DefL (K : PySem.W.Frag) (mg : Str → Option Value) (x : Str) (st : Stmt) (ps : List Str) (c T : Addr) : Prop where
  ex : ∃ f fd, Fun K x x st f fd ∧ mg x = some (.ref f) ∧ Binds K fd ps [] ∧ PySem.W.nsIn K mainGlobals x = some (some (.ref f)) ∧ (∃ oc : Obj, K.lookup f = some oc ∧ oc.data = .func fd) ∧ fd.code = .ref c ∧ PySem.W.codeHdIn K c T = true
theorem DefL.mk' {h : Heap} {x : Str} {st : Stmt} {ps : List Str} {f c T : Addr} {oc : Value} {od an : Option Addr} {osl : Array (Option Value)} {kV doc pm ct : Value} (X : K.In h) (G : h.Ns mainGlobals mg)
    (a : PySem.W.nsIn K mainGlobals x = some (some (.ref f))) (l : K.lookup f = some ⟨oc, od, .func (PySem.W.fnOf x x (defArgs st) (defBody st) (defScope st) .none kV doc pm an (.ref c) ct), osl⟩)
    (cd : PySem.W.codeIn K (.ref c) x = true) (k : PySem.W.keepIn K (.ref f) = true) (t : PySem.W.codeHdIn K c T = true)
    (b : ∀ (kV doc pm : Value) (an : Option Addr) (cdv ct : Value) (us : List Value), us.length = ps.length → bindArgs (PySem.W.fnOf x x (defArgs st) (defBody st) (defScope st) .none kV doc pm an cdv ct) ⟨us, []⟩ = pure (ps.zip us)) : DefL K mg x st ps c T :=
  have F := fun_mk (st := st) l cd k
  ⟨f, _, F, PySem.W.mg_of X G a, F.binds b, a, ⟨_, l, rfl⟩, rfl, t⟩
theorem DefL.hd {x : Str} {st : Stmt} {ps : List Str} {c T : Addr} (d : DefL K mg x st ps c T) : PySem.W.codeHdIn K c T = true := by
  obtain ⟨_, _, _, _, _, _, _, _, h⟩ := d.ex
  exact h
theorem DefL.lam {st : Stmt} {ps : List Str} {c T : Addr} (d : DefL K mg ("gathered" : Str) st ps c T) : LamTab K T := by
  obtain ⟨f, fd, _, _, _, a, ⟨oc, l, e⟩, hc, h⟩ := d.ex
  exact ⟨f, c, oc, fd, a, l, e, hc, h⟩
theorem DefL.uniq {st : Stmt} {ps : List Str} {c T : Addr} (d : DefL K mg ("gathered" : Str) st ps c T) : ∀ T', LamTab K T' → T' = T := by
  rintro T' ⟨f', c', oc', fd', a', l', e', hc', h'⟩
  obtain ⟨f, fd, _, _, _, a, ⟨oc, l, e⟩, hc, h⟩ := d.ex
  rw [a] at a'; cases a'
  rw [l] at l'; cases l'
  rw [e] at e'; cases e'
  rw [hc] at hc'; cases hc'
  exact hd_uniq h h'
theorem DefL.fn {x : Str} {st : Stmt} {N ps : List Str} {k : Nat} {wb : PS1} {sp : SpZ} {c T : Addr} (d : DefL K mg x st ps c T) (sc : FnScope N ps (defScope st))
    (hbody : ∀ (f : Addr) (A : Around) (outer : List Env) (s : Shared) (H : Hp) (E : XK), Room k (A.deeper (envOfC x (defScope st) s.heap.objs.size f (.ref c))) →
      WSs (cxOf CX0 P w K mg base N x (defScope st) f (.ref c) A outer s H E).nox (defBody st) wb)
    (hread : ∀ rs S W, rs.length = ps.length → sp rs S W → wb { nx := fun _ S1 => retN S.length W (.d .non) S1, rt := retN S.length W } (start1 N.length rs) S) : FnZ P w K mg base (k + 1) x ps.length sp := by
  obtain ⟨f, fd, F, hm, hb, _, _, hc, _⟩ := d.ex
  refine ⟨f, fd, ps, rfl, hm, F.kp, hb, ?_⟩
  obtain ⟨oc, od, kV, doc, pm, an, cdv, ct, osl, rfl, lk, hcd⟩ := F.ex
  have hc : cdv = .ref c := hc
  subst hc
  refine fn_of lk hcd sc (fun vs H Q E ⟨m, rs, S, W, hl, q, _⟩ => (RepRs.len q).trans hl) fun A outer s H vs Q E hr ⟨m, rs, S, W, hl, q, hS, hsp, hf⟩ => ⟨_, (hbody f A outer s H E hr).pss.nox, ?_⟩
  refine ⟨m, start1 N.length rs, S, _, ?_, hS, hread rs S W hl hsp, ⟨fun r' S' s' m' H' n g e q' => (by
      obtain ⟨y, T, m2, a, b, c, d⟩ := retN_ok (K := K) (x := .d .non) (v := .non) hS.len g q' rfl n
      exact hf y T .non m2 H' a b c d), fun y S' v m' H' n g q' w' => (by
      obtain ⟨y2, T, m2, a, b, c, d⟩ := retN_ok hS.len g q' w' n
      exact hf y2 T v m2 H' a b c d), fun _ _ _ _ _ n => n.elim, fun _ _ _ _ _ n => n.elim⟩⟩
  refine ⟨?_, fun i y e => ?_⟩
  · unfold L2.start Z.start1
    simp [RepRs.len q]
  · unfold start1 at e
    by_cases hi : i < rs.length
    · rw [List.getElem?_append_left (by simpa using hi), List.getElem?_map, Option.map_eq_some_iff] at e
      obtain ⟨z, e1, e2⟩ := e
      cases e2
      obtain ⟨v, h1, h2⟩ := RepRs.get q e1
      refine ⟨v, ?_, h2⟩
      unfold L2.start
      rw [List.getElem?_append_left (by rw [List.length_map, RepRs.len q]; exact hi), List.getElem?_map, h1]
      rfl
    · rw [List.getElem?_append_right (by simpa using hi)] at e
      rw [List.getElem?_replicate] at e
      split at e <;> cases e
end
end Z
set_option Elab.async false
set_option linter.all false
set_option maxRecDepth 100000
/-! Z61: min of three whole numbers. -/
namespace Z
open PySem PySem.Spec PyProof.Rows L2 RZ
section
variable {X : Cx}
abbrev fMin3 : PF := fun xs S W => match xs with
  | [.r (.d (.int i)), .r (.d (.int j)), .r (.d (.int k))] => W (.r (.d (.int (min (min i j) k)))) S
  | _ => False
theorem f_min3 (hc : X.calm = true) : FnP X (.builtin "min") fMin3 := by
  refine ⟨_, call_min3Nu hc, fun xs S W vs m H H0 Q r q w f => ?_⟩
  unfold fMin3 at w
  split at w
  · rename_i i j k
    obtain ⟨v1, r1, rfl, q1, v2, r2, rfl, q2, v3, r3, rfl, q3, rfl⟩ := q
    obtain rfl : v1 = V.int i := q1
    obtain rfl : v2 = V.int j := q2
    obtain rfl : v3 = V.int k := q3
    refine ⟨_, _, _, .int (min (min i j) k), rfl, ?_, f.here r (x := svi _) rfl w⟩
    have m2 : ∀ a b : Int, nuMin2 (.int a) (.int b) = some (.int (min a b)) := fun a b => by
      show some (if decide (b < a) = true then V.int b else V.int a) = _
      by_cases h : b < a
      · rw [if_pos (decide_eq_true h), Int.min_def, if_neg (by omega)]
      · rw [if_neg (by rw [decide_eq_false h]; decide), Int.min_def, if_pos (by omega)]
    show (nuMin2 (.int i) (.int j)).bind (fun m => nuMin2 m (.int k)) = _
    rw [m2]
    exact m2 _ _
  · exact w.elim
end
end Z
set_option Elab.async false
set_option linter.all false
set_option maxRecDepth 100000
/-! Z62: name = [..], and nobody will write that list: it is data from here on. -/
namespace Z
open PySem PySem.Spec PyProof.Rows L2 RZ
section
variable {K : PySem.W.Frag} {m m1 : List Addr} {H H1 : Hp} {S S1 : Sto}
theorem frz_last (g1 : Grow m H m1 H1) (hS : RepS K m H S) (r1 : RepS K m1 H1 S1) {n : Nat} {a : Addr} {xs : List D} {vs : List V} {od : Obj} (en : S1[n]? = some (.lst xs)) (k1 : S.length ≤ n) (k2 : n + 1 = S1.length) (ha : m1[n]? = some a) (e1 : H1 a = some (.lst vs)) :
    Grow m H (m1.take n) (upd H1 a (.frz od (.lst vs))) ∧ RepS K (m1.take n) (upd H1 a (.frz od (.lst vs))) (S1.take n) := by
  have ml : m.length = S.length := hS.len
  have m1l : m1.length = S1.length := r1.len
  have anew : a ∉ m := fun hm => by
    obtain ⟨j, hj⟩ := List.getElem?_of_mem hm
    have jl : j < m.length := (List.getElem?_eq_some_iff.mp hj).1
    have := g1.pre j a hj
    obtain ⟨l1, e2⟩ := List.getElem?_eq_some_iff.mp this
    obtain ⟨l2, e3⟩ := List.getElem?_eq_some_iff.mp ha
    have := (List.getElem_inj r1.nd).mp (e2.trans e3.symm)
    omega
  have h0 : H a = none := g1.new a (List.mem_of_getElem? ha) anew
  have ne : ∀ b, b ∈ m1.take n → b ≠ a := fun b hb e => by
    subst e
    obtain ⟨j, hj⟩ := List.getElem?_of_mem hb
    obtain ⟨jn, hj⟩ := take_get hj
    obtain ⟨l1, e2⟩ := List.getElem?_eq_some_iff.mp hj
    obtain ⟨l2, e3⟩ := List.getElem?_eq_some_iff.mp ha
    have := (List.getElem_inj r1.nd).mp (e2.trans e3.symm)
    omega
  refine ⟨⟨fun j b hj => ?_, fun b xs' hb => kt_fz e1 b xs' (g1.tup b xs' hb), fun b o u hb => kf_fz e1 b o u (g1.frz b o u hb), fun b φ hb => by rw [upd_ne (ne_of (g1.xt b φ hb) e1 (fun q => nomatch q))]; exact g1.xt b φ hb, fun b o hb hn ht => ?_, fun b hb hn => g1.new b (List.mem_of_mem_take hb) hn, g1.tb.trans (TbK.write e1 (fun _ => (nomatch ·)) (fun _ => (nomatch ·)))⟩, ⟨(List.take_sublist n m1).nodup r1.nd, by simp [m1l], fun j ob hj => ?_, fun P hP => (TbK.write e1 (fun _ => (nomatch ·)) (fun _ => (nomatch ·))).tab P (r1.tab P hP)⟩⟩
  · have jl : j < m.length := (List.getElem?_eq_some_iff.mp hj).1
    rw [List.getElem?_take_of_lt (by omega)]
    exact g1.pre j b hj
  · rw [upd_ne (ne_of_none hb h0)]
    exact g1.frame b o hb hn ht
  · obtain ⟨jn, hj⟩ := take_get hj
    obtain ⟨b, hb, ho⟩ := r1.at_ j ob hj
    refine ⟨b, by rw [List.getElem?_take_of_lt jn]; exact hb, ?_⟩
    have bn : b ≠ a := ne b (List.mem_of_getElem? (by rw [List.getElem?_take_of_lt jn]; exact hb))
    exact ho.via (fun x v => RepR.conv (fun _ _ h => h) (fun x v => RepD.keep (kt_fz e1) (kf_fz e1) x v) (kt_fz e1) (kf_fz e1) (fun b C h => by rw [upd_ne (ne_of h e1 (fun q => nomatch q))]; exact h) x v) (upd_ne bn)
end
/-- the other slots hold nothing of the store -/
def noLocE : Rho → Bool
  | [] => true
  | none :: r => noLocE r
  | some x :: r => noLoc x && noLocE r
theorem noLocE_at : ∀ {r : Rho} {i : Nat} {x : R}, noLocE r = true → r[i]? = some (some x) → noLoc x = true
  | [], _, _, _, e => by simp at e
  | none :: r, 0, _, _, e => by simp at e
  | some y :: r, 0, x, h, e => by
    simp at e; subst e
    simp only [noLocE, Bool.and_eq_true] at h
    exact h.1
  | none :: r, i + 1, x, h, e => noLocE_at (r := r) h (by simpa using e)
  | some y :: r, i + 1, x, h, e => by
    simp only [noLocE, Bool.and_eq_true] at h
    exact noLocE_at h.2 (by simpa using e)
section
variable {X : Cx} {st : Stmt}
abbrev wFzS (i : Nat) (w : PS1) : PS1 := fun N r S => w { N with nx := fun r' S' => match r'[i]? with
  | some (some (.loc n)) => match S'[n]? with
    | some (.lst xs) => (S.length ≤ n ∧ n + 1 = S'.length) ∧ noLocE (r'.set i none) = true ∧ N.nx (r'.set i (some (.d (.lst xs)))) (S'.take n)
    | _ => False
  | _ => False } r S
theorem ws_fzS {i : Nat} {w : PS1} (h : WS X st w) : WS X st (wFzS i w) := by
  refine ⟨⟨fun pins s z H D I ⟨m, r, S, N, hE, hS, hw, hf⟩ => ?_⟩⟩
  refine thn (h.ps.run pins s z H { D with nx := fun z' H' => ∃ a vs, H' a = some (.lst vs) ∧ ∀ od, D.nx z' (upd H' a (.frz od (.lst vs))) } I ⟨m, r, S, _, hE, hS, hw, ⟨fun r' S' s' m' H' h1 g1 e1 r1 => ?_, fun x S' v m' H' n g r q => hf.rt x S' v m' H' n g r q, fun r' S' s' m' H' n g e r => hf.bk r' S' s' m' H' n g e r, fun r' S' s' m' H' n g e r => hf.ct r' S' s' m' H' n g e r⟩⟩) fun fl s1 q => ?_
  · dsimp only at h1
    split at h1
    · rename_i n en
      split at h1
      · rename_i xs ex
        obtain ⟨⟨k1, k2⟩, nl, w⟩ := h1
        obtain ⟨v, hv, a, ha, rv⟩ := e1.at_ i _ en
        subst rv
        obtain ⟨a', ha', vs, hl, hd⟩ := r1.at_ n _ ex
        rw [ha] at ha'; cases ha'
        refine ⟨a, vs, hl, fun od => ?_⟩
        obtain ⟨g2, r2⟩ := frz_last (od := od) g1 hS r1 ex k1 k2 ha hl
        have kp : ∀ (x : R) (v : V), noLoc x = true → RepR X.K m' H' x v → RepR X.K (m'.take n) (upd H' a (.frz od (.lst vs))) x v := fun x v nx q =>
          RepR.free x v nx (RepR.conv (fun _ _ h => h) (fun x v => RepD.keep (kt_fz hl) (kf_fz hl) x v) (kt_fz hl) (kf_fz hl) (fun b C h => by rw [upd_ne (ne_of h hl (fun q => nomatch q))]; exact h) x v q)
        refine hf.nx _ _ s' _ _ w g2 ⟨by rw [List.length_set]; exact e1.len, fun j x e => ?_⟩ r2
        by_cases ji : i = j
        · subst ji
          have il : i < r'.length := (List.getElem?_eq_some_iff.mp en).1
          rw [List.getElem?_set_self il] at e
          cases e
          exact ⟨_, hv, a, vs, rfl, .inl ⟨od, upd_same⟩, RepDs.keep (kt_fz hl) (kf_fz hl) xs vs hd⟩
        · rw [List.getElem?_set_ne ji] at e
          obtain ⟨u, h2, h3⟩ := e1.at_ j x e
          exact ⟨u, h2, kp x u (noLocE_at nl (by rw [List.getElem?_set_ne ji]; exact e)) h3⟩
      · exact h1.elim
    · exact h1.elim
  · cases fl with
    | next =>
      obtain ⟨z', H', I', a, vs, e, q⟩ := q
      obtain ⟨od, I2⟩ := I'.lock e trivial
      exact ⟨z', _, I2, q od⟩
    | brk => exact q
    | cont => exact q
    | ret u => exact q
end
end Z
set_option Elab.async false
set_option linter.all false
set_option maxRecDepth 100000
set_option exponentiation.threshold 20000
/-! R93: sums of rows with whole numbers; rows gathered (k71 and its like). -/
namespace Z
open PySem PySem.Spec PyProof.Rows L2 RZ
abbrev Vf := Nat → Int
/-- a row as a function -/
abbrev vt (r : List Int) : Vf := fun i => r.getD i 0
/-- the sums of rows, each so many times -/
inductive Spn (xs : List (List Int)) : Vf → Prop
  | zero : Spn xs fun _ => 0
  | step {f : Vf} {r : List Int} (c : Int) (h : r ∈ xs) (k : Spn xs f) : Spn xs fun i => f i + c * vt r i
section
variable {xs ys zs : List (List Int)} {f g : Vf} {r : List Int}
theorem Spn.cast (h : Spn xs f) (e : ∀ i, f i = g i) : Spn xs g := (funext e : f = g) ▸ h
theorem Spn.mem (h : r ∈ xs) : Spn xs (vt r) := (Spn.step 1 h .zero).cast fun i => by simp
theorem Spn.add (h : Spn xs f) (k : Spn xs g) : Spn xs fun i => f i + g i := by
  induction k with
  | zero => exact h.cast fun i => by simp
  | step c m k ih => exact (Spn.step c m ih).cast fun i => Int.add_assoc _ _ _
theorem Spn.mul (c : Int) (h : Spn xs f) : Spn xs fun i => c * f i := by
  induction h with
  | zero => exact Spn.zero.cast fun i => by simp
  | step d m k ih => exact (Spn.step (c * d) m ih).cast fun i => by grind
theorem Spn.sub (h : Spn xs f) (k : Spn xs g) : Spn xs fun i => f i - g i := (h.add (k.mul (-1))).cast fun i => by omega
theorem Spn.neg (h : Spn xs f) : Spn xs fun i => - f i := (h.mul (-1)).cast fun i => by omega
theorem Spn.of (h : ∀ r ∈ ys, Spn xs (vt r)) (k : Spn ys f) : Spn xs f := by
  induction k with
  | zero => exact .zero
  | step c m k ih => exact ih.add ((h _ m).mul c)
theorem Spn.mono (h : ∀ r ∈ ys, r ∈ xs) (k : Spn ys f) : Spn xs f := k.of fun r m => .mem (h r m)
theorem Spn.nil (h : Spn [] f) : ∀ i, f i = 0 := by
  cases h with
  | zero => exact fun _ => rfl
  | step c m k => cases m
theorem Spn.cons (h : Spn (r :: xs) f) : ∃ (c : Int) (g : Vf), Spn xs g ∧ ∀ i, f i = c * vt r i + g i := by
  induction h with
  | zero => exact ⟨0, _, .zero, fun i => by simp⟩
  | step d m k ih =>
    obtain ⟨c, g, hg, e⟩ := ih
    rcases List.mem_cons.mp m with rfl | m
    · exact ⟨c + d, g, hg, fun i => by have := e i; dsimp only; rw [this]; grind⟩
    · exact ⟨c, _, .step d m hg, fun i => by have := e i; dsimp only; rw [this]; grind⟩
theorem Spn.app (h : Spn (xs ++ ys) f) : ∃ g k : Vf, Spn xs g ∧ Spn ys k ∧ ∀ i, f i = g i + k i := by
  induction h with
  | zero => exact ⟨_, _, .zero, .zero, fun i => by simp⟩
  | step d m k ih =>
    obtain ⟨g, k, hg, hk, e⟩ := ih
    rcases List.mem_append.mp m with m | m
    · exact ⟨_, _, .step d m hg, hk, fun i => by have := e i; dsimp only; rw [this]; grind⟩
    · exact ⟨_, _, hg, .step d m hk, fun i => by have := e i; dsimp only; rw [this]; grind⟩
end
/-- the same sums -/
def Same (xs ys : List (List Int)) : Prop := (∀ r ∈ xs, Spn ys (vt r)) ∧ ∀ r ∈ ys, Spn xs (vt r)
section
variable {xs ys zs : List (List Int)} {f : Vf}
theorem Same.refl : Same xs xs := ⟨fun _ h => .mem h, fun _ h => .mem h⟩
theorem Same.symm (h : Same xs ys) : Same ys xs := ⟨h.2, h.1⟩
theorem Same.trans (h : Same xs ys) (k : Same ys zs) : Same xs zs := ⟨fun r m => (h.1 r m).of k.1, fun r m => (k.2 r m).of h.2⟩
theorem Same.spn (h : Same xs ys) : Spn xs f ↔ Spn ys f := ⟨fun k => k.of h.1, fun k => k.of h.2⟩
theorem Same.of_mem (h : ∀ r, r ∈ xs ↔ r ∈ ys) : Same xs ys := ⟨fun r m => .mem ((h r).mp m), fun r m => .mem ((h r).mpr m)⟩
end
/-- a row less another one so many times -/
def rless (row other : List Int) (many : Int) : List Int := List.zipWith (fun a b => a - many * b) row other
theorem rless_len {a b : List Int} {n : Nat} (ha : a.length = n) (hb : b.length = n) (m : Int) : (rless a b m).length = n := by
  unfold rless; rw [List.length_zipWith, ha, hb, Nat.min_self]
theorem rless_at {a b : List Int} (e : a.length = b.length) (m : Int) (i : Nat) : vt (rless a b m) i = vt a i - m * vt b i := by
  unfold rless
  show (List.zipWith _ a b).getD i 0 = a.getD i 0 - m * b.getD i 0
  simp only [List.getD_eq_getElem?_getD, List.getElem?_zipWith]
  by_cases h : i < a.length
  · rw [List.getElem?_eq_getElem h, List.getElem?_eq_getElem (by omega : i < b.length)]; rfl
  · rw [List.getElem?_eq_none (by omega), List.getElem?_eq_none (by omega)]; simp
theorem vt_mem {r : List Int} {i : Nat} (h : i < r.length) : vt r i ∈ r := by
  show r.getD i 0 ∈ r
  rw [List.getD_eq_getElem?_getD, List.getElem?_eq_getElem h]; exact List.getElem_mem h
theorem vt_bd {r : List Int} {n : Nat} (h : ∀ x ∈ r, Bd n x) (i : Nat) : Bd n (vt r i) := by
  by_cases hi : i < r.length
  · exact h _ (vt_mem hi)
  · show Bd n (r.getD i 0)
    rw [List.getD_eq_getElem?_getD, List.getElem?_eq_none (by omega)]; exact Bd.zero
theorem bd_vt {r : List Int} {n : Nat} (h : ∀ i, Bd n (vt r i)) : ∀ x ∈ r, Bd n x := fun x hx => by
  obtain ⟨i, hi⟩ := List.getElem?_of_mem hx
  have := h i
  rwa [show vt r i = x by show r.getD i 0 = x; rw [List.getD_eq_getElem?_getD, hi]; rfl] at this
/-- how large busy rows may come to be: n is a budget of passes, b the bits of all there is to come -/
def GSz (b n : Nat) (busy : List (List Int)) : Prop := ∃ E M m g k : Nat, (∀ r ∈ busy, ∀ i, (vt r i).natAbs ≤ E) ∧ (∀ r ∈ busy, (vt r 0).natAbs ≤ M) ∧ (1 < busy.length → ∃ r ∈ busy, (vt r 0).natAbs ≤ m) ∧ M * m < 2 ^ g ∧ g + busy.length + k ≤ n ∧ (k = 0 → ∀ r ∈ busy, ∀ s ∈ busy, (0 < vt r 0 ↔ 0 < vt s 0)) ∧ E * M * 4 ^ n < 2 ^ b
structure GInv (L b : Nat) (xs still busy : List (List Int)) (n : Nat) : Prop where
  z : ∀ r ∈ still, vt r 0 = 0
  nz : ∀ r ∈ busy, vt r 0 ≠ 0
  len : still.length + busy.length = xs.length
  ll : ∀ r ∈ still ++ busy, r.length = L
  sp : Same xs (still ++ busy)
  old : ∀ r ∈ still, ∀ i, (vt r i).natAbs < 2 ^ b
  sz : GSz b n busy
theorem frest_pos {h m : Int} (m0 : 0 < m) : (0 ≤ h.fmod m ∧ h.fmod m < m) ∧ (h.fdiv m).natAbs * m.natAbs ≤ h.natAbs + m.natAbs ∧ (m ≤ h → 2 * h.fmod m ≤ h) := by
  have a := Int.fmod_nonneg_of_pos h m0
  have c := Int.fmod_lt_of_pos h m0
  have e := Int.fdiv_mul_add_fmod h m
  have e2 : ((h.fdiv m) * m).natAbs = (h.fdiv m).natAbs * m.natAbs := Int.natAbs_mul _ _
  refine ⟨⟨a, c⟩, by rw [← e2]; omega, fun l => ?_⟩
  have p : 0 < h.fdiv m * m := by omega
  have q : 0 < h.fdiv m := by
    by_cases z : 0 < h.fdiv m
    · exact z
    · have z : h.fdiv m ≤ 0 := by omega
      have := Int.mul_nonpos_of_nonpos_of_nonneg z (Int.le_of_lt m0)
      omega
  have r : 1 * m ≤ h.fdiv m * m := Int.mul_le_mul_of_nonneg_right (by omega) (Int.le_of_lt m0)
  omega
/-- the rest by a number, the floor's way: its sign is the divisor's -/
theorem frest {h m : Int} (m0 : m ≠ 0) : (h.fmod m).natAbs < m.natAbs ∧ (h.fmod m ≠ 0 → (0 < h.fmod m ↔ 0 < m)) ∧ (h.fdiv m).natAbs * m.natAbs ≤ h.natAbs + m.natAbs ∧ (m.natAbs ≤ h.natAbs → (0 < h ↔ 0 < m) → 2 * (h.fmod m).natAbs ≤ h.natAbs) := by
  rcases Int.lt_or_gt_of_ne m0 with n | p
  · obtain ⟨⟨a, b⟩, c, d⟩ := frest_pos (h := -h) (m := -m) (by omega)
    rw [Int.neg_fmod_neg] at a b d
    rw [Int.neg_fdiv_neg, Int.natAbs_neg, Int.natAbs_neg] at c
    exact ⟨by omega, fun _ => by omega, c, fun l s => by
      have := d (by omega)
      omega⟩
  · obtain ⟨⟨a, b⟩, c, d⟩ := frest_pos (h := h) p
    exact ⟨by omega, fun _ => by omega, c, fun l s => by
      have := d (by omega)
      omega⟩
theorem filter_two {α : Type} (p : α → Bool) : ∀ xs : List α, (xs.filter p).length + (xs.filter fun x => !p x).length = xs.length
  | [] => rfl
  | x :: xs => by
    have := filter_two p xs
    cases h : p x with
    | true => rw [List.filter_cons_of_pos h, List.filter_cons_of_neg (by simp [h])]; simp only [List.length_cons]; omega
    | false => rw [List.filter_cons_of_neg (by simp [h]), List.filter_cons_of_pos (by simp [h])]; simp only [List.length_cons]; omega
abbrev zH (r : List Int) : Bool := decide (vt r 0 = 0)
/-- a row by the lead -/
abbrev redR (lead r : List Int) : List Int := rless r lead ((vt r 0).fdiv (vt lead 0))
theorem gstep {L b n : Nat} {xs still busy rest : List (List Int)} {lead : List Int} (inv : GInv L b xs still busy n) (two : 1 < busy.length) (p : (lead :: rest).Perm busy) (mn : ∀ r ∈ rest, (vt lead 0).natAbs ≤ (vt r 0).natAbs) :
    ∃ n', n = n' + 1 ∧ GInv L b xs (still ++ (rest.map (redR lead)).filter zH) (lead :: (rest.map (redR lead)).filter fun r => !zH r) n' := by
  obtain ⟨E, M, m, g, k, hE, hM, hm, hg, hn, hk, hQ⟩ := inv.sz
  have lb : rest.length + 1 = busy.length := by have := p.length_eq; simpa using this
  have inL : lead ∈ busy := p.mem_iff.mp (by simp)
  have inR : ∀ r ∈ rest, r ∈ busy := fun r hr => p.mem_iff.mp (by simp [hr])
  have llL := inv.ll lead (List.mem_append_right _ inL)
  have llR : ∀ r ∈ rest, r.length = L := fun r hr => inv.ll r (List.mem_append_right _ (inR r hr))
  have n0 := inv.nz lead inL
  have ml1 : 1 ≤ (vt lead 0).natAbs := by omega
  have mlM := hM lead inL
  have mlm : (vt lead 0).natAbs ≤ m := by
    obtain ⟨r, hr, h1⟩ := hm two
    rcases List.mem_cons.mp (p.mem_iff.mpr hr) with rfl | h2
    · exact h1
    · exact Nat.le_trans (mn r h2) h1
  have at_ : ∀ r ∈ rest, ∀ i, vt (redR lead r) i = vt r i - (vt r 0).fdiv (vt lead 0) * vt lead i := fun r hr i => rless_at ((llR r hr).trans llL.symm) _ i
  have hd : ∀ r ∈ rest, vt (redR lead r) 0 = (vt r 0).fmod (vt lead 0) := fun r hr => by
    rw [at_ r hr 0, Int.fmod_def, Int.mul_comm]
  have qb : ∀ r ∈ rest, ((vt r 0).fdiv (vt lead 0)).natAbs ≤ (M + (vt lead 0).natAbs) / (vt lead 0).natAbs := fun r hr => by
    rw [Nat.le_div_iff_mul_le ml1]
    have := (frest (h := vt r 0) n0).2.2.1
    have := hM r (inR r hr)
    omega
  generalize hE' : E + (M + (vt lead 0).natAbs) / (vt lead 0).natAbs * E = E' at *
  have EE' : E ≤ E' := by rw [← hE']; exact Nat.le_add_right _ _
  have sz : ∀ r ∈ rest, ∀ i, (vt (redR lead r) i).natAbs ≤ E' := fun r hr i => by
    rw [at_ r hr i]
    have h1 := hE r (inR r hr) i
    have h2 := Nat.mul_le_mul (qb r hr) (hE lead inL i)
    rw [← Int.natAbs_mul] at h2
    omega
  have szf : ∀ r ∈ rest.map (redR lead), ∀ i, (vt r i).natAbs ≤ E' := fun r hr i => by
    obtain ⟨r0, h0, rfl⟩ := List.mem_map.mp hr
    exact sz r0 h0 i
  obtain ⟨n', rfl⟩ : ∃ n', n = n' + 1 := ⟨n - 1, by omega⟩
  have pot : E' * (vt lead 0).natAbs * 4 ^ n' < 2 ^ b := by
    refine Nat.lt_of_le_of_lt ?_ hQ
    have e1 : E' * (vt lead 0).natAbs ≤ E * M * 4 := by
      rw [← hE', Nat.add_mul]
      have d1 : (M + (vt lead 0).natAbs) / (vt lead 0).natAbs * (vt lead 0).natAbs ≤ M + (vt lead 0).natAbs := Nat.div_mul_le_self _ _
      have d2 : (M + (vt lead 0).natAbs) / (vt lead 0).natAbs * E * (vt lead 0).natAbs = E * ((M + (vt lead 0).natAbs) / (vt lead 0).natAbs * (vt lead 0).natAbs) := by
        rw [Nat.mul_comm _ E, Nat.mul_assoc]
      have d3 := Nat.mul_le_mul_left E d1
      have d4 := Nat.mul_le_mul_left E mlM
      have d5 : E * (M + (vt lead 0).natAbs) = E * M + E * (vt lead 0).natAbs := Nat.mul_add _ _ _
      omega
    have e2 := Nat.mul_le_mul_right (4 ^ n') e1
    have e3 : E * M * 4 * 4 ^ n' = E * M * 4 ^ (n' + 1) := by rw [Nat.pow_succ, Nat.mul_assoc, Nat.mul_comm 4]
    omega
  have big : E' < 2 ^ b := by
    refine Nat.lt_of_le_of_lt ?_ pot
    have h1 : E' * 1 ≤ E' * (vt lead 0).natAbs := Nat.mul_le_mul_left _ ml1
    have h2 : E' * (vt lead 0).natAbs * 1 ≤ E' * (vt lead 0).natAbs * 4 ^ n' := Nat.mul_le_mul_left _ (Nat.pow_pos (by decide))
    omega
  have fl := filter_two zH (rest.map (redR lead))
  rw [List.length_map] at fl
  have inF : ∀ r, r ∈ (rest.map (redR lead)).filter (fun r => !zH r) → ∃ r0 ∈ rest, r = redR lead r0 ∧ vt r 0 ≠ 0 := fun r hr => by
    obtain ⟨h1, h2⟩ := List.mem_filter.mp hr
    obtain ⟨r0, h0, rfl⟩ := List.mem_map.mp h1
    exact ⟨r0, h0, rfl, by simpa using h2⟩
  have inZ : ∀ r, r ∈ (rest.map (redR lead)).filter zH → ∃ r0 ∈ rest, r = redR lead r0 ∧ vt r 0 = 0 := fun r hr => by
    obtain ⟨h1, h2⟩ := List.mem_filter.mp hr
    obtain ⟨r0, h0, rfl⟩ := List.mem_map.mp h1
    exact ⟨r0, h0, rfl, by simpa using h2⟩
  refine ⟨n', rfl, fun r hr => ?_, fun r hr => ?_, ?_, fun r hr => ?_, inv.sp.trans ⟨fun r hr => ?_, fun r hr => ?_⟩, fun r hr i => ?_, ?_⟩
  · rcases List.mem_append.mp hr with hr | hr
    · exact inv.z r hr
    · obtain ⟨_, _, _, z⟩ := inZ r hr
      exact z
  · rcases List.mem_cons.mp hr with rfl | hr
    · exact n0
    · obtain ⟨_, _, _, z⟩ := inF r hr
      exact z
  · have := inv.len
    rw [List.length_append, List.length_cons]
    omega
  · rcases List.mem_append.mp hr with hr | hr
    · rcases List.mem_append.mp hr with hr | hr
      · exact inv.ll r (List.mem_append_left _ hr)
      · obtain ⟨r0, h0, rfl, _⟩ := inZ r hr
        exact rless_len (llR r0 h0) llL _
    · rcases List.mem_cons.mp hr with rfl | hr
      · exact llL
      · obtain ⟨r0, h0, rfl, _⟩ := inF r hr
        exact rless_len (llR r0 h0) llL _
  · rcases List.mem_append.mp hr with hr | hr
    · exact .mem (by simp [hr])
    · have mL : Spn (still ++ (rest.map (redR lead)).filter zH ++ lead :: (rest.map (redR lead)).filter fun r => !zH r) (vt lead) := .mem (by simp)
      rcases List.mem_cons.mp (p.mem_iff.mpr hr) with rfl | h2
      · exact mL
      · have mR : Spn (still ++ (rest.map (redR lead)).filter zH ++ lead :: (rest.map (redR lead)).filter fun r => !zH r) (vt (redR lead r)) := .mem (by
          have h3 : redR lead r ∈ rest.map (redR lead) := List.mem_map.mpr ⟨r, h2, rfl⟩
          cases hz : zH (redR lead r) with
          | true => exact List.mem_append_left _ (List.mem_append_right _ (List.mem_filter.mpr ⟨h3, hz⟩))
          | false => exact List.mem_append_right _ (List.mem_cons_of_mem _ (List.mem_filter.mpr ⟨h3, by rw [hz]; rfl⟩)))
        exact (mR.add (mL.mul ((vt r 0).fdiv (vt lead 0)))).cast fun i => by rw [at_ r h2 i]; omega
  · have old : ∀ r0 ∈ rest, Spn (still ++ busy) (vt (redR lead r0)) := fun r0 h0 =>
      ((Spn.mem (List.mem_append_right _ (inR r0 h0))).sub ((Spn.mem (List.mem_append_right still inL)).mul ((vt r0 0).fdiv (vt lead 0)))).cast fun i => (at_ r0 h0 i).symm
    rcases List.mem_append.mp hr with hr | hr
    · rcases List.mem_append.mp hr with hr | hr
      · exact .mem (by simp [hr])
      · obtain ⟨r0, h0, rfl, _⟩ := inZ r hr
        exact old r0 h0
    · rcases List.mem_cons.mp hr with rfl | hr
      · exact .mem (List.mem_append_right _ inL)
      · obtain ⟨r0, h0, rfl, _⟩ := inF r hr
        exact old r0 h0
  · rcases List.mem_append.mp hr with hr | hr
    · exact inv.old r hr i
    · obtain ⟨r0, h0, rfl, _⟩ := inZ r hr
      exact Nat.lt_of_le_of_lt (sz r0 h0 i) big
  · have szN : ∀ r ∈ lead :: (rest.map (redR lead)).filter (fun r => !zH r), ∀ i, (vt r i).natAbs ≤ E' := fun r hr i => by
      rcases List.mem_cons.mp hr with rfl | hr
      · exact Nat.le_trans (hE r inL i) EE'
      · obtain ⟨r0, h0, rfl, _⟩ := inF r hr
        exact sz r0 h0 i
    have hdN : ∀ r ∈ lead :: (rest.map (redR lead)).filter (fun r => !zH r), (vt r 0).natAbs ≤ (vt lead 0).natAbs := fun r hr => by
      rcases List.mem_cons.mp hr with rfl | hr
      · exact Nat.le_refl _
      · obtain ⟨r0, h0, rfl, _⟩ := inF r hr
        rw [hd r0 h0]
        exact Nat.le_of_lt (frest n0).1
    have sgL : ∀ r ∈ lead :: (rest.map (redR lead)).filter (fun r => !zH r), (0 < vt r 0 ↔ 0 < vt lead 0) := fun r hr => by
      rcases List.mem_cons.mp hr with rfl | hr
      · exact Iff.rfl
      · obtain ⟨r0, h0, rfl, hz⟩ := inF r hr
        rw [hd r0 h0] at hz ⊢
        exact (frest n0).2.1 hz
    have sg : ∀ r ∈ lead :: (rest.map (redR lead)).filter (fun r => !zH r), ∀ s ∈ lead :: (rest.map (redR lead)).filter (fun r => !zH r), (0 < vt r 0 ↔ 0 < vt s 0) := fun r hr s hs => (sgL r hr).trans (sgL s hs).symm
    have small : (vt lead 0).natAbs * (vt lead 0).natAbs < 2 ^ g := Nat.lt_of_le_of_lt (Nat.mul_le_mul mlM mlm) hg
    by_cases easy : g + (lead :: (rest.map (redR lead)).filter (fun r => !zH r)).length ≤ n'
    · exact ⟨E', _, (vt lead 0).natAbs, g, 0, szN, hdN, fun _ => ⟨lead, by simp, Nat.le_refl _⟩, small, by omega, fun _ => sg, pot⟩
    · rw [List.length_cons] at easy
      have k0 : k = 0 := by omega
      have sm := hk k0
      obtain ⟨r0, h0⟩ : ∃ r, r ∈ rest := by
        cases rest with
        | nil => simp at lb; omega
        | cons r _ => exact ⟨r, by simp⟩
      have all : ((rest.map (redR lead)).filter zH).length = 0 := by omega
      have nz0 : vt (redR lead r0) 0 ≠ 0 := fun z => by
        have : redR lead r0 ∈ (rest.map (redR lead)).filter zH := List.mem_filter.mpr ⟨List.mem_map.mpr ⟨r0, h0, rfl⟩, by simpa using z⟩
        rw [List.length_eq_zero_iff.mp all] at this
        cases this
      have half := (frest (h := vt r0 0) n0).2.2.2 (mn r0 h0) (sm r0 (inR r0 h0) lead inL)
      rw [← hd r0 h0] at half
      have hM0 := hM r0 (inR r0 h0)
      have two' : 2 * ((vt lead 0).natAbs * (vt (redR lead r0) 0).natAbs) < 2 ^ g := by
        refine Nat.lt_of_le_of_lt ?_ hg
        have h1 : (vt lead 0).natAbs * (2 * (vt (redR lead r0) 0).natAbs) ≤ m * M := Nat.mul_le_mul mlm (Nat.le_trans half hM0)
        rw [Nat.mul_comm M m]
        have h2 : (vt lead 0).natAbs * (2 * (vt (redR lead r0) 0).natAbs) = 2 * ((vt lead 0).natAbs * (vt (redR lead r0) 0).natAbs) := by rw [Nat.mul_left_comm]
        omega
      have pos : 1 ≤ (vt lead 0).natAbs * (vt (redR lead r0) 0).natAbs := Nat.mul_pos ml1 (by omega)
      obtain ⟨g', rfl⟩ : ∃ g', g = g' + 1 := ⟨g - 1, by
        rcases Nat.eq_zero_or_pos g with z | z
        · subst z; rw [Nat.pow_zero] at two'; omega
        · omega⟩
      rw [Nat.pow_succ] at two'
      have nzT : (rest.map (redR lead)).filter (fun r => !zH r) = (rest.map (redR lead)).filter (fun r => !zH r) := rfl
      exact ⟨E', _, (vt (redR lead r0) 0).natAbs, g', 0, szN, hdN, fun _ => ⟨redR lead r0, List.mem_cons_of_mem _ (List.mem_filter.mpr ⟨List.mem_map.mpr ⟨r0, h0, rfl⟩, by simpa using nz0⟩), Nat.le_refl _⟩, by omega, by rw [List.length_cons]; omega, fun _ => sg, pot⟩
end Z
set_option Elab.async false
set_option linter.all false
set_option maxRecDepth 100000
set_option exponentiation.threshold 20000
/-! R95: rows bound by a line, rows parted at a place, the lower form of three rows. -/
namespace Z
open PySem PySem.Spec PyProof.Rows L2 RZ
/-- rows gathered -/
structure GDone (L b : Nat) (xs still busy : List (List Int)) : Prop where
  z : ∀ r ∈ still, vt r 0 = 0
  nz : ∀ r ∈ busy, vt r 0 ≠ 0
  one : busy.length ≤ 1
  len : still.length + busy.length = xs.length
  ll : ∀ r ∈ still ++ busy, r.length = L
  sp : Same xs (still ++ busy)
  sz : ∀ r ∈ still ++ busy, ∀ x ∈ r, Bd b x
theorem ginv_start {L b e h : Nat} {xs : List (List Int)} (ll : ∀ r ∈ xs, r.length = L) (x3 : xs.length ≤ 3) (be : ∀ r ∈ xs, ∀ x ∈ r, Bd e x) (bh : ∀ r ∈ xs, Bd h (vt r 0)) (eb : e + 5 * h + 11 ≤ b) : ∃ n, GInv L b xs (xs.filter zH) (xs.filter fun r => !zH r) n := by
  have fl := filter_two zH xs
  have inF : ∀ r, r ∈ xs.filter (fun r => !zH r) → r ∈ xs ∧ vt r 0 ≠ 0 := fun r hr => by
    obtain ⟨h1, h2⟩ := List.mem_filter.mp hr
    exact ⟨h1, by simpa using h2⟩
  have inZ : ∀ r, r ∈ xs.filter zH → r ∈ xs ∧ vt r 0 = 0 := fun r hr => by
    obtain ⟨h1, h2⟩ := List.mem_filter.mp hr
    exact ⟨h1, by simpa using h2⟩
  have back : ∀ r, r ∈ xs ↔ r ∈ xs.filter zH ++ xs.filter fun r => !zH r := fun r => by
    rw [List.mem_append]
    constructor
    · intro hr
      cases hz : zH r with
      | true => exact .inl (List.mem_filter.mpr ⟨hr, hz⟩)
      | false => exact .inr (List.mem_filter.mpr ⟨hr, by rw [hz]; rfl⟩)
    · rintro (hr | hr)
      · exact (inZ r hr).1
      · exact (inF r hr).1
  refine ⟨2 * h + 5, fun r hr => (inZ r hr).2, fun r hr => (inF r hr).2, fl, fun r hr => ll r ((back r).mpr hr), Same.of_mem back, fun r hr i => ?_, 2 ^ e, 2 ^ h, 2 ^ h, 2 * h + 1, 1, fun r hr i => ?_, fun r hr => ?_, fun l => ?_, ?_, by omega, fun k => absurd k (by decide), ?_⟩
  · have := (vt_bd (be r (inZ r hr).1) i).lt
    exact Nat.lt_of_lt_of_le this (Nat.pow_le_pow_right (by decide) (by omega))
  · exact Nat.le_of_lt (vt_bd (be r (inF r hr).1) i).lt
  · exact Nat.le_of_lt (bh r (inF r hr).1).lt
  · obtain ⟨r, hr⟩ : ∃ r, r ∈ xs.filter fun r => !zH r := by
      cases q : xs.filter fun r => !zH r with
      | nil => rw [q] at l; simp at l
      | cons r _ => exact ⟨r, by simp⟩
    exact ⟨r, hr, Nat.le_of_lt (bh r (inF r hr).1).lt⟩
  · rw [← Nat.pow_add]
    exact Nat.pow_lt_pow_right (by decide) (by omega)
  · rw [show (4 : Nat) = 2 ^ 2 from rfl, ← Nat.pow_mul, ← Nat.pow_add, ← Nat.pow_add]
    exact Nat.pow_lt_pow_right (by decide) (by omega)
theorem GInv.bd {L b n : Nat} {xs still busy : List (List Int)} (g : GInv L b xs still busy n) : ∀ r ∈ busy, ∀ i, Bd b (vt r i) := fun r hr i => by
  obtain ⟨E, M, m, gg, k, hE, hM, hm, hg, hn, hk, hQ⟩ := g.sz
  have h1 := hE r hr i
  have h2 := hM r hr
  have h3 := g.nz r hr
  have m1 : 1 ≤ M := by omega
  have a1 : E * 1 ≤ E * M := Nat.mul_le_mul_left _ m1
  have a2 : E * M * 1 ≤ E * M * 4 ^ n := Nat.mul_le_mul_left _ (Nat.pow_pos (by decide))
  exact Bd.lit (by omega)
theorem GInv.done {L b n : Nat} {xs still busy : List (List Int)} (g : GInv L b xs still busy n) (l : ¬ 1 < busy.length) : GDone L b xs still busy :=
  ⟨g.z, g.nz, by omega, g.len, g.ll, g.sp, fun r hr => bd_vt fun i => by
    rcases List.mem_append.mp hr with hr | hr
    · exact Bd.lit (g.old r hr i)
    · exact g.bd r hr i⟩
/-! ### a number ahead -/
abbrev upV (x : Int) (f : Vf) : Vf := fun i => match i with
  | 0 => x
  | i + 1 => f i
abbrev dnV (f : Vf) : Vf := fun i => f (i + 1)
theorem vt_tail (r : List Int) (i : Nat) : vt r.tail i = vt r (i + 1) := by
  cases r with
  | nil => simp
  | cons a r => simp
theorem vt_cons (a : Int) (r : List Int) : vt (a :: r) = upV a (vt r) := funext fun i => by
  cases i with
  | zero => rfl
  | succ i => simp [upV]
theorem Spn.tails {zs : List (List Int)} {F : Vf} (h : Spn zs F) : Spn (zs.map List.tail) (dnV F) := by
  induction h with
  | zero => exact .zero
  | step c m k ih =>
    refine (Spn.step c (List.mem_map.mpr ⟨_, m, rfl⟩) ih).cast fun i => ?_
    dsimp only [dnV]
    rw [vt_tail]
theorem Same.tails {as bs : List (List Int)} (h : Same as bs) : Same (as.map List.tail) (bs.map List.tail) :=
  ⟨fun r hr => by
    obtain ⟨s, hs, rfl⟩ := List.mem_map.mp hr
    exact (h.1 s hs).tails.cast fun i => (vt_tail s i).symm, fun r hr => by
    obtain ⟨s, hs, rfl⟩ := List.mem_map.mp hr
    exact (h.2 s hs).tails.cast fun i => (vt_tail s i).symm⟩
theorem Spn.heads0 {zs : List (List Int)} {F : Vf} (h : Spn zs F) {i : Nat} (z : ∀ r ∈ zs, vt r i = 0) : F i = 0 := by
  induction h with
  | zero => rfl
  | step c m k ih => dsimp only; rw [ih, z _ m]; simp
/-! ### bound by a line -/
def dot3 (l : List Int) (f : Vf) : Int := vt l 0 * f 0 + vt l 1 * f 1 + vt l 2 * f 2
abbrev hrow (l : List Int) (n : Int) (r : List Int) : List Int := (dot3 l (vt r)).fmod n :: r
theorem Spn.hrows {l : List Int} {n : Int} {xs : List (List Int)} {F : Vf} (h : Spn (xs.map (hrow l n)) F) : n ∣ F 0 - dot3 l (dnV F) := by
  induction h with
  | zero => simp [dot3]
  | @step f r c m k ih =>
    obtain ⟨s, hs, rfl⟩ := List.mem_map.mp m
    obtain ⟨u, hu⟩ := ih
    have e := Int.mul_fdiv_add_fmod (dot3 l (vt s)) n
    refine ⟨u - c * (dot3 l (vt s)).fdiv n, ?_⟩
    have e2 : vt (hrow l n s) 0 = dot3 l (vt s) - n * (dot3 l (vt s)).fdiv n := by
      show (dot3 l (vt s)).fmod n = _
      omega
    have e3 : dot3 l (dnV fun i => f i + c * vt (hrow l n s) i) = dot3 l (dnV f) + c * dot3 l (vt s) := by
      simp only [dot3, dnV]
      rw [vt_cons]
      simp only [upV]
      grind
    dsimp only
    rw [e3, e2]
    grind
theorem Spn.lift {l : List Int} {n : Int} {xs : List (List Int)} {f : Vf} (h : Spn xs f) : ∃ x, Spn (xs.map (hrow l n)) (upV x f) := by
  induction h with
  | zero => exact ⟨0, Spn.zero.cast fun i => by cases i <;> rfl⟩
  | @step f r c m k ih =>
    obtain ⟨x, hx⟩ := ih
    refine ⟨x + c * (dot3 l (vt r)).fmod n, (Spn.step c (List.mem_map.mpr ⟨r, m, rfl⟩) hx).cast fun i => ?_⟩
    rw [vt_cons]
    cases i <;> rfl
/-- so often goes a bottom's rest in -/
abbrev oft (n h : Int) : Int := n.fdiv (Int.gcd h n)
theorem oft_dvd {n h c : Int} (n0 : 0 < n) : n ∣ oft n h * h ∧ (n ∣ c * h → oft n h ∣ c) := by
  have g0 : 0 < Int.gcd h n := Nat.pos_of_ne_zero fun z => by
    have := Int.gcd_eq_zero_iff.mp z
    omega
  obtain ⟨n', hn⟩ := Int.gcd_dvd_right h n
  obtain ⟨h', hh⟩ := Int.gcd_dvd_left h n
  have gz : ((Int.gcd h n : Nat) : Int) ≠ 0 := by omega
  have eo : oft n h = n' := by
    exact (congrArg (fun z => z.fdiv ((Int.gcd h n : Nat) : Int)) hn).trans (Int.mul_fdiv_cancel_left _ gz)
  rw [eo]
  have cop : Int.gcd h' n' = 1 := by
    have e : Int.gcd h n * Int.gcd h' n' = Int.gcd h n * 1 := by
      have : Int.gcd ((Int.gcd h n : Nat) * h') ((Int.gcd h n : Nat) * n') = Int.gcd h n * Int.gcd h' n' := by
        rw [Int.gcd_mul_left]; simp
      rw [← hh, ← hn] at this
      omega
    exact Nat.eq_of_mul_eq_mul_left g0 e
  refine ⟨⟨h', ?_⟩, fun ⟨k, hk⟩ => ?_⟩
  · calc n' * h = n' * (((Int.gcd h n : Nat) : Int) * h') := by rw [← hh]
      _ = (((Int.gcd h n : Nat) : Int) * n') * h' := by grind
      _ = n * h' := by rw [← hn]
  have e : c * h' = n' * k := by
    have : ((Int.gcd h n : Nat) : Int) * (c * h') = ((Int.gcd h n : Nat) : Int) * (n' * k) := by
      calc ((Int.gcd h n : Nat) : Int) * (c * h') = c * (((Int.gcd h n : Nat) : Int) * h') := by grind
        _ = c * h := by rw [← hh]
        _ = n * k := hk
        _ = (((Int.gcd h n : Nat) : Int) * n') * k := by rw [← hn]
        _ = _ := by grind
    exact Int.eq_of_mul_eq_mul_left gz this
  have d : n'.natAbs ∣ c.natAbs * h'.natAbs := by
    rw [← Int.natAbs_mul, e, Int.natAbs_mul]
    exact Nat.dvd_mul_right _ _
  have cop2 : Nat.Coprime n'.natAbs h'.natAbs := by
    have : Nat.gcd h'.natAbs n'.natAbs = 1 := cop
    show Nat.gcd _ _ = 1
    rw [Nat.gcd_comm]; exact this
  exact Int.natAbs_dvd_natAbs.mp (cop2.dvd_of_dvd_mul_right d)
abbrev bRow (n : Int) (r : List Int) : List Int := r.tail.map fun x => oft n (vt r 0) * x
theorem vt_mul (c : Int) (r : List Int) (i : Nat) : vt (r.map fun x => c * x) i = c * vt r i := by
  show (r.map _).getD i 0 = c * r.getD i 0
  simp only [List.getD_eq_getElem?_getD, List.getElem?_map]
  cases r[i]? with
  | none => simp
  | some x => rfl
theorem bound_ok {xs still busy : List (List Int)} {line : List Int} {n : Int} {b : Nat} (x3 : ∀ r ∈ xs, r.length = 3) (n0 : 0 < n) (g : GDone 4 b (xs.map (hrow line n)) still busy) :
    (still.map List.tail ++ busy.map (bRow n)).length = xs.length ∧ (∀ r ∈ still.map List.tail ++ busy.map (bRow n), r.length = 3) ∧ ∀ f, Spn (still.map List.tail ++ busy.map (bRow n)) f ↔ Spn xs f ∧ n ∣ dot3 line f := by
  have tls : (xs.map (hrow line n)).map List.tail = xs := by
    rw [List.map_map]
    conv => rhs; rw [← List.map_id xs]
    exact List.map_congr_left fun r _ => rfl
  have ts := g.sp.tails
  rw [tls] at ts
  have inX : ∀ s ∈ still ++ busy, Spn xs (vt s.tail) ∧ n ∣ vt s 0 - dot3 line (vt s.tail) := fun s hs => by
    refine ⟨ts.2 _ (List.mem_map.mpr ⟨s, hs, rfl⟩), ?_⟩
    have := (g.sp.2 s hs).hrows
    rwa [show dnV (vt s) = vt s.tail from funext fun i => (vt_tail s i).symm] at this
  refine ⟨?_, fun r hr => ?_, fun f => ⟨fun h => ?_, fun ⟨h, d⟩ => ?_⟩⟩
  · have := g.len
    rw [List.length_map] at this
    rw [List.length_append, List.length_map, List.length_map]; exact this
  · rcases List.mem_append.mp hr with hr | hr
    · obtain ⟨s, hs, rfl⟩ := List.mem_map.mp hr
      rw [List.length_tail, g.ll s (List.mem_append_left _ hs)]
    · obtain ⟨s, hs, rfl⟩ := List.mem_map.mp hr
      rw [List.length_map, List.length_tail, g.ll s (List.mem_append_right _ hs)]
  · have step : ∀ r ∈ still.map List.tail ++ busy.map (bRow n), Spn xs (vt r) ∧ n ∣ dot3 line (vt r) := fun r hr => by
      rcases List.mem_append.mp hr with hr | hr
      · obtain ⟨s, hs, rfl⟩ := List.mem_map.mp hr
        obtain ⟨h1, h2⟩ := inX s (List.mem_append_left _ hs)
        rw [g.z s hs] at h2
        exact ⟨h1, by simpa using h2⟩
      · obtain ⟨s, hs, rfl⟩ := List.mem_map.mp hr
        obtain ⟨h1, h2⟩ := inX s (List.mem_append_right _ hs)
        have od := (oft_dvd (h := vt s 0) (c := 0) n0).1
        have e : vt (bRow n s) = fun i => oft n (vt s 0) * vt s.tail i := funext fun i => vt_mul _ _ _
        rw [e]
        refine ⟨h1.mul _, ?_⟩
        obtain ⟨u, hu⟩ := h2
        obtain ⟨v, hv⟩ := od
        refine ⟨v - oft n (vt s 0) * u, ?_⟩
        have e3 : dot3 line (fun i => oft n (vt s 0) * vt s.tail i) = oft n (vt s 0) * dot3 line (vt s.tail) := by
          simp only [dot3]; grind
        rw [e3, show dot3 line (vt s.tail) = vt s 0 - n * u by omega]
        grind
    refine ⟨h.of fun r hr => (step r hr).1, ?_⟩
    clear inX
    induction h with
    | zero => simp [dot3]
    | @step f r c m k ih =>
      obtain ⟨u, hu⟩ := ih
      obtain ⟨v, hv⟩ := (step r m).2
      refine ⟨u + c * v, ?_⟩
      have e3 : dot3 line (fun i => f i + c * vt r i) = dot3 line f + c * dot3 line (vt r) := by
        simp only [dot3]; grind
      rw [e3, hu, hv]
      grind
  · obtain ⟨x, hx⟩ := h.lift (l := line) (n := n)
    have nx := hx.hrows
    have nx : n ∣ x - dot3 line f := nx
    have dx : n ∣ x := by
      have := Int.dvd_add nx d
      rwa [Int.sub_add_cancel] at this
    obtain ⟨G, Kf, hG, hK, e⟩ := (g.sp.spn.mp hx).app
    have G0 := hG.heads0 g.z
    have GT : Spn (still.map List.tail ++ busy.map (bRow n)) (dnV G) := hG.tails.mono fun r hr => List.mem_append_left _ hr
    have ef : ∀ i, f i = dnV G i + dnV Kf i := fun i => e (i + 1)
    have KT : Spn (still.map List.tail ++ busy.map (bRow n)) (dnV Kf) := by
      match busy, g.one, hK with
      | [], _, hK => exact Spn.zero.cast fun i => (hK.nil (i + 1)).symm
      | [r], _, hK =>
        obtain ⟨c, g2, hg2, e2⟩ := hK.cons
        have e2 : ∀ i, Kf i = c * vt r i := fun i => by rw [e2 i, hg2.nil i]; simp
        have x0 : x = c * vt r 0 := by
          have := e 0
          rw [G0, e2 0] at this
          simpa using this
        rw [x0] at dx
        obtain ⟨u, hu⟩ := (oft_dvd (h := vt r 0) n0).2 dx
        refine ((Spn.mem (r := bRow n r) (List.mem_append_right _ (by simp))).mul u).cast fun i => ?_
        have e4 : vt (bRow n r) i = oft n (vt r 0) * vt r.tail i := vt_mul _ _ _
        show u * vt (bRow n r) i = Kf (i + 1)
        rw [e4, e2 (i + 1), vt_tail, hu]
        grind
    exact (GT.add KT).cast fun i => (ef i).symm
end Z
set_option Elab.async false
set_option linter.all false
set_option maxRecDepth 100000
set_option exponentiation.threshold 20000
/-! R96: rows parted at a place; the lower form of three rows and that there is just one. -/
namespace Z
open PySem PySem.Spec PyProof.Rows L2 RZ
abbrev krow (k : Nat) (r : List Int) : List Int := vt r k :: r
theorem Spn.krows {k : Nat} {xs : List (List Int)} {F : Vf} (h : Spn (xs.map (krow k)) F) : F 0 = F (k + 1) := by
  induction h with
  | zero => rfl
  | @step f r c m h ih =>
    obtain ⟨s, hs, rfl⟩ := List.mem_map.mp m
    dsimp only
    rw [ih, vt_cons]
structure PDone (b : Nat) (xs : List (List Int)) (k : Nat) (lead : List Int) (still : List (List Int)) : Prop where
  pos : 0 < vt lead k
  l3 : lead.length = 3
  s3 : ∀ s ∈ still, s.length = 3
  sz : ∀ s ∈ still, vt s k = 0
  len : still.length + 1 = xs.length
  sp : Same xs (lead :: still)
  bd : ∀ r ∈ lead :: still, ∀ x ∈ r, Bd b x
theorem vt_negl (r : List Int) (i : Nat) : vt (r.map fun x => -x) i = -vt r i := by
  have := vt_mul (-1) r i
  rw [show (r.map fun x => -x) = r.map (fun x => -1 * x) from List.map_congr_left fun x _ => by omega, this]
  omega
theorem parted_ok {xs still busy : List (List Int)} {k b : Nat} (ex : ∃ r ∈ xs, vt r k ≠ 0) (g : GDone 4 b (xs.map (krow k)) still busy) :
    ∃ r0, busy = [r0] ∧ r0.tail.length = 3 ∧ vt r0.tail k ≠ 0 ∧ (0 < vt r0.tail k → PDone b xs k r0.tail (still.map List.tail)) ∧ (vt r0.tail k < 0 → PDone b xs k (r0.tail.map fun x => -x) (still.map List.tail)) := by
  have tls : (xs.map (krow k)).map List.tail = xs := by
    rw [List.map_map]
    conv => rhs; rw [← List.map_id xs]
    exact List.map_congr_left fun r _ => rfl
  have ts := g.sp.tails
  rw [tls, List.map_append] at ts
  have eq0 : ∀ s ∈ still ++ busy, vt s.tail k = vt s 0 := fun s hs => by rw [vt_tail]; exact ((g.sp.2 s hs).krows).symm
  obtain ⟨r0, rfl⟩ : ∃ r0, busy = [r0] := by
    match busy, g.one, g with
    | [r], _, _ => exact ⟨r, rfl⟩
    | [], _, g =>
      obtain ⟨r, hr, nz⟩ := ex
      have h1 := g.sp.1 (krow k r) (List.mem_map.mpr ⟨r, hr, rfl⟩)
      have h2 := h1.heads0 (i := 0) (fun s hs => g.z s (by simpa using hs))
      rw [vt_cons] at h2
      exact absurd h2 nz
  have l0 : r0.tail.length = 3 := by rw [List.length_tail, g.ll r0 (by simp)]
  have n0 : vt r0.tail k ≠ 0 := by rw [eq0 r0 (by simp)]; exact g.nz r0 (by simp)
  have s3 : ∀ s ∈ still.map List.tail, s.length = 3 := fun s hs => by
    obtain ⟨t, ht, rfl⟩ := List.mem_map.mp hs
    rw [List.length_tail, g.ll t (List.mem_append_left _ ht)]
  have sz : ∀ s ∈ still.map List.tail, vt s k = 0 := fun s hs => by
    obtain ⟨t, ht, rfl⟩ := List.mem_map.mp hs
    rw [eq0 t (List.mem_append_left _ ht)]
    exact g.z t ht
  have len : (still.map List.tail).length + 1 = xs.length := by
    have := g.len
    rw [List.length_map] at this ⊢
    exact this
  have sp : Same xs (r0.tail :: still.map List.tail) := ts.trans (Same.of_mem fun r => by simp [or_comm])
  have bd : ∀ r ∈ r0.tail :: still.map List.tail, ∀ x ∈ r, Bd b x := fun r hr x hx => by
    rcases List.mem_cons.mp hr with rfl | hr
    · exact g.sz r0 (by simp) x (List.mem_of_mem_tail hx)
    · obtain ⟨t, ht, rfl⟩ := List.mem_map.mp hr
      exact g.sz t (List.mem_append_left _ ht) x (List.mem_of_mem_tail hx)
  refine ⟨r0, rfl, l0, n0, fun p => ⟨p, l0, s3, sz, len, sp, bd⟩, fun p => ⟨by rw [vt_negl]; omega, by rw [List.length_map]; exact l0, s3, sz, len, ?_, fun r hr x hx => ?_⟩⟩
  · refine sp.trans ⟨fun r hr => ?_, fun r hr => ?_⟩
    · rcases List.mem_cons.mp hr with rfl | hr
      · exact ((Spn.mem (r := r0.tail.map fun x => -x) (by simp)).neg).cast fun i => by rw [vt_negl]; omega
      · exact .mem (by simp only [List.mem_cons]; exact .inr hr)
    · rcases List.mem_cons.mp hr with rfl | hr
      · exact ((Spn.mem (r := r0.tail) (by simp)).neg).cast fun i => by rw [vt_negl]
      · exact .mem (by simp only [List.mem_cons]; exact .inr hr)
  · rcases List.mem_cons.mp hr with rfl | hr
    · obtain ⟨y, hy, rfl⟩ := List.mem_map.mp hx
      exact (bd r0.tail (by simp) y hy).neg
    · exact bd r (by simp only [List.mem_cons]; exact .inr hr) x hx
/-- one at this place, 0 else -/
def eV (i : Nat) : Vf := fun j => if j = i then 1 else 0
theorem span_has {xs : List (List Int)} {K : Int} {i : Nat} (k0 : K ≠ 0) (h : Spn xs fun j => K * eV i j) : ∃ r ∈ xs, vt r i ≠ 0 := by
  refine Classical.byContradiction fun z => ?_
  have z : ∀ r ∈ xs, vt r i = 0 := fun r hr => Classical.byContradiction fun w => z ⟨r, hr, w⟩
  have := h.heads0 z
  simp [eV] at this
  exact k0 this
theorem PDone.next {b k j : Nat} {xs still : List (List Int)} {lead : List Int} {K : Int} (p : PDone b xs k lead still) (h : Spn xs fun i => K * eV j i) (jk : j ≠ k) : Spn still fun i => K * eV j i := by
  obtain ⟨c, g, hg, e⟩ := (p.sp.spn.mp h).cons
  have gk := hg.heads0 p.sz
  have ek := e k
  rw [gk, show eV j k = 0 from if_neg (Ne.symm jk)] at ek
  have c0 : c = 0 := by
    have pz := p.pos
    have : c * vt lead k = 0 := by omega
    rcases Int.mul_eq_zero.mp this with z | z
    · exact z
    · omega
  subst c0
  exact hg.cast fun i => by rw [e i]; simp
/-- three rows in lower form -/
structure Hn where
  a : Int
  b : Int
  c : Int
  d : Int
  e : Int
  f : Int
def Hn.rows (h : Hn) : List (List Int) := [[h.a, 0, 0], [h.b, h.c, 0], [h.d, h.e, h.f]]
structure Hn.Ok (h : Hn) : Prop where
  a0 : 0 < h.a
  c0 : 0 < h.c
  f0 : 0 < h.f
  b0 : 0 ≤ h.b
  b1 : h.b < h.a
  d0 : 0 ≤ h.d
  d1 : h.d < h.a
  e0 : 0 ≤ h.e
  e1 : h.e < h.c
theorem spn_three {u v w : List Int} {g : Vf} : Spn [u, v, w] g ↔ ∃ x y z : Int, ∀ i, g i = x * vt u i + y * vt v i + z * vt w i := by
  constructor
  · intro h
    obtain ⟨x, g1, h1, e1⟩ := h.cons
    obtain ⟨y, g2, h2, e2⟩ := h1.cons
    obtain ⟨z, g3, h3, e3⟩ := h2.cons
    exact ⟨x, y, z, fun i => by rw [e1 i, e2 i, e3 i, h3.nil i]; omega⟩
  · rintro ⟨x, y, z, e⟩
    exact ((((Spn.mem (by simp : u ∈ [u, v, w])).mul x).add ((Spn.mem (by simp : v ∈ [u, v, w])).mul y)).add ((Spn.mem (by simp : w ∈ [u, v, w])).mul z)).cast fun i => (e i).symm
theorem vt3 {a b c : Int} : vt [a, b, c] 0 = a ∧ vt [a, b, c] 1 = b ∧ vt [a, b, c] 2 = c := ⟨rfl, rfl, rfl⟩
theorem vt3_far {r : List Int} (h : r.length = 3) {i : Nat} (hi : 3 ≤ i) : vt r i = 0 := by
  show r.getD i 0 = 0
  rw [List.getD_eq_getElem?_getD, List.getElem?_eq_none (by omega)]; rfl
theorem Hn.spn {h : Hn} {g : Vf} : Spn h.rows g ↔ ∃ x y z : Int, g 0 = x * h.a + y * h.b + z * h.d ∧ g 1 = y * h.c + z * h.e ∧ g 2 = z * h.f ∧ ∀ i, 3 ≤ i → g i = 0 := by
  unfold Hn.rows
  rw [spn_three]
  constructor
  · rintro ⟨x, y, z, e⟩
    have e0 := e 0
    have e1 := e 1
    have e2 := e 2
    rw [vt3.1, vt3.1, vt3.1] at e0
    rw [vt3.2.1, vt3.2.1, vt3.2.1] at e1
    rw [vt3.2.2, vt3.2.2, vt3.2.2] at e2
    exact ⟨x, y, z, e0, by omega, by omega, fun i hi => by rw [e i, vt3_far rfl hi, vt3_far rfl hi, vt3_far rfl hi]; omega⟩
  · rintro ⟨x, y, z, e0, e1, e2, e3⟩
    refine ⟨x, y, z, fun i => ?_⟩
    match i with
    | 0 => rw [vt3.1, vt3.1, vt3.1]; exact e0
    | 1 => rw [vt3.2.1, vt3.2.1, vt3.2.1]; omega
    | 2 => rw [vt3.2.2, vt3.2.2, vt3.2.2]; omega
    | i + 3 => rw [e3 (i + 3) (by omega), vt3_far rfl (by omega), vt3_far rfl (by omega), vt3_far rfl (by omega)]; omega
theorem three_vt {r : List Int} (h : r.length = 3) : r = [vt r 0, vt r 1, vt r 2] := by
  match r, h with
  | [a, b, c], _ => rfl
theorem mul_zero_l {z f : Int} (f0 : 0 < f) (h : z * f = 0) : z = 0 := by
  rcases Int.mul_eq_zero.mp h with z | z
  · exact z
  · omega
theorem pos_le_dvd {f z K : Int} (k0 : K ≠ 0) (h : K = z * f) : f.natAbs ≤ K.natAbs := Nat.le_of_dvd (by omega) (Int.natAbs_dvd_natAbs.mpr ⟨z, by rw [h, Int.mul_comm]⟩)
/-- how large its numbers are -/
theorem Hn.le {h : Hn} {K : Int} (ok : 0 < h.a ∧ 0 < h.c ∧ 0 < h.f) (k0 : K ≠ 0) (k : ∀ i, i < 3 → Spn h.rows fun j => K * eV i j) : h.a.natAbs ≤ K.natAbs ∧ h.c.natAbs ≤ K.natAbs ∧ h.f.natAbs ≤ K.natAbs := by
  obtain ⟨x0, y0, z0, a0, b0, c0, _⟩ := Hn.spn.mp (k 0 (by decide))
  obtain ⟨x1, y1, z1, a1, b1, c1, _⟩ := Hn.spn.mp (k 1 (by decide))
  obtain ⟨x2, y2, z2, a2, b2, c2, _⟩ := Hn.spn.mp (k 2 (by decide))
  simp [eV] at a0 b0 c0 a1 b1 c1 a2 b2 c2
  have f0 : h.f ≠ 0 := by have := ok.2.2; omega
  have cn : h.c ≠ 0 := by have := ok.2.1; omega
  have z0' : z0 = 0 := mul_zero_l ok.2.2 (by first | exact c0 | omega)
  have z1' : z1 = 0 := mul_zero_l ok.2.2 (by first | exact c1 | omega)
  subst z0' z1'
  have y0' : y0 = 0 := mul_zero_l ok.2.1 (by omega)
  subst y0'
  exact ⟨pos_le_dvd k0 (z := x0) (by omega), pos_le_dvd k0 (z := y1) (by omega), pos_le_dvd k0 (z := z2) (by omega)⟩
theorem lower_ok {xs : List (List Int)} {a b c d e f : Int} (a0 : 0 < a) (c0 : 0 < c) (f0 : 0 < f) (sp : Same xs [[d, e, f], [b, c, 0], [a, 0, 0]]) :
    Hn.Ok ⟨a, b.fmod a, c, (d - e.fdiv c * b.fmod a).fmod a, e.fmod c, f⟩ ∧ Same xs (Hn.rows ⟨a, b.fmod a, c, (d - e.fdiv c * b.fmod a).fmod a, e.fmod c, f⟩) := by
  refine ⟨⟨a0, c0, f0, Int.fmod_nonneg_of_pos _ a0, Int.fmod_lt_of_pos _ a0, Int.fmod_nonneg_of_pos _ a0, Int.fmod_lt_of_pos _ a0, Int.fmod_nonneg_of_pos _ c0, Int.fmod_lt_of_pos _ c0⟩, sp.trans ⟨fun r hr => ?_, fun r hr => ?_⟩⟩
  · have eb := Int.fdiv_mul_add_fmod b a
    have ee := Int.fdiv_mul_add_fmod e c
    have ed := Int.fdiv_mul_add_fmod (d - e.fdiv c * b.fmod a) a
    simp only [List.mem_cons, List.not_mem_nil, or_false] at hr
    rcases hr with rfl | rfl | rfl
    · refine Hn.spn.mpr ⟨(d - e.fdiv c * b.fmod a).fdiv a, e.fdiv c, 1, ?_, ?_, ?_, fun i hi => vt3_far rfl hi⟩
      · rw [vt3.1]; dsimp only; omega
      · rw [vt3.2.1]; dsimp only; omega
      · rw [vt3.2.2]; dsimp only; omega
    · refine Hn.spn.mpr ⟨b.fdiv a, 1, 0, ?_, ?_, ?_, fun i hi => vt3_far rfl hi⟩
      · rw [vt3.1]; dsimp only; omega
      · rw [vt3.2.1]; dsimp only; omega
      · rw [vt3.2.2]; dsimp only; omega
    · exact .mem (by simp [Hn.rows])
  · have eb := Int.fdiv_mul_add_fmod b a
    have ee := Int.fdiv_mul_add_fmod e c
    have ed := Int.fdiv_mul_add_fmod (d - e.fdiv c * b.fmod a) a
    simp only [Hn.rows, List.mem_cons, List.not_mem_nil, or_false] at hr
    have far : ∀ (r : List Int), r.length = 3 → ∀ x y z : Int, vt r 0 = x * d + y * b + z * a → vt r 1 = x * e + y * c → vt r 2 = x * f → Spn [[d, e, f], [b, c, 0], [a, 0, 0]] (vt r) := fun r l x y z h0 h1 h2 => spn_three.mpr ⟨x, y, z, fun i => by
      match i with
      | 0 => rw [vt3.1, vt3.1, vt3.1]; exact h0
      | 1 => rw [vt3.2.1, vt3.2.1, vt3.2.1]; omega
      | 2 => rw [vt3.2.2, vt3.2.2, vt3.2.2]; omega
      | i + 3 => rw [vt3_far l (by omega), vt3_far rfl (by omega), vt3_far rfl (by omega), vt3_far rfl (by omega)]; omega⟩
    rcases hr with rfl | rfl | rfl
    · exact .mem (by simp)
    · exact far _ rfl 0 1 (-(b.fdiv a)) (by rw [vt3.1]; rw [Int.neg_mul]; omega) (by rw [vt3.2.1]; omega) (by rw [vt3.2.2]; omega)
    · refine far _ rfl 1 (-(e.fdiv c)) (e.fdiv c * b.fdiv a - (d - e.fdiv c * b.fmod a).fdiv a) ?_ ?_ ?_
      · rw [vt3.1]
        have h1 : e.fdiv c * b = e.fdiv c * (b.fdiv a * a) + e.fdiv c * b.fmod a := by rw [← Int.mul_add, eb]
        have h2 : (e.fdiv c * b.fdiv a - (d - e.fdiv c * b.fmod a).fdiv a) * a = e.fdiv c * (b.fdiv a * a) - (d - e.fdiv c * b.fmod a).fdiv a * a := by rw [Int.sub_mul, Int.mul_assoc]
        rw [h2, Int.neg_mul, h1]
        omega
      · rw [vt3.2.1, Int.neg_mul]; omega
      · rw [vt3.2.2]; omega
/-- there is just one lower form -/
theorem Hn.uniq {h k : Hn} (oh : h.Ok) (ok : k.Ok) (s : Same h.rows k.rows) : h = k := by
  have three : ∀ {h k : Hn}, h.Ok → k.Ok → Same h.rows k.rows → (∃ z, k.f = z * h.f) ∧ (∃ y, k.c = y * h.c) ∧ ∃ x, k.a = x * h.a := fun {h k} oh ok s => by
    have r0 := s.2 [k.a, 0, 0] (by simp [Hn.rows])
    have r1 := s.2 [k.b, k.c, 0] (by simp [Hn.rows])
    have r2 := s.2 [k.d, k.e, k.f] (by simp [Hn.rows])
    obtain ⟨x0, y0, z0, a0, b0, c0, _⟩ := Hn.spn.mp r0
    obtain ⟨x1, y1, z1, a1, b1, c1, _⟩ := Hn.spn.mp r1
    obtain ⟨x2, y2, z2, a2, b2, c2, _⟩ := Hn.spn.mp r2
    rw [vt3.1] at a0 a1 a2
    rw [vt3.2.1] at b0 b1 b2
    rw [vt3.2.2] at c0 c1 c2
    have z0' : z0 = 0 := mul_zero_l oh.f0 (by omega)
    have z1' : z1 = 0 := mul_zero_l oh.f0 (by omega)
    subst z0' z1'
    have y0' : y0 = 0 := mul_zero_l oh.c0 (by omega)
    subst y0'
    exact ⟨⟨z2, c2⟩, ⟨y1, by omega⟩, ⟨x0, by omega⟩⟩
  have anti : ∀ {u v : Int}, 0 < u → 0 < v → (∃ z, v = z * u) → (∃ z, u = z * v) → u = v := fun {u v} hu hv ⟨x, hx⟩ ⟨y, hy⟩ => by
    have h1 := pos_le_dvd (by omega) hx
    have h2 := pos_le_dvd (by omega) hy
    omega
  obtain ⟨tf, tc, ta⟩ := three oh ok s
  obtain ⟨uf, uc, ua⟩ := three ok oh s.symm
  have ef := anti oh.f0 ok.f0 tf uf
  have ec := anti oh.c0 ok.c0 tc uc
  have ea := anti oh.a0 ok.a0 ta ua
  have near : ∀ {u v m x : Int}, 0 ≤ u → u < m → 0 ≤ v → v < m → v = x * m + u → v = u := fun {u v m x} h1 h2 h3 h4 e => by
    have : x * m + u = v := e.symm
    have h5 : (x * m + u) % m = u := by rw [Int.add_comm, Int.add_mul_emod_self_right, Int.emod_eq_of_lt h1 h2]
    rw [this, Int.emod_eq_of_lt h3 h4] at h5
    exact h5
  have r1 := s.2 [k.b, k.c, 0] (by simp [Hn.rows])
  have r2 := s.2 [k.d, k.e, k.f] (by simp [Hn.rows])
  obtain ⟨x1, y1, z1, a1, b1, c1, _⟩ := Hn.spn.mp r1
  obtain ⟨x2, y2, z2, a2, b2, c2, _⟩ := Hn.spn.mp r2
  rw [vt3.1] at a1 a2
  rw [vt3.2.1] at b1 b2
  rw [vt3.2.2] at c1 c2
  have z1' : z1 = 0 := mul_zero_l oh.f0 (by omega)
  subst z1'
  have one : ∀ {y c : Int}, 0 < c → y * c = c → y = 1 := fun {y c} h e => by
    have : (y - 1) * c = 0 := by rw [Int.sub_mul]; omega
    have := mul_zero_l h this
    omega
  have y1' : y1 = 1 := one oh.c0 (by omega)
  have z2' : z2 = 1 := one oh.f0 (by omega)
  subst y1' z2'
  have eb : k.b = h.b := near oh.b0 oh.b1 ok.b0 (by rw [ea]; exact ok.b1) (x := x1) (by omega)
  have ee : k.e = h.e := near oh.e0 oh.e1 ok.e0 (by rw [ec]; exact ok.e1) (x := y2) (by omega)
  have y2' : y2 = 0 := mul_zero_l oh.c0 (by omega)
  subst y2'
  have ed : k.d = h.d := near oh.d0 oh.d1 ok.d0 (by rw [ea]; exact ok.d1) (x := x2) (by omega)
  obtain ⟨a, b, c, d, e, f⟩ := h
  obtain ⟨a', b', c', d', e', f'⟩ := k
  simp only at *
  subst ea eb ec ed ee ef
  rfl
end Z
set_option Elab.async false
set_option linter.all false
set_option maxRecDepth 100000
set_option exponentiation.threshold 20000
/-! R97: helpers for rows gathered, bound, parted. -/
namespace Z
open PySem PySem.Spec PyProof.Rows L2 RZ
theorem prs_rows (a b : List Int) : prs ((a.map D.int).map R.d) ((b.map D.int).map R.d) = ((a.zip b).map fun p => D.tup [.int p.1, .int p.2]).map R.d :=
  (prs_ints a b).trans (by rw [List.map_map]; rfl)
theorem zip_rless (a b : List Int) (m : Int) : (a.zip b).map (fun p => D.int (p.1 - m * p.2)) = (rless a b m).map D.int := by
  unfold rless
  rw [← List.map_uncurry_zip_eq_zipWith, List.map_map]; rfl
theorem perm_rows : ∀ {ys : List D} {xs : List (List Int)}, ys.Perm (xs.map rowD) → ∃ ws : List (List Int), ws.Perm xs ∧ ys = ws.map rowD := by
  intro ys xs h
  generalize e : xs.map rowD = ws at h
  induction h generalizing xs with
  | nil => exact ⟨xs, .refl _, e.symm⟩
  | @cons x l1 l2 h ih =>
    cases xs with
    | nil => cases e
    | cons y xs =>
      simp only [List.map_cons, List.cons.injEq] at e
      obtain ⟨rfl, e⟩ := e
      obtain ⟨vs, p, rfl⟩ := ih e
      exact ⟨y :: vs, p.cons y, rfl⟩
  | swap x y l =>
    match xs, e with
    | a :: b :: xs, e =>
      simp only [List.map_cons, List.cons.injEq] at e
      obtain ⟨rfl, rfl, rfl⟩ := e
      exact ⟨b :: a :: xs, .swap _ _ _, rfl⟩
  | trans h1 h2 ih1 ih2 =>
    obtain ⟨v2, p2, rfl⟩ := ih2 e
    obtain ⟨v1, p1, rfl⟩ := ih1 rfl
    exact ⟨v1, p1.trans p2, rfl⟩
theorem absH_row {r : List Int} (h : r.length = 4) : absH (rowD r) = ((vt r 0).natAbs : Int) := by
  obtain ⟨a, b, c, d, rfl⟩ := four_of h
  show (if a < 0 then -a else a) = ((a.natAbs : Nat) : Int)
  split <;> omega
theorem gheads {L b n h : Nat} {xs still busy rest : List (List Int)} {lead : List Int} (inv : GInv L b xs still busy n) (p : (lead :: rest).Perm busy) (hb : ∀ r ∈ busy, Bd h (vt r 0)) :
    ∀ r ∈ lead :: (rest.map (redR lead)).filter fun r => !zH r, Bd h (vt r 0) := fun r hr => by
  have inL : lead ∈ busy := p.mem_iff.mp (by simp)
  rcases List.mem_cons.mp hr with rfl | hr
  · exact hb r inL
  · obtain ⟨h1, _⟩ := List.mem_filter.mp hr
    obtain ⟨r0, h0, rfl⟩ := List.mem_map.mp h1
    have inR : r0 ∈ busy := p.mem_iff.mp (by simp [h0])
    have l1 := inv.ll lead (List.mem_append_right _ inL)
    have l2 := inv.ll r0 (List.mem_append_right _ inR)
    have e : vt (redR lead r0) 0 = (vt r0 0).fmod (vt lead 0) := by
      rw [rless_at (l2.trans l1.symm), Int.fmod_def, Int.mul_comm]
    rw [e]
    have h3 := (frest (h := vt r0 0) (inv.nz lead inL)).1
    have h4 := (hb lead inL).lt
    exact Bd.lit (by omega)
theorem fdiv_bd {n : Nat} {h m : Int} (b : Bd n h) (m0 : m ≠ 0) : Bd (n + 1) (h.fdiv m) := by
  have h1 := (frest (h := h) m0).2.2.1
  have h2 := b.lt
  have m1 : 1 ≤ m.natAbs := by omega
  have q1 : (h.fdiv m).natAbs ≤ h.natAbs + 1 := by
    refine Classical.byContradiction fun w => ?_
    have w2 : (h.natAbs + 2) * m.natAbs ≤ (h.fdiv m).natAbs * m.natAbs := Nat.mul_le_mul_right _ (by omega)
    have w3 : h.natAbs * 1 ≤ h.natAbs * m.natAbs := Nat.mul_le_mul_left _ m1
    rw [Nat.add_mul] at w2
    omega
  refine Bd.lit ?_
  rw [Nat.pow_succ]
  omega
/-- three rows parted three times -/
theorem three_low {xs s2 s1 : List (List Int)} {l m f : List Int} {b2 b1 b0 : Nat} {s0 : List (List Int)} {K : Int} (x3 : xs.length = 3) (k0 : K ≠ 0) (sp : ∀ i, i < 3 → Spn xs fun j => K * eV i j) (p2 : PDone b2 xs 2 l s2) (p1 : PDone b1 s2 1 m s1) (p0 : PDone b0 s1 0 f s0) :
    ∃ a b c d e g : Int, f = [a, 0, 0] ∧ m = [b, c, 0] ∧ l = [d, e, g] ∧ 0 < a ∧ 0 < c ∧ 0 < g ∧ Same xs [[d, e, g], [b, c, 0], [a, 0, 0]] ∧ a.natAbs ≤ K.natAbs ∧ c.natAbs ≤ K.natAbs := by
  have n2 := p2.len
  have n1 := p1.len
  have n0 := p0.len
  have e0 : s0 = [] := List.length_eq_zero_iff.mp (by omega)
  subst e0
  have m2 : vt m 2 = 0 := (p1.sp.2 m (by simp)).heads0 p2.sz
  have f2 : vt f 2 = 0 := (((p0.sp.2 f (by simp)).of fun r hr => p1.sp.2 r (List.mem_cons_of_mem _ hr))).heads0 p2.sz
  have f1 : vt f 1 = 0 := (p0.sp.2 f (by simp)).heads0 p1.sz
  have ef := three_vt p0.l3
  have em := three_vt p1.l3
  have el := three_vt p2.l3
  rw [f1, f2] at ef
  rw [m2] at em
  have q0 := p0.pos
  have q1 := p1.pos
  have q2 := p2.pos
  have s1 : Same xs [l, m, f] := by
    refine p2.sp.trans ⟨fun r hr => ?_, fun r hr => ?_⟩
    · rcases List.mem_cons.mp hr with rfl | hr
      · exact .mem (by simp)
      · refine (p1.sp.1 r hr).of fun r hr => ?_
        rcases List.mem_cons.mp hr with rfl | hr
        · exact .mem (by simp)
        · exact (p0.sp.1 r hr).mono fun r hr => by simp at hr; simp [hr]
    · simp only [List.mem_cons, List.not_mem_nil, or_false] at hr
      rcases hr with rfl | rfl | rfl
      · exact .mem (by simp)
      · exact (p1.sp.2 r (by simp)).mono fun r hr => List.mem_cons_of_mem _ hr
      · exact ((p0.sp.2 r (by simp)).of fun r hr => p1.sp.2 r (List.mem_cons_of_mem _ hr)).mono fun r hr => List.mem_cons_of_mem _ hr
  have s2 : Same xs (Hn.rows ⟨vt f 0, vt m 0, vt m 1, vt l 0, vt l 1, vt l 2⟩) := by
    refine s1.trans (Same.of_mem fun r => ?_)
    show _ ↔ r ∈ [[vt f 0, 0, 0], [vt m 0, vt m 1, 0], [vt l 0, vt l 1, vt l 2]]
    rw [← ef, ← em, ← el]
    simp only [List.mem_cons, List.not_mem_nil, or_false]
    constructor
    · rintro (h | h | h) <;> simp [h]
    · rintro (h | h | h) <;> simp [h]
  have le := Hn.le (h := ⟨vt f 0, vt m 0, vt m 1, vt l 0, vt l 1, vt l 2⟩) ⟨q0, q1, q2⟩ k0 fun i hi => s2.spn.mp (sp i hi)
  refine ⟨vt f 0, vt m 0, vt m 1, vt l 0, vt l 1, vt l 2, ef, em, el, q0, q1, q2, ?_, le.1, le.2.1⟩
  rw [← ef, ← em, ← el]
  exact s1
theorem nrm0 {a : List Int} (ha : a.length = 4) (hz : ∃ n ∈ a, n ≠ 0) : 0 < nrmI a := by
  obtain ⟨w, x, y, z, rfl⟩ := four_of ha
  exact nrmI_pos hz
/-- a four keeps a point -/
def kF (a : List Int) (f : Vf) : Prop := ∀ row ∈ rowsI (pln a), nrmI (pln a) ∣ dot3 row f
theorem dot3_eV (l : List Int) (K : Int) (i : Nat) : K ∣ dot3 l fun j => K * eV i j := ⟨dot3 l (eV i), by simp only [dot3]; grind⟩
def Far (f : Vf) : Prop := ∀ i, 3 ≤ i → f i = 0
def LatOf (h : Hn) (P : Vf → Prop) : Prop := h.Ok ∧ ∀ f, Spn h.rows f ↔ Far f ∧ P f
theorem Far.eV {K : Int} {i : Nat} (h : i < 3) : Far fun j => K * Z.eV i j := fun j hj => by
  show K * Z.eV i j = 0
  rw [show Z.eV i j = 0 from if_neg (by omega)]; omega
def oneH : Hn := ⟨1, 0, 1, 0, 0, 1⟩
theorem one_lat : LatOf oneH fun _ => True := ⟨⟨by decide, by decide, by decide, by decide, by decide, by decide, by decide, by decide, by decide⟩, fun f => ⟨fun h => by
  obtain ⟨x, y, z, _, _, _, e⟩ := Hn.spn.mp h
  exact ⟨e, trivial⟩, fun ⟨h, _⟩ => Hn.spn.mpr ⟨f 0, f 1, f 2, by simp [oneH], by simp [oneH], by simp [oneH], h⟩⟩⟩
/-- all numbers of a lower form -/
theorem Hn.Ok.bd {h : Hn} (ok : h.Ok) {n : Nat} {K : Int} (k0 : K ≠ 0) (kb : Bd n K) (k : ∀ i, i < 3 → Spn h.rows fun j => K * eV i j) : ∀ r ∈ h.rows, ∀ x ∈ r, Bd n x := by
  obtain ⟨l1, l2, l3⟩ := Hn.le ⟨ok.a0, ok.c0, ok.f0⟩ k0 k
  have := kb.lt
  have b0 := ok.b0
  have b1 := ok.b1
  have d0 := ok.d0
  have d1 := ok.d1
  have e0 := ok.e0
  have e1 := ok.e1
  generalize 2 ^ n = M at *
  have le : ∀ x : Int, x.natAbs ≤ K.natAbs → Bd n x := fun x hx => Bd.lit (by have := kb.lt; omega)
  intro r hr x hx
  simp only [Hn.rows, List.mem_cons, List.not_mem_nil, or_false] at hr
  rcases hr with rfl | rfl | rfl <;> simp only [List.mem_cons, List.not_mem_nil, or_false] at hx
  · rcases hx with rfl | rfl | rfl
    · exact le _ l1
    · exact Bd.zero
    · exact Bd.zero
  · rcases hx with rfl | rfl | rfl
    · exact le _ (by omega)
    · exact le _ l2
    · exact Bd.zero
  · rcases hx with rfl | rfl | rfl
    · exact le _ (by omega)
    · exact le _ (by omega)
    · exact le _ l3
end Z
set_option Elab.async false
set_option linter.all false
set_option maxRecDepth 100000
set_option exponentiation.threshold 20000
/-! R98: the plain laws of points kept whole (k71 and its like). -/
namespace Z
open PySem PySem.Spec PyProof.Rows L2 RZ
theorem eqa_self (xs : List D) : PyData.eqvAll (pys xs) (pys xs) = true := by
  have h := eqv_self (.tup xs)
  rwa [show py (.tup xs) = PyData.tuple (pys xs) from rfl, eqv_tt] at h
theorem depth_rows (fs : List (List Int)) : PyData.depthAll (pys (fs.map rowD)) ≤ 10 := depth_fs fs
/-- these fours keep this point -/
def Kp (fours : List (List Int)) (f : Vf) : Prop := ∀ a ∈ fours, kF a f
theorem fours_ok {a : List Int} (la : a.length = 4) (za : ∃ n ∈ a, n ≠ 0) (ba : ∀ x ∈ a, Bd 98 x) : (pln a).length = 4 ∧ (∀ x ∈ pln a, Bd 98 x) ∧ (∃ n ∈ pln a, n ≠ 0) ∧ 0 < nrmI (pln a) ∧ Bd 200 (nrmI (pln a)) ∧ (∀ l ∈ rowsI (pln a), l.length = 3) ∧ (rowsI (pln a)).length = 3 ∧ ∀ l ∈ rowsI (pln a), ∀ x ∈ l, Bd 198 x := by
  have pl : (pln a).length = 4 := by rw [pln_len, la]
  have pb := pln_bds za ba
  have pz := pln_nz za
  refine ⟨pl, pb, pz, nrm0 pl pz, (nrmI_bd pb).mono (by decide), ?_, ?_, fun l hl x hx => (rowsI_bd pb l hl x hx).mono (by decide)⟩
  · obtain ⟨p, q, s, t, e⟩ := four_of pl
    rw [e]
    simp [rowsI]
  · obtain ⟨p, q, s, t, e⟩ := four_of pl
    rw [e]; rfl
theorem fmod_dvd {x n : Int} : x.fmod n = 0 ↔ n ∣ x := Int.dvd_iff_fmod_eq_zero.symm
end Z
set_option Elab.async false
set_option linter.all false
set_option maxRecDepth 100000
set_option exponentiation.threshold 20000
/-! R99: the index of the whole points that a turn keeps whole is the odd part of its size (k73). -/
set_option Elab.async false
set_option linter.all false
set_option maxRecDepth 100000
/-! Z63: some statements as one; a list made by them that nobody writes from here on. -/
namespace Z
open PySem PySem.Spec PyProof.Rows L2 RZ
theorem wp_execs_app {M : Model} {Γ : PySem.Ctx} {env : Env} {l2 : List Stmt} {Q : Flow → Pos → Shared → Prop} {E : Value → Pos → Shared → Prop} : ∀ (l1 : List Stmt) (p : Pos) (s : Shared),
    Sem.wp M Γ (execs l1 env) (fun f p' s' => match f with | .next => Sem.wp M Γ (execs l2 env) Q E p' s' | f => Q f p' s') E p s → Sem.wp M Γ (execs (l1 ++ l2) env) Q E p s
  | [], p, s, h => h
  | st :: l1, p, s, h => by
    have e1 : ∀ l, execs (st :: l) env = exec st env >>= fun f => match f with | .next => execs l env | f => pure f := fun l => by
      rw [execs]
      congr 1
    rw [List.cons_append, e1, Sem.wp_bind']
    rw [e1, Sem.wp_bind'] at h
    refine Sem.wp_mono M Γ _ (fun f p' s' q => ?_) (fun _ _ _ q => q) p s h
    cases f with
    | next => exact wp_execs_app l1 p' s' q
    | ret v => exact q
    | brk => exact q
    | cont => exact q
section
variable {X : Cx}
theorem pss_app {l1 l2 : List Stmt} {t u : TS} (h1 : PSs X l1 t) (h2 : PSs X l2 u) : PSs X (l1 ++ l2) (tSeq t u) := by
  refine ⟨fun pins s σ H D I h => fun Γ p hΓ => wp_execs_app l1 p s ?_⟩
  refine Sem.wp_mono _ Γ _ (fun f p' s' q => ?_) (fun _ _ _ q => q) p s (h1.run pins s σ H { D with nx := u D } I h Γ p hΓ)
  cases f with
  | next =>
    obtain ⟨σ', H', I', q⟩ := q
    exact h2.run pins s' σ' H' D I' q Γ p' hΓ
  | ret v => exact q
  | brk => exact q
  | cont => exact q
theorem ws_app {l1 l2 : List Stmt} {t u : PS1} (h1 : WSs X l1 t) (h2 : WSs X l2 u) : WSs X (l1 ++ l2) (wSeq t u) :=
  ⟨pssImp (pss_app h1.pss h2.pss) fun D s H ⟨m, r, S, N, hE, hS, hw, hf⟩ => ⟨m, r, S, _, hE, hS, hw, ⟨fun r' S' s' m' H' n g e q => ⟨m', r', S', N, e, q, n, hf.later g⟩, hf.rt, hf.bk, hf.ct⟩⟩⟩
/-- what stands here is of the first things of the store -/
def locB (n : Nat) : R → Bool
  | .loc j => decide (j < n)
  | x => noLoc x
def locBE (n : Nat) : Rho → Bool
  | [] => true
  | none :: r => locBE n r
  | some x :: r => locB n x && locBE n r
theorem locBE_at {n : Nat} : ∀ {r : Rho} {i : Nat} {x : R}, locBE n r = true → r[i]? = some (some x) → locB n x = true
  | [], _, _, _, e => by simp at e
  | none :: r, 0, _, _, e => by simp at e
  | some y :: r, 0, x, h, e => by
    simp at e; subst e
    simp only [locBE, Bool.and_eq_true] at h
    exact h.1
  | none :: r, i + 1, x, h, e => locBE_at (r := r) h (by simpa using e)
  | some y :: r, i + 1, x, h, e => by
    simp only [locBE, Bool.and_eq_true] at h
    exact locBE_at h.2 (by simpa using e)
abbrev wFzB (i : Nat) (w : PS1) : PS1 := fun N r S => w { N with nx := fun r' S' => match r'[i]? with
  | some (some (.loc n)) => match S'[n]? with
    | some (.lst xs) => (S.length ≤ n ∧ n + 1 = S'.length) ∧ locBE n (r'.set i none) = true ∧ N.nx (r'.set i (some (.d (.lst xs)))) (S'.take n)
    | _ => False
  | _ => False } r S
theorem fzI {i : Nat} {w : PS1} {N : En} {r : Rho} {S : Sto} (h : ∀ P : Rho → Sto → Prop, (∀ (r' : Rho) (S' : Sto), (match r'[i]? with
  | some (some (.loc n)) => match S'[n]? with
    | some (.lst xs) => (S.length ≤ n ∧ n + 1 = S'.length) ∧ locBE n (r'.set i none) = true ∧ N.nx (r'.set i (some (.d (.lst xs)))) (S'.take n)
    | _ => False
  | _ => False) → P r' S') → w { N with nx := P } r S) : wFzB i w N r S := h _ fun _ _ h => h
theorem ws_fzB {i : Nat} {w : PS1} {st : List Stmt} (h : WSs X st w) : WSs X st (wFzB i w) := by
  refine ⟨⟨fun pins s z H D I ⟨m, r, S, N, hE, hS, hw, hf⟩ => ?_⟩⟩
  refine thn (h.pss.run pins s z H { D with nx := fun z' H' => ∃ a vs, H' a = some (.lst vs) ∧ ∀ od, D.nx z' (upd H' a (.frz od (.lst vs))) } I ⟨m, r, S, _, hE, hS, hw, ⟨fun r' S' s' m' H' h1 g1 e1 r1 => ?_, fun x S' v m' H' n g r q => hf.rt x S' v m' H' n g r q, fun r' S' s' m' H' n g e r => hf.bk r' S' s' m' H' n g e r, fun r' S' s' m' H' n g e r => hf.ct r' S' s' m' H' n g e r⟩⟩) fun fl s1 q => ?_
  · dsimp only at h1
    split at h1
    · rename_i n en
      split at h1
      · rename_i xs ex
        obtain ⟨⟨k1, k2⟩, nl, w⟩ := h1
        obtain ⟨v, hv, a, ha, rv⟩ := e1.at_ i _ en
        subst rv
        obtain ⟨a', ha', vs, hl, hd⟩ := r1.at_ n _ ex
        rw [ha] at ha'; cases ha'
        refine ⟨a, vs, hl, fun od => ?_⟩
        obtain ⟨g2, r2⟩ := frz_last (od := od) g1 hS r1 ex k1 k2 ha hl
        have kp : ∀ (x : R) (v : V), locB n x = true → RepR X.K m' H' x v → RepR X.K (m'.take n) (upd H' a (.frz od (.lst vs))) x v := fun x v nx q => by
          by_cases hx : ∃ j, x = .loc j
          · obtain ⟨j, rfl⟩ := hx
            obtain ⟨b, hb, rfl⟩ := q
            exact ⟨b, by rw [List.getElem?_take_of_lt (of_decide_eq_true nx)]; exact hb, rfl⟩
          · have nx : noLoc x = true := by
              cases x with
              | loc j => exact absurd ⟨j, rfl⟩ hx
              | _ => exact nx
            exact RepR.free x v nx (RepR.conv (fun _ _ h => h) (fun x v => RepD.keep (kt_fz hl) (kf_fz hl) x v) (kt_fz hl) (kf_fz hl) (fun b C h => by rw [upd_ne (ne_of h hl (fun q => nomatch q))]; exact h) x v q)
        refine hf.nx _ _ s' _ _ w g2 ⟨by rw [List.length_set]; exact e1.len, fun j x e => ?_⟩ r2
        by_cases ji : i = j
        · subst ji
          have il : i < r'.length := (List.getElem?_eq_some_iff.mp en).1
          rw [List.getElem?_set_self il] at e
          cases e
          exact ⟨_, hv, a, vs, rfl, .inl ⟨od, upd_same⟩, RepDs.keep (kt_fz hl) (kf_fz hl) xs vs hd⟩
        · rw [List.getElem?_set_ne ji] at e
          obtain ⟨u, h2, h3⟩ := e1.at_ j x e
          exact ⟨u, h2, kp x u (locBE_at nl (by rw [List.getElem?_set_ne ji]; exact e)) h3⟩
      · exact h1.elim
    · exact h1.elim
  · cases fl with
    | next =>
      obtain ⟨z', H', I', a, vs, e, q⟩ := q
      obtain ⟨od, I2⟩ := I'.lock e trivial
      exact ⟨z', _, I2, q od⟩
    | brk => exact q
    | cont => exact q
    | ret u => exact q
end
end Z
set_option Elab.async false
set_option linter.all false
set_option maxRecDepth 100000
set_option exponentiation.threshold 20000
/-! R100: whole points turned there and back (k74). -/
namespace Z
open PySem PySem.Spec PyProof.Rows L2 RZ
theorem orI {a b : PT1} {r : Rho} {S : Sto} {W : Bool → Sto → Prop} (h : ∀ P : Bool → Sto → Prop, (∀ t S1, (if t = true then W true S1 else b r S1 W) → P t S1) → a r S P) : wOrT a b r S W := h _ fun _ _ h => h
end Z
set_option Elab.async false
set_option linter.all false
set_option maxRecDepth 100000
set_option exponentiation.threshold 20000
/-! R101: whole points of several turns (k72). -/
namespace Z
open PySem PySem.Spec PyProof.Rows L2 RZ
/-- a comprehension whose elements are not told, just how they stand to the items -/
theorem lcL_rel {α β : Type} {k : Nat} {chk : Sto → Prop} {f : R → Rho → Option Rho} {t : PT1} {w : PE1} {r : Rho} {S : Sto} {g : α → D} {e : β → D} (Rel : α → β → Prop) (hk : S.take k = S) (hc : chk S) :
    ∀ {xs : List α} {W : List D → Sto → Prop}, (∀ x ∈ xs, ∃ r1, f (.d (g x)) r = some r1 ∧ (∀ W1 : Bool → Sto → Prop, W1 true S → t r1 S W1) ∧ ∀ W1 : PK1, (∀ y S', Rel x y → S'.take k = S → W1 (.r (.d (e y))) S') → w r1 S W1) →
      (∀ ys : List β, ys.length = xs.length → (∀ y ∈ ys, ∃ x ∈ xs, Rel x y) → (∀ x ∈ xs, ∃ y ∈ ys, Rel x y) → W (ys.map e) S) → lcL k chk f t w r ((xs.map g).map R.d) S W
  | [], W, _, q => ⟨hc, q [] rfl (by simp) (by simp)⟩
  | x :: xs, W, h, q => by
    refine ⟨hc, ?_⟩
    obtain ⟨r1, e1, ht, hw⟩ := h x (by simp)
    rw [show f (R.d (g x)) r = some r1 from e1]
    refine ht _ ?_
    simp only [if_true]
    refine hw _ fun y S' hy hk' => ?_
    show lcL k chk f t w r _ (S'.take k) _
    rw [hk']
    refine lcL_rel Rel hk hc (fun x hx => h x (by simp [hx])) fun ys hl h1 h2 => ?_
    refine q (y :: ys) (by simp [hl]) (fun z hz => ?_) (fun z hz => ?_)
    · rcases List.mem_cons.mp hz with rfl | hz
      · exact ⟨x, by simp, hy⟩
      · obtain ⟨u, hu, r⟩ := h1 z hz
        exact ⟨u, by simp [hu], r⟩
    · rcases List.mem_cons.mp hz with rfl | hz
      · exact ⟨y, by simp, hy⟩
      · obtain ⟨u, hu, r⟩ := h2 z hz
        exact ⟨u, by simp [hu], r⟩
theorem all_alone {fs : List (List Int)} {g : Hn} {gs : List Hn} (lat : LatOf g (Kp fs)) (h1 : ∀ y ∈ gs, ∃ x ∈ fs, LatOf y (Kp [x])) (h2 : ∀ x ∈ fs, ∃ y ∈ gs, LatOf y (Kp [x])) {v : Vf} (far : Far v) : Spn g.rows v ↔ ∀ y ∈ gs, Spn y.rows v := by
  rw [lat.2]
  constructor
  · rintro ⟨_, k⟩ y hy
    obtain ⟨x, hx, ly⟩ := h1 y hy
    exact (ly.2 v).mpr ⟨far, fun a ha => by simp at ha; subst ha; exact k a hx⟩
  · intro h
    refine ⟨far, fun a ha => ?_⟩
    obtain ⟨y, hy, ly⟩ := h2 a ha
    exact ((ly.2 v).mp (h y hy)).2 a (by simp)
theorem lat_rev {fs : List (List Int)} {g k : Hn} (lg : LatOf g (Kp fs)) (lk : LatOf k (Kp fs.reverse)) : g = k :=
  Hn.uniq lg.1 lk.1 ⟨fun r hr => (lk.2 _).mpr ⟨((lg.2 _).mp (.mem hr)).1, fun a ha => ((lg.2 _).mp (.mem hr)).2 a (List.mem_reverse.mp ha)⟩, fun r hr => (lg.2 _).mpr ⟨((lk.2 _).mp (.mem hr)).1, fun a ha => ((lk.2 _).mp (.mem hr)).2 a (List.mem_reverse.mpr ha)⟩⟩
abbrev hnD (g : Hn) : D := .tup (g.rows.map rowD)
noncomputable def inB (g : Hn) (p : List Int) : Bool := @decide (Spn g.rows (vt p)) (Classical.propDecidable _)
theorem inB_t {g : Hn} {p : List Int} : inB g p = true ↔ Spn g.rows (vt p) := by unfold inB; exact @decide_eq_true_iff _ (Classical.propDecidable _)
end Z
set_option Elab.async false
set_option linter.all false
set_option maxRecDepth 100000
set_option exponentiation.threshold 20000
set_option maxHeartbeats 4000000
namespace Z
open PySem PySem.Spec PyProof.Rows L2 RZ
open PySem PySem.Spec PyProof.Rows L2 RZ
local macro_rules
  | `(tactic| wide_open with ($a, $bs,*)) => `(tactic| simp -failIfUnchanged only [wSeq, wSet, wFn, fAbs, fLen, fSum, fTup, fList, fMax2, fMin2, fInt, wCons, wVar, wNil, bindV, isLo, wTest, wBin, wUn, pNeg, pCmp, wC, wPar, pInt, pAddI, pMulI, pCat, wUnl, wNever, wFz, wRev, wItS, wSIdx, pSIn, pSCat, pSIx, fSLen, wrL, isLst, wRet, wRetN, wIf, wTup, wLst, dataOf, seqOf, pIx, wUnp, fTp, fNm, fCons, fNil, wStI, wAug, wDrop, wApp, wIt, itOf, wFor, wRng1, wRng2, wZip, wLc, wYes, wAndT, wOrT, wNotT, wAndV, wOrV, wNotV, wIfE, pEqB, pyOf, pyTr, py, pys, wIsi, isT, tyN, wSl, wNo, wSome, wCall, bindVs, rsOf, callL, locR, argLocs, renR, renum, pick, backL, putAll, wNext, retN, pIsN, isNon, pIsB, pInB, wipeR, start1, ixD_10, ixD_20, ixD_21, ixD_30, ixD_31, ixD_32, ixD_40, ixD_41, ixD_42, ixD_43, getI_0, getI_1, getI_2, getI_3, eqv_ii, eqv_bb, eqv_tt, eqv_ll, eqv_nn, eqv_tn, eqv_nt, eqv_it, eqv_ti, eqv_in, eqv_ni, eqa_nil, eqa_nc, eqa_cn, eqa_cc, PyData.depth, PyData.depthAll, Nat.min_zero, Nat.zero_min, Nat.max_zero, Nat.zero_max, Nat.max_self, Nat.min_self, Nat.zero_le, Nat.le_refl, List.append_assoc, List.length_append, at_k, at_0, set_k, set_0, lt_k, take_k, lt_kk, lt_0k, allD, prs, pSub, pDiv, pMod, pPow, pShl, pLt, pLe, pGt, pGe, pEq, pNe, Option.map_some, Option.map_none, Option.bind_some, Option.bind_none, List.getElem?_cons_zero, List.getElem?_cons_succ, List.getElem?_nil, List.set_cons_zero, List.set_cons_succ, List.set_nil, List.length_cons, List.length_nil, List.map_cons, List.map_nil, List.cons_append, List.nil_append, List.replicate_zero, List.replicate_succ, List.reduceReplicate, Nat.reduceAdd, Nat.reduceSub, Nat.reduceLT, Nat.reduceLeDiff, Int.reduceNeg, Int.reduceBEq, Int.reduceAdd, Int.reduceSub, Int.reduceMul, Int.reduceLE, Int.reduceLT, Int.reduceToNat, if_true, if_false, ite_true, ite_false, Bool.false_eq_true, Bool.not_true, Bool.not_false, true_and, and_true, List.nodup_nil, List.take_succ_cons, List.take_zero, List.take_nil, List.take_length, List.take_left, Bool.and_self, Bool.and_true, Bool.true_and, Bool.and_false, Bool.false_and, reduceCtorEq, Nat.zero_add, decide_true, decide_false, Nat.add_zero, List.append_nil, intsOf, Bool.or_false, Bool.or_true, Bool.false_or, Bool.true_or, beq_self_eq_true, String.reduceBEq, ne_eq, not_false_eq_true, forall_const, implies_true, Int.reduceDiv, Int.reduceMod, Int.reducePow, Nat.lt_irrefl, SV.r.injEq, R.d.injEq, false_implies, imp_self, Int.cast_ofNat_Int, List.nodup_cons, List.not_mem_nil, not_false_iff, Int.ofNat_zero, Int.natCast_zero, Int.natCast_one, Nat.reducePow, Int.reduceFDiv, Int.reduceFMod, wZipS, fStr, pRepT, wJoin, strsOf, wDGet, pLtD, fSorted, wFzL, fMin2D, fMax2D, wDIx, wRvX, fMin1D, fMax1D, wUnlike, wRvL, pCatQ, wDNew, pInD, pIxD, wDPut, fLenD, wKNew, wKNew1, pInK, pIxK, wKPut, fLenK, fListK, R.loc.injEq, forall_eq', List.mem_singleton, Nat.reduceEqDiff, wNum, wTupR, pIxT, fLenT, getR_0, getR_1, getR_2, wEnum, wDNew1, fSortX, wVals, wClr, wCntL, wItX, wGetK, wItemsS, wZipX, xL, xNext, xSeq, xIf, xRaise, xDrop, xSet, xRet, xE, xaL, xaCons, xTup, wxCall, wwCall, wTryK, wIsX, wIsXT, wAugI, wLstA, wAtL, wUnlA, pIxA, fLenA, wItA, wAppA, wPopA, wClrA, wStIA, noLocs, noLoc, wSlT, pSMul, wSplit, wPart, fIntT, wChn, wSortK, fMin3, wFzS, noLocE, noLoc, wFzB, locB, locBE, $a:term, $[$bs:term],*])
/-- slots: 0 one, 1 other -/
def w_divisor : PS1 :=
  (wSeq (wSet 0 (wFn fAbs (wCons (wVar 0) wNil)))
  (wSeq (wSet 1 (wFn fAbs (wCons (wVar 1) wNil)))
  (wSeq (wWhile (wTest (wBin pGt (wVar 1) (wC (.int 0)))) (wPar 0 1 (wCons (wVar 1) (wCons (wBin pMod (wVar 0) (wVar 1)) wNil))))
  (wRet (wVar 0)))))
def sp_divisor : SpZ := spGcd
theorem rd_divisor : ∀ rs S W, rs.length = 2 → sp_divisor rs S W → w_divisor { nx := fun _ S1 => retN S.length W (.d .non) S1, rt := retN S.length W } (start1 2 rs) S := by
  intro rs S W _ h
  unfold sp_divisor spGcd at h
  split at h
  · rename_i a b _
    wide_open with (w_divisor, wWhile)
    refine ⟨fun n r1 S1 => ∃ x y : Nat, r1 = [some (.d (.int x)), some (.d (.int y))] ∧ S1 = S ∧ n = y ∧ Nat.gcd x y = Int.gcd a b, ⟨_, _, _, rfl, rfl, rfl, rfl⟩, ?_⟩
    rintro n r1 S1 ⟨x, y, rfl, rfl, rfl, hg⟩
    wide_open with (if_true, if_true)
    by_cases hy : 0 < n
    · rw [if_pos (by simpa using hy)]
      refine ⟨by omega, _, _, Cut.refl, x % n, Nat.mod_lt _ hy, n, x % n, ?_, rfl, rfl, ?_⟩
      · rw [fmod_pos (by omega)]; rfl
      · rw [← hg, Nat.gcd_comm x n, Nat.gcd_rec n x, Nat.gcd_comm]
    · rw [if_neg (by simpa using hy)]
      have : n = 0 := by omega
      subst this
      rw [Nat.gcd_zero_right] at hg
      rw [hg]; exact h
  · exact h.elim
/-- slots: 0 four, 1 number -/
def w_size : PS1 :=
  (wRet (wFn fSum (wCons (wLc (wIt (wVar 0)) (fNm 1) wYes (wBin pMulI (wVar 1) (wVar 1)) [1]) wNil)))
def sp_size : SpZ := spSize
theorem rd_size : ∀ rs S W, rs.length = 1 → sp_size rs S W → w_size { nx := fun _ S1 => retN S.length W (.d .non) S1, rt := retN S.length W } (start1 2 rs) S := by
  intro rs S W _ h
  unfold sp_size spSize at h
  split at h
  · obtain ⟨ns, rfl, hb, hl, h⟩ := h
    wide_open with (w_size, if_true)
    refine ⟨by simp; omega, lcL_map (fun x => match x with | .d (.int n) => .int (n * n) | _ => .non) (by simp) trivial ?_ ?_⟩
    · intro x hx
      simp only [List.map_map, List.mem_map, Function.comp] at hx
      obtain ⟨n, hn, rfl⟩ := hx
      refine ⟨_, rfl, fun W1 h => h, fun W1 h => ?_⟩
      wide_open with (if_true, if_true)
      exact ⟨mulOk (hb n hn) (hb n hn) (by decide), h⟩
    · have e : ((ns.map D.int).map R.d).map (fun x => match x with | .d (.int n) => D.int (n * n) | _ => .non) = (ns.map fun x => x * x).map D.int := by simp [List.map_map, Function.comp_def]
      rw [e]
      wide_open with (intsOf_map, if_true)
      exact h
  · exact h.elim
/-- slots: 0 four, 1 w, 2 x, 3 y, 4 z, 5 first, 6 second, 7 third -/
def w_rows_of : PS1 :=
  (wSeq (wUnp (fTp 4 (fCons (fNm 1) (fCons (fNm 2) (fCons (fNm 3) (fCons (fNm 4) fNil))))) (wVar 0))
  (wSeq (wSet 5 (wTup (wCons (wBin pSub (wBin pSub (wBin pAddI (wBin pMulI (wVar 1) (wVar 1)) (wBin pMulI (wVar 2) (wVar 2))) (wBin pMulI (wVar 3) (wVar 3))) (wBin pMulI (wVar 4) (wVar 4))) (wCons (wBin pMulI (wC (.int 2)) (wBin pSub (wBin pMulI (wVar 2) (wVar 3)) (wBin pMulI (wVar 1) (wVar 4)))) (wCons (wBin pMulI (wC (.int 2)) (wBin pAddI (wBin pMulI (wVar 2) (wVar 4)) (wBin pMulI (wVar 1) (wVar 3)))) wNil)))))
  (wSeq (wSet 6 (wTup (wCons (wBin pMulI (wC (.int 2)) (wBin pAddI (wBin pMulI (wVar 2) (wVar 3)) (wBin pMulI (wVar 1) (wVar 4)))) (wCons (wBin pSub (wBin pAddI (wBin pSub (wBin pMulI (wVar 1) (wVar 1)) (wBin pMulI (wVar 2) (wVar 2))) (wBin pMulI (wVar 3) (wVar 3))) (wBin pMulI (wVar 4) (wVar 4))) (wCons (wBin pMulI (wC (.int 2)) (wBin pSub (wBin pMulI (wVar 3) (wVar 4)) (wBin pMulI (wVar 1) (wVar 2)))) wNil)))))
  (wSeq (wSet 7 (wTup (wCons (wBin pMulI (wC (.int 2)) (wBin pSub (wBin pMulI (wVar 2) (wVar 4)) (wBin pMulI (wVar 1) (wVar 3)))) (wCons (wBin pMulI (wC (.int 2)) (wBin pAddI (wBin pMulI (wVar 3) (wVar 4)) (wBin pMulI (wVar 1) (wVar 2)))) (wCons (wBin pAddI (wBin pSub (wBin pSub (wBin pMulI (wVar 1) (wVar 1)) (wBin pMulI (wVar 2) (wVar 2))) (wBin pMulI (wVar 3) (wVar 3))) (wBin pMulI (wVar 4) (wVar 4))) wNil)))))
  (wRet (wTup (wCons (wVar 5) (wCons (wVar 6) (wCons (wVar 7) wNil)))))))))
def sp_rows_of : SpZ := fun rs S W => match rs with
  | [.d (.tup xs)] => ∃ a : List Int, xs = a.map D.int ∧ a.length = 4 ∧ (∀ x ∈ a, Bd 60000000 x) ∧ W (.d (.tup ((rowsI a).map rowD))) S
  | _ => False
theorem rd_rows_of : ∀ rs S W, rs.length = 1 → sp_rows_of rs S W → w_rows_of { nx := fun _ S1 => retN S.length W (.d .non) S1, rt := retN S.length W } (start1 8 rs) S := by
  intro rs S W _ h
  unfold sp_rows_of at h
  split at h
  · obtain ⟨a, rfl, ha, hb, h⟩ := h
    obtain ⟨w, x, y, z, rfl⟩ := four_of ha
    simp only [List.mem_cons, List.not_mem_nil, or_false, forall_eq_or_imp, forall_eq] at hb
    obtain ⟨p1, p2, p3, p4⟩ := hb
    wide_open with (w_rows_of, if_true)
    repeat' refine And.intro ?_ ?_
    all_goals first | exact mulOk_l (by decide) | exact mulOk (by assumption) (by assumption) (by decide) | exact h
  · exact h.elim
/-- slots: 0 row, 1 other, 2 many, 3 one, 4 two -/
def w_row_less : PS1 :=
  (wRet (wFn fTup (wCons (wLc (wZip (wCons (wVar 0) (wCons (wVar 1) wNil))) (fTp 2 (fCons (fNm 3) (fCons (fNm 4) fNil))) wYes (wBin pSub (wVar 3) (wBin pMulI (wVar 2) (wVar 4))) [3, 4]) wNil)))
def sp_row_less : SpZ := fun rs S W => match rs with
  | [.d (.tup xs), .d (.tup ys), .d (.int m)] => ∃ a b : List Int, xs = a.map D.int ∧ ys = b.map D.int ∧ a.length ≤ 1000 ∧ (∀ x ∈ b, MulOk m x) ∧ W (.d (rowD (rless a b m))) S
  | _ => False
theorem rd_row_less : ∀ rs S W, rs.length = 3 → sp_row_less rs S W → w_row_less { nx := fun _ S1 => retN S.length W (.d .non) S1, rt := retN S.length W } (start1 5 rs) S := by
  intro rs S W _ h
  unfold sp_row_less at h
  split at h
  · rename_i xs ys m _
    obtain ⟨a, b, rfl, rfl, la, hm, h⟩ := h
    have ad : ∀ c : List Int, allD ((c.map D.int).map R.d) = true := fun c => by induction c with | nil => rfl | cons x c ih => exact ih
    wide_open with (w_row_less, prs_rows)
    refine ⟨⟨ad a, ad b⟩, by simp; omega, lcL_mapD (fun p : Int × Int => D.int (p.1 - m * p.2)) (by simp) trivial (fun p hp => ⟨_, rfl, fun W1 h => h, fun W1 h => ?_⟩) ?_⟩
    · wide_open with (if_true, if_true)
      exact ⟨hm p.2 (List.of_mem_zip hp).2, h⟩
    · rw [zip_rless]
      wide_open with (if_true, if_true)
      exact h
  · exact h.elim
/-- slots: 0 _law_script, 1 _law_k -/
def w_l_at : PS1 :=
  (wSeq (wIf (wTest (wBin pLt (wVar 1) (wFn fLen (wCons (wVar 0) wNil)))) (wRet (wBin pIx (wVar 0) (wVar 1))) wNext)
  (wRet (wC (.int 0))))
def sp_l_at : SpZ := fun rs S W => match rs with
  | [.ro xs, .d (.int k)] => ∃ ns : List Int, xs = ns.map D.int ∧ Script ns ∧ 0 ≤ k ∧ ∀ c : Int, Bd SB c → W (.d (.int c)) S
  | _ => False
theorem rd_l_at : ∀ rs S W, rs.length = 2 → sp_l_at rs S W → w_l_at { nx := fun _ S1 => retN S.length W (.d .non) S1, rt := retN S.length W } (start1 2 rs) S := by
  intro rs S W _ h
  unfold sp_l_at at h
  split at h
  · rename_i k _
    obtain ⟨ns, rfl, hs, k0, h⟩ := h
    unfold w_l_at
    refine seqI fun P hP => ?_
    wide_open with (List.length_map, if_true)
    by_cases hk : k < ns.length
    · obtain ⟨z, hz, hm⟩ := getI_ints k0 hk
      wide_open with (decide_eq_true hk, hz)
      exact h z (Bd.lit (hs.2 z hm))
    · wide_open with (decide_eq_false hk, if_true)
      refine hP _ _ ?_; clear hP
      wide_open with (if_true, if_true)
      exact h 0 Bd.zero
  · exact h.elim
/-- slots: 0 _law_found, 1 _law_many, 2 _law_one -/
def w_l_wholes : PS1 :=
  (wSeq (wIf (wOrT (wNotT (wTest (wIsi "tuple" (wVar 0)))) (wTest (wBin pNe (wFn fLen (wCons (wVar 0) wNil)) (wVar 1)))) (wRet (wC (.bl false))) wNext)
  (wRet (wBin pEq (wFn fLen (wCons (wLc (wIt (wVar 0)) (fNm 2) (wAndT (wTest (wIsi "int" (wVar 2))) (wNotT (wTest (wIsi "bool" (wVar 2))))) (wVar 2) [2]) wNil)) (wVar 1))))
def sp_l_wholes : SpZ := fun rs S W => match rs with
  | [.d (.tup xs), .d (.int n)] => ∃ ns : List Int, xs = ns.map D.int ∧ (ns.length : Int) = n ∧ ns.length ≤ 1000 ∧ W (.d (.bl true)) S
  | _ => False
theorem rd_l_wholes : ∀ rs S W, rs.length = 2 → sp_l_wholes rs S W → w_l_wholes { nx := fun _ S1 => retN S.length W (.d .non) S1, rt := retN S.length W } (start1 3 rs) S := by
  intro rs S W _ h
  unfold sp_l_wholes at h
  split at h
  · obtain ⟨ns, rfl, hl, hs, h⟩ := h
    have e1 : (("tuple" : String) == "bool") = false := by decide
    have e2 : (((ns.length : Nat) : Int) == ((ns.length : Nat) : Int)) = true := by simp
    have t1 : ∀ n, isT "int" (.r (.d (.int n))) = true := fun _ => rfl
    have t2 : ∀ n, isT "bool" (.r (.d (.int n))) = false := fun _ => rfl
    subst hl
    unfold w_l_wholes
    refine seqI fun P hP => ?_
    wide_open with (e1, List.length_map, e2)
    refine hP _ _ ?_; clear hP
    wide_open with (if_true, if_true)
    refine ⟨by simp; omega, lcL_intsF (fun _ => true) (by simp) trivial (fun n hn => ⟨_, rfl, fun W1 h => ?_, fun z W1 h => ?_⟩) ?_⟩
    · wide_open with (t1, t2)
      exact h
    · wide_open with (if_true, if_true)
      exact h
    · have e4 : ns.filter (fun _ => true) = ns := List.filter_eq_self.mpr fun _ _ => rfl
      rw [e4]
      wide_open with (List.length_map, e2)
      exact h
  · exact h.elim
/-- slots: 0 _law_cell, 1 _law_k, 2 _law_number -/
def w_l_mixed : PS1 :=
  (wSeq (wSet 2 (wBin pMod (wBin pAddI (wBin pAddI (wBin pMulI (wVar 0) (wC (.int 1103515245))) (wBin pMulI (wBin pMulI (wC (.int 7919)) (wVar 1)) (wVar 1))) (wVar 1)) (wC (.int 2147483647))))
  (wSeq (wSet 2 (wBin pMod (wBin pMulI (wVar 2) (wVar 2)) (wC (.int 2147483629))))
  (wRet (wBin pMod (wBin pMulI (wVar 2) (wC (.int 69621))) (wC (.int 2147483587))))))
def sp_l_mixed : SpZ := fun rs S W => match rs with
  | [.d (.int c), .d (.int k)] => Bd SB c ∧ (0 ≤ k ∧ k ≤ 2000000000) ∧ ∀ v : Int, W (.d (.int v)) S
  | _ => False
theorem rd_l_mixed : ∀ rs S W, rs.length = 2 → sp_l_mixed rs S W → w_l_mixed { nx := fun _ S1 => retN S.length W (.d .non) S1, rt := retN S.length W } (start1 3 rs) S := by
  intro rs S W _ h
  unfold sp_l_mixed at h
  split at h
  · rename_i c k _
    obtain ⟨hc, ⟨k0, k1⟩, h⟩ := h
    have kb : Bd 40 k := Bd.of_le (b := 2000000000) (by omega) (by omega) (by decide)
    have k2 : Bd 60 (7919 * k) := Bd.of_le (b := 20000000000000) (by omega) (by omega) (by decide)
    unfold w_l_mixed
    refine seqI fun P hP => ?_
    wide_open with (if_true, if_true)
    refine ⟨mulOk_r (by decide), mulOk_l (by decide), mulOk k2 kb (by decide), by decide, ?_⟩
    refine hP _ _ ?_; clear hP
    generalize c * 1103515245 + 7919 * k * k + k = z
    have e1 : z.fmod 2147483647 = z % 2147483647 := fmod_pos (by decide)
    rw [e1]
    have z0 := Int.emod_nonneg z (show (2147483647 : Int) ≠ 0 by decide)
    have z1 := Int.emod_lt_of_pos z (show (0 : Int) < 2147483647 by decide)
    generalize z % 2147483647 = y at *
    refine seqI fun P hP => ?_
    wide_open with (if_true, if_true)
    refine ⟨mulOk_l ⟨by omega, by omega⟩, by decide, ?_⟩
    refine hP _ _ ?_; clear hP
    generalize y * y = x
    have e2 : x.fmod 2147483629 = x % 2147483629 := fmod_pos (by decide)
    rw [e2]
    have x0 := Int.emod_nonneg x (show (2147483629 : Int) ≠ 0 by decide)
    have x1 := Int.emod_lt_of_pos x (show (0 : Int) < 2147483629 by decide)
    wide_open with (if_true, if_true)
    exact ⟨mulOk_r (by decide), by decide, h _⟩
  · exact h.elim
/-- slots: 0 _law_one, 1 _law_other, 2 _law_a, 3 _law_b -/
def w_l_sum : PS1 :=
  (wRet (wFn fSum (wCons (wLc (wZipX (wCons (wVar 0) (wCons (wVar 1) wNil))) (fTp 2 (fCons (fNm 2) (fCons (fNm 3) fNil))) wYes (wBin pMulI (wVar 2) (wVar 3)) [2, 3]) wNil)))
def sp_l_sum : SpZ := fun rs S W => match rs with
  | [.d (.tup xs), .d (.tup ys)] => (∃ a : List Int, xs = a.map D.int ∧ ys = a.map D.int ∧ a.length = 4 ∧ (∀ x ∈ a, Bd 60000000 x) ∧ W (.d (.int (nrmI a))) S) ∨ ∃ l p : List Int, xs = l.map D.int ∧ ys = p.map D.int ∧ l.length = 3 ∧ p.length = 3 ∧ (∀ x ∈ l, Bd 400 x) ∧ (∀ x ∈ p, Bd 3000 x) ∧ W (.d (.int (dot3 l (vt p)))) S
  | [.d (.tup xs), .loc 0] => ∃ l p : List Int, xs = l.map D.int ∧ S = [.lst (p.map D.int)] ∧ l.length = 3 ∧ p.length = 3 ∧ (∀ x ∈ l, Bd 400 x) ∧ (∀ x ∈ p, Bd 3000 x) ∧ W (.d (.int (dot3 l (vt p)))) [.lst (p.map D.int)]
  | _ => False
theorem rd_l_sum : ∀ rs S W, rs.length = 2 → sp_l_sum rs S W → w_l_sum { nx := fun _ S1 => retN S.length W (.d .non) S1, rt := retN S.length W } (start1 4 rs) S := by
  intro rs S W _ h
  unfold sp_l_sum at h
  have i1 : ∀ xs, isLst (.r (.d (.tup xs))) = false := fun _ => rfl
  have i2 : ∀ n, isLst (.r (.loc n)) = true := fun _ => rfl
  have go : ∀ a b c u v w : Int, [a * u, b * v, c * w].sum = dot3 [a, b, c] (vt [u, v, w]) := fun a b c u v w => by
    simp only [dot3, List.sum_cons, List.sum_nil]
    show _ = a * u + b * v + c * w
    omega
  split at h
  · rcases h with ⟨a, rfl, rfl, la, h1, h⟩ | ⟨l, p, rfl, rfl, ll, lp, h1, h2, h⟩
    · obtain ⟨p, q, r, s, rfl⟩ := four_of la
      simp only [List.mem_cons, List.not_mem_nil, or_false, forall_eq_or_imp, forall_eq] at h1
      obtain ⟨a1, a2, a3, a4⟩ := h1
      wide_open with (w_l_sum, lcL, i1)
      refine ⟨mulOk a1 a1 (by decide), mulOk a2 a2 (by decide), mulOk a3 a3 (by decide), mulOk a4 a4 (by decide), ?_⟩
      have e : [p * p, q * q, r * r, s * s].sum = nrmI [p, q, r, s] := by simp only [nrmI, List.sum_cons, List.sum_nil]; omega
      rw [e]
      exact h
    · obtain ⟨a, b, c, rfl⟩ := three_of ll
      obtain ⟨u, v, w, rfl⟩ := three_of lp
      simp only [List.mem_cons, List.not_mem_nil, or_false, forall_eq_or_imp, forall_eq] at h1 h2
      obtain ⟨a1, a2, a3⟩ := h1
      obtain ⟨b1, b2, b3⟩ := h2
      wide_open with (w_l_sum, lcL, i1)
      refine ⟨mulOk a1 b1 (by decide), mulOk a2 b2 (by decide), mulOk a3 b3 (by decide), ?_⟩
      rw [go]
      exact h
  · obtain ⟨l, p, rfl, rfl, ll, lp, h1, h2, h⟩ := h
    obtain ⟨a, b, c, rfl⟩ := three_of ll
    obtain ⟨u, v, w, rfl⟩ := three_of lp
    simp only [List.mem_cons, List.not_mem_nil, or_false, forall_eq_or_imp, forall_eq] at h1 h2
    obtain ⟨a1, a2, a3⟩ := h1
    obtain ⟨b1, b2, b3⟩ := h2
    wide_open with (w_l_sum, lcL, i1, i2)
    refine ⟨mulOk a1 b1 (by decide), mulOk a2 b2 (by decide), mulOk a3 b3 (by decide), ?_⟩
    rw [go]
    exact h
  · exact h.elim
/-- slots: 0 _law_four_here, 1 _law_w, 2 _law_x, 3 _law_y, 4 _law_z, 5 _law_first, 6 _law_second -/
def w_l_rows : PS1 :=
  (wSeq (wUnp (fTp 4 (fCons (fNm 1) (fCons (fNm 2) (fCons (fNm 3) (fCons (fNm 4) fNil))))) (wVar 0))
  (wSeq (wSet 5 (wTup (wCons (wBin pSub (wBin pSub (wBin pAddI (wBin pMulI (wVar 1) (wVar 1)) (wBin pMulI (wVar 2) (wVar 2))) (wBin pMulI (wVar 3) (wVar 3))) (wBin pMulI (wVar 4) (wVar 4))) (wCons (wBin pMulI (wC (.int 2)) (wBin pSub (wBin pMulI (wVar 2) (wVar 3)) (wBin pMulI (wVar 1) (wVar 4)))) (wCons (wBin pMulI (wC (.int 2)) (wBin pAddI (wBin pMulI (wVar 2) (wVar 4)) (wBin pMulI (wVar 1) (wVar 3)))) wNil)))))
  (wSeq (wSet 6 (wTup (wCons (wBin pMulI (wC (.int 2)) (wBin pAddI (wBin pMulI (wVar 2) (wVar 3)) (wBin pMulI (wVar 1) (wVar 4)))) (wCons (wBin pSub (wBin pAddI (wBin pSub (wBin pMulI (wVar 1) (wVar 1)) (wBin pMulI (wVar 2) (wVar 2))) (wBin pMulI (wVar 3) (wVar 3))) (wBin pMulI (wVar 4) (wVar 4))) (wCons (wBin pMulI (wC (.int 2)) (wBin pSub (wBin pMulI (wVar 3) (wVar 4)) (wBin pMulI (wVar 1) (wVar 2)))) wNil)))))
  (wRet (wLst (wCons (wVar 5) (wCons (wVar 6) (wCons (wTup (wCons (wBin pMulI (wC (.int 2)) (wBin pSub (wBin pMulI (wVar 2) (wVar 4)) (wBin pMulI (wVar 1) (wVar 3)))) (wCons (wBin pMulI (wC (.int 2)) (wBin pAddI (wBin pMulI (wVar 3) (wVar 4)) (wBin pMulI (wVar 1) (wVar 2)))) (wCons (wBin pAddI (wBin pSub (wBin pSub (wBin pMulI (wVar 1) (wVar 1)) (wBin pMulI (wVar 2) (wVar 2))) (wBin pMulI (wVar 3) (wVar 3))) (wBin pMulI (wVar 4) (wVar 4))) wNil)))) wNil))))))))
def sp_l_rows : SpZ := fun rs S W => match rs, S with
  | [.d (.tup xs)], [] => ∃ a : List Int, xs = a.map D.int ∧ a.length = 4 ∧ (∀ x ∈ a, Bd 60000000 x) ∧ W (.loc 0) [.lst ((rowsI a).map rowD)]
  | _, _ => False
theorem rd_l_rows : ∀ rs S W, rs.length = 1 → sp_l_rows rs S W → w_l_rows { nx := fun _ S1 => retN S.length W (.d .non) S1, rt := retN S.length W } (start1 7 rs) S := by
  intro rs S W _ h
  unfold sp_l_rows at h
  split at h
  · obtain ⟨a, rfl, ha, hb, h⟩ := h
    obtain ⟨w, x, y, z, rfl⟩ := four_of ha
    simp only [List.mem_cons, List.not_mem_nil, or_false, forall_eq_or_imp, forall_eq] at hb
    obtain ⟨p1, p2, p3, p4⟩ := hb
    wide_open with (w_l_rows, if_true)
    repeat' refine And.intro ?_ ?_
    all_goals first | exact mulOk_l (by decide) | exact mulOk (by assumption) (by assumption) (by decide) | exact h
  · exact h.elim
/-- slots: 0 _law_numbers, 1 _law_found, 2 _law_number, 3 _law_one, 4 _law_other -/
def w_l_divisor : PS1 :=
  (wSeq (wSet 1 (wC (.int 0)))
  (wSeq (wFor (wIt (wVar 0)) (fNm 2) (wSeq (wPar 3 4 (wCons (wFn fAbs (wCons (wVar 1) wNil)) (wCons (wFn fAbs (wCons (wVar 2) wNil)) wNil)))
  (wSeq (wWhile (wTest (wBin pGt (wVar 4) (wC (.int 0)))) (wPar 3 4 (wCons (wVar 4) (wCons (wBin pMod (wVar 3) (wVar 4)) wNil))))
  (wSet 1 (wVar 3)))))
  (wRet (wVar 1))))
def sp_l_divisor : SpZ := fun rs S W => match rs with
  | [.d (.tup xs)] => ∃ ns : List Int, xs = ns.map D.int ∧ W (.d (.int (gl ns))) S
  | _ => False
theorem rd_l_divisor : ∀ rs S W, rs.length = 1 → sp_l_divisor rs S W → w_l_divisor { nx := fun _ S1 => retN S.length W (.d .non) S1, rt := retN S.length W } (start1 5 rs) S := by
  intro rs S W _ h
  unfold sp_l_divisor at h
  split at h
  · obtain ⟨ns, rfl, h⟩ := h
    unfold w_l_divisor
    refine seqI fun P hP => ?_
    wide_open with (if_true, if_true)
    refine hP _ _ ?_; clear hP
    refine seqI fun P hP => ?_
    wide_open with (if_true, if_true)
    refine forL_ix (fun i r S1 => S1 = S ∧ ∃ z1 z2 z3, r = [some (.d (.tup (ns.map D.int))), some (.d (.int ((ns.take i).foldl (fun g x => Nat.gcd g x.natAbs) 0 : Nat))), z1, z2, z3]) ?_ ?_ ⟨rfl, _, _, _, rfl⟩
    · rintro i x hx r S1 ⟨rfl, z1, z2, z3, rfl⟩ M hM
      obtain ⟨n, hn, rfl⟩ := item_ints hx
      refine ⟨trivial, seqI fun P hP => ?_⟩
      generalize eg : (ns.take i).foldl (fun g x => Nat.gcd g x.natAbs) 0 = g at *
      wide_open with (if_true, if_true)
      refine hP _ _ ?_; clear hP
      refine seqI fun P hP => ?_
      wide_open with (wWhile, if_true)
      refine ⟨fun m r1 S2 => ∃ x y : Nat, r1 = [some (.d (.tup (ns.map D.int))), some (.d (.int (g : Nat))), some (.d (.int n)), some (.d (.int (x : Nat))), some (.d (.int (y : Nat)))] ∧ S2 = S1 ∧ m = y ∧ Nat.gcd x y = Nat.gcd g n.natAbs, ⟨_, g, n.natAbs, by simp, rfl, rfl, rfl⟩, ?_⟩
      rintro m r1 S2 ⟨x, y, rfl, rfl, rfl, hg⟩
      wide_open with (if_true, if_true)
      by_cases hy : 0 < m
      · rw [if_pos (by simpa using hy)]
        refine ⟨by omega, _, _, Cut.refl, x % m, Nat.mod_lt _ hy, m, x % m, ?_, rfl, rfl, ?_⟩
        · rw [fmod_pos (by omega)]; rfl
        · rw [← hg, Nat.gcd_comm x m, Nat.gcd_rec m x, Nat.gcd_comm]
      · rw [if_neg (by simpa using hy)]
        have : m = 0 := by omega
        subst this
        rw [Nat.gcd_zero_right] at hg
        subst hg
        refine hP _ _ ?_; clear hP
        wide_open with (if_true, if_true)
        exact ⟨_, _, Cut.refl, hM _ _ ⟨rfl, _, _, _, by rw [fold_take hn, eg]⟩⟩
    · rintro r S1 ⟨rfl, z1, z2, z3, rfl⟩
      refine ⟨trivial, ?_⟩
      show P _ _
      refine hP _ _ ?_; clear hP
      rw [fold_all]
      wide_open with (if_true, if_true)
      exact h
  · exact h.elim
/-- slots: 0 _law_rows_here, 1 _law_point, 2 _law_first, 3 _law_middle, 4 _law_last, 5 _law_z, 6 _law_y, 7 _law_x, 8 _law_k -/
def w_l_in : PS1 :=
  (wSeq (wUnp (fTp 3 (fCons (fNm 2) (fCons (fNm 3) (fCons (fNm 4) fNil)))) (wVar 0))
  (wSeq (wSet 5 (wBin pDiv (wBin pIx (wVar 1) (wC (.int 2))) (wBin pIx (wVar 4) (wC (.int 2)))))
  (wSeq (wSet 6 (wBin pDiv (wBin pSub (wBin pIx (wVar 1) (wC (.int 1))) (wBin pMulI (wVar 5) (wBin pIx (wVar 4) (wC (.int 1))))) (wBin pIx (wVar 3) (wC (.int 1)))))
  (wSeq (wSet 7 (wBin pDiv (wBin pSub (wBin pSub (wBin pIx (wVar 1) (wC (.int 0))) (wBin pMulI (wVar 5) (wBin pIx (wVar 4) (wC (.int 0))))) (wBin pMulI (wVar 6) (wBin pIx (wVar 3) (wC (.int 0))))) (wBin pIx (wVar 2) (wC (.int 0)))))
  (wRet (wBin pEq (wFn fTup (wCons (wLc (wRng1 (wCons (wC (.int 3)) wNil)) (fNm 8) wYes (wBin pAddI (wBin pAddI (wBin pMulI (wVar 7) (wBin pIx (wVar 2) (wVar 8))) (wBin pMulI (wVar 6) (wBin pIx (wVar 3) (wVar 8)))) (wBin pMulI (wVar 5) (wBin pIx (wVar 4) (wVar 8)))) [8]) wNil)) (wFn fTup (wCons (wVar 1) wNil))))))))
def sp_l_in : SpZ := fun rs S W => ∃ (h : Hn) (p : List Int) (pr : D), rs = [.d (.tup (h.rows.map rowD)), .d pr] ∧ (pr = rowD p ∨ pr = .lst (p.map D.int)) ∧ h.Ok ∧ p.length = 3 ∧ (∀ r ∈ h.rows, ∀ x ∈ r, Bd 800 x) ∧ (∀ x ∈ p, Bd 3000 x) ∧ (Spn h.rows (vt p) → W (.d (.bl true)) S) ∧ (¬ Spn h.rows (vt p) → W (.d (.bl false)) S)
theorem rd_l_in : ∀ rs S W, rs.length = 2 → sp_l_in rs S W → w_l_in { nx := fun _ S1 => retN S.length W (.d .non) S1, rt := retN S.length W } (start1 9 rs) S := by
  intro rs S W _ h
  obtain ⟨g, p, pr, rfl, hp, ok, lp, bg, bp, h1, h0⟩ := h
  have r1 : [g.a, 0, 0] ∈ g.rows := by simp [Hn.rows]
  have r2 : [g.b, g.c, 0] ∈ g.rows := by simp [Hn.rows]
  have r3 : [g.d, g.e, g.f] ∈ g.rows := by simp [Hn.rows]
  have ba := bg _ r1 g.a (by simp)
  have bb := bg _ r2 g.b (by simp)
  have bc := bg _ r2 g.c (by simp)
  have bd := bg _ r3 g.d (by simp)
  have be := bg _ r3 g.e (by simp)
  have bf := bg _ r3 g.f (by simp)
  have a0 := ok.a0
  have c0 := ok.c0
  have f0 := ok.f0
  obtain ⟨u, v, w, rfl⟩ := three_of lp
  simp only [List.mem_cons, List.not_mem_nil, or_false, forall_eq_or_imp, forall_eq] at bp
  obtain ⟨bu, bv, bw⟩ := bp
  have iff : Spn g.rows (vt [u, v, w]) ↔ ∃ x y z : Int, u = x * g.a + y * g.b + z * g.d ∧ v = y * g.c + z * g.e ∧ w = z * g.f := by
    rw [Hn.spn]
    exact ⟨fun ⟨x, y, z, h⟩ => ⟨x, y, z, h.1, h.2.1, h.2.2.1⟩, fun ⟨x, y, z, h⟩ => ⟨x, y, z, h.1, h.2.1, h.2.2, fun i hi => vt3_far rfl hi⟩⟩
  rw [iff] at h1 h0
  clear iff
  have bz := fdiv_bd bw (m := g.f) (by omega)
  have by1 := bv.sub (bz.mul be)
  have by_ := fdiv_bd by1 (m := g.c) (by omega)
  have bx1 := (bu.sub (bz.mul bd)).sub (by_.mul bb)
  have bx := fdiv_bd bx1 (m := g.a) (by omega)
  have key : (∃ x y z : Int, u = x * g.a + y * g.b + z * g.d ∧ v = y * g.c + z * g.e ∧ w = z * g.f) ↔ (((u - w.fdiv g.f * g.d - (v - w.fdiv g.f * g.e).fdiv g.c * g.b).fdiv g.a * g.a + (v - w.fdiv g.f * g.e).fdiv g.c * g.b + w.fdiv g.f * g.d == u) && (((u - w.fdiv g.f * g.d - (v - w.fdiv g.f * g.e).fdiv g.c * g.b).fdiv g.a * 0 + (v - w.fdiv g.f * g.e).fdiv g.c * g.c + w.fdiv g.f * g.e == v) && ((u - w.fdiv g.f * g.d - (v - w.fdiv g.f * g.e).fdiv g.c * g.b).fdiv g.a * 0 + (v - w.fdiv g.f * g.e).fdiv g.c * 0 + w.fdiv g.f * g.f == w))) = true := by
    simp only [Bool.and_eq_true, beq_iff_eq]
    constructor
    · rintro ⟨x, y, z, e0, e1, e2⟩
      have z1 : w.fdiv g.f = z := by rw [e2]; exact Int.mul_fdiv_cancel _ (by omega)
      have y1 : (v - z * g.e).fdiv g.c = y := by rw [e1, Int.add_sub_cancel]; exact Int.mul_fdiv_cancel _ (by omega)
      have x1 : (u - z * g.d - y * g.b).fdiv g.a = x := by rw [show u - z * g.d - y * g.b = x * g.a by omega]; exact Int.mul_fdiv_cancel _ (by omega)
      rw [z1, y1, x1]
      exact ⟨by omega, by omega, by omega⟩
    · rintro ⟨e0, e1, e2⟩
      exact ⟨_, _, _, e0.symm, by omega, by omega⟩
  rw [key] at h1 h0
  clear key
  have cf : CDv w g.f := cdv (by omega) bf (by decide)
  have cc : ∀ i, CDv i g.c := fun i => cdv (by omega) bc (by decide)
  have ca : ∀ i, CDv i g.a := fun i => cdv (by omega) ba (by decide)
  have m1 := mulOk bz be (by decide)
  have m2 := mulOk bz bd (by decide)
  have m3 := mulOk by_ bb (by decide)
  have m4 := mulOk bx ba (by decide)
  have m5 := mulOk by_ bc (by decide)
  have m6 := mulOk bz bf (by decide)
  have z0 : ∀ m : Int, MulOk m 0 := fun m => mulOk_r (by decide)
  clear bz by1 by_ bx1 bx
  have fin : ∀ t : Bool, (t = true → W (.d (.bl true)) S) → (¬ t = true → W (.d (.bl false)) S) → W (.d (.bl t)) S := fun t q1 q0 => by
    cases t with
    | true => exact q1 rfl
    | false => exact q0 (by decide)
  rcases hp with rfl | rfl
  · unfold w_l_in
    refine seqI fun P hP => ?_
    wide_open with (Hn.rows, rowD)
    refine hP _ _ ?_; clear hP
    refine seqI fun P hP => ?_
    wide_open with (if_true, if_true)
    refine ⟨cf, ?_⟩
    refine hP _ _ ?_; clear hP
    refine seqI fun P hP => ?_
    wide_open with (if_true, if_true)
    refine ⟨m1, cc _, ?_⟩
    refine hP _ _ ?_; clear hP
    refine seqI fun P hP => ?_
    wide_open with (if_true, if_true)
    refine ⟨m2, m3, ca _, ?_⟩
    refine hP _ _ ?_; clear hP
    wide_open with (rgR_succ, rgR_zero, lcL)
    refine ⟨m4, m3, m2, z0 _, m5, m1, z0 _, z0 _, m6, ?_⟩
    exact fin _ h1 h0
  · unfold w_l_in
    refine seqI fun P hP => ?_
    wide_open with (Hn.rows, rowD)
    refine hP _ _ ?_; clear hP
    refine seqI fun P hP => ?_
    wide_open with (if_true, if_true)
    refine ⟨cf, ?_⟩
    refine hP _ _ ?_; clear hP
    refine seqI fun P hP => ?_
    wide_open with (if_true, if_true)
    refine ⟨m1, cc _, ?_⟩
    refine hP _ _ ?_; clear hP
    refine seqI fun P hP => ?_
    wide_open with (if_true, if_true)
    refine ⟨m2, m3, ca _, ?_⟩
    refine hP _ _ ?_; clear hP
    wide_open with (rgR_succ, rgR_zero, lcL)
    refine ⟨m4, m3, m2, z0 _, m5, m1, z0 _, z0 _, m6, ?_⟩
    exact fin _ h1 h0
/-- slots: 0 numbers, 1 found, 2 number -/
def w_divisor_of : PS1 :=
  (wSeq (wSet 1 (wC (.int 0)))
  (wSeq (wFor (wIt (wVar 0)) (fNm 2) (wSet 1 (wCall sp_divisor 2 (wCons (wVar 1) (wCons (wVar 2) wNil)))))
  (wRet (wVar 1))))
def sp_divisor_of : SpZ := fun rs S W => match rs with
  | [.d (.tup xs)] => ∃ ns : List Int, xs = ns.map D.int ∧ W (.d (.int (gl ns))) S
  | _ => False
theorem rd_divisor_of : ∀ rs S W, rs.length = 1 → sp_divisor_of rs S W → w_divisor_of { nx := fun _ S1 => retN S.length W (.d .non) S1, rt := retN S.length W } (start1 3 rs) S := by
  intro rs S W _ h
  unfold sp_divisor_of at h
  split at h
  · obtain ⟨ns, rfl, h⟩ := h
    wide_open with (w_divisor_of, if_true)
    refine forL_ix (fun i r S1 => S1 = S ∧ ∃ z, r = [some (.d (.tup (ns.map D.int))), some (.d (.int ((ns.take i).foldl (fun g x => Nat.gcd g x.natAbs) 0 : Nat))), z]) ?_ ?_ ⟨rfl, _, rfl⟩
    · rintro i x hx r S1 ⟨rfl, z, rfl⟩ M hM
      rw [List.getElem?_map, List.getElem?_map, Option.map_eq_some_iff] at hx
      obtain ⟨d, hd, rfl⟩ := hx
      rw [Option.map_eq_some_iff] at hd
      obtain ⟨n, hn, rfl⟩ := hd
      wide_open with (sp_divisor, spGcd)
      refine ⟨_, _, Cut.refl, hM _ _ ⟨rfl, some (.d (.int n)), ?_⟩⟩
      rw [List.take_add_one, hn]
      simp only [Option.toList_some, List.foldl_append, List.foldl_cons, List.foldl_nil]
      rfl
    · rintro r S1 ⟨rfl, z, rfl⟩
      wide_open with (if_true, if_true)
      have e : (ns.take ((ns.map D.int).map R.d).length).foldl (fun g x => Nat.gcd g x.natAbs) 0 = gl ns := by
        rw [List.length_map, List.length_map, List.take_length, gl_fold, Nat.gcd_zero_left]
      rw [e]
      exact h
  · exact h.elim
/-- slots: 0 rows, 1 still, 2 busy, 3 lead, 4 found, 5 row -/
def w_gathered : PS1 :=
  (wSeq (wFzS 1 (wSet 1 (wLc (wIt (wVar 0)) (fNm 5) (wTest (wBin pEq (wBin pIx (wVar 5) (wC (.int 0))) (wC (.int 0)))) (wVar 5) [5])))
  (wSeq (wFzS 2 (wSet 2 (wLc (wIt (wVar 0)) (fNm 5) (wTest (wBin pNe (wBin pIx (wVar 5) (wC (.int 0))) (wC (.int 0)))) (wVar 5) [5])))
  (wSeq (wWhile (wTest (wBin pGt (wFn fLen (wCons (wVar 2) wNil)) (wC (.int 1)))) (wSeq (wSet 2 (wFz (wSortK (wVar 2))))
  (wSeq (wSet 3 (wBin pIx (wVar 2) (wC (.int 0))))
  (wSeq (wFzS 4 (wSet 4 (wLc (wIt (wSl (wVar 2) (wSome (wC (.int 1))) wNo)) (fNm 5) wYes (wCall sp_row_less 3 (wCons (wVar 5) (wCons (wVar 3) (wCons (wBin pDiv (wBin pIx (wVar 5) (wC (.int 0))) (wBin pIx (wVar 3) (wC (.int 0)))) wNil)))) [5])))
  (wSeq (wSet 1 (wFz (wBin pCatQ (wVar 1) (wLc (wIt (wVar 4)) (fNm 5) (wTest (wBin pEq (wBin pIx (wVar 5) (wC (.int 0))) (wC (.int 0)))) (wVar 5) [5]))))
  (wSet 2 (wFz (wBin pCat (wLst (wCons (wVar 3) wNil)) (wLc (wIt (wVar 4)) (fNm 5) (wTest (wBin pNe (wBin pIx (wVar 5) (wC (.int 0))) (wC (.int 0)))) (wVar 5) [5])))))))))
  (wRet (wTup (wCons (wVar 1) (wCons (wVar 2) wNil)))))))
def sp_gathered : SpZ := fun rs S W => match rs with
  | [.d (.lst ds)] => ∃ (b e h : Nat) (xs : List (List Int)), ds = xs.map rowD ∧ (∀ r ∈ xs, r.length = 4) ∧ xs.length ≤ 3 ∧ (∀ r ∈ xs, ∀ x ∈ r, Bd e x) ∧ (∀ r ∈ xs, Bd h (vt r 0)) ∧ e + 5 * h + 11 ≤ b ∧ b ≤ 1000000 ∧ (h ≤ 13500 ∨ xs.length ≤ 1) ∧ ∀ still busy, GDone 4 b xs still busy → W (.d (.tup [.lst (still.map rowD), .lst (busy.map rowD)])) S
  | _ => False
theorem rd_gathered : ∀ rs S W, rs.length = 1 → sp_gathered rs S W → w_gathered { nx := fun _ S1 => retN S.length W (.d .non) S1, rt := retN S.length W } (start1 6 rs) S := by
  intro rs S W _ h
  unfold sp_gathered at h
  split at h
  · obtain ⟨b, e, hh, xs, rfl, ll, x3, be, bh, eb, bb, dv, h⟩ := h
    have fil0 : ∀ (S : Sto) (W : List D → Sto → Prop) (r : Rho) (c : Sto → Prop) (k : Nat) (ps : List (List Int)), (∀ r ∈ ps, r.length = 4) → S.take k = S → c S → (∃ r1 r2 r3 r4 r5, r = [r1, r2, r3, r4, r5, none]) → W ((ps.filter zH).map rowD) S →
        lcL k c (fNm 5) (wTest (wBin pEq (wBin pIx (wVar 5) (wC (.int 0))) (wC (.int 0)))) (wVar 5) r ((ps.map rowD).map R.d) S W := fun S W r c k ps lp hk hc ⟨r1, r2, r3, r4, r5, hr⟩ q => by
      subst hr
      refine lcL_filD (g := rowD) zH rowD hk hc (fun x hx => ?_) q
      obtain ⟨p, q, s, t, rfl⟩ := four_of (lp x hx)
      refine ⟨_, rfl, fun W1 h => ?_, fun hz W1 h => ?_⟩
      · wide_open with (rowD, if_true)
        exact h
      · wide_open with (if_true, if_true)
        exact h
    have fil1 : ∀ (S : Sto) (W : List D → Sto → Prop) (r : Rho) (c : Sto → Prop) (k : Nat) (ps : List (List Int)), (∀ r ∈ ps, r.length = 4) → S.take k = S → c S → (∃ r1 r2 r3 r4 r5, r = [r1, r2, r3, r4, r5, none]) → W ((ps.filter fun r => !zH r).map rowD) S →
        lcL k c (fNm 5) (wTest (wBin pNe (wBin pIx (wVar 5) (wC (.int 0))) (wC (.int 0)))) (wVar 5) r ((ps.map rowD).map R.d) S W := fun S W r c k ps lp hk hc ⟨r1, r2, r3, r4, r5, hr⟩ q => by
      subst hr
      refine lcL_filD (g := rowD) (fun r => !zH r) rowD hk hc (fun x hx => ?_) q
      obtain ⟨p, q, s, t, rfl⟩ := four_of (lp x hx)
      refine ⟨_, rfl, fun W1 h => ?_, fun hz W1 h => ?_⟩
      · wide_open with (rowD, if_true)
        exact h
      · wide_open with (if_true, if_true)
        exact h
    obtain ⟨n0, g0⟩ := ginv_start ll x3 be bh eb
    unfold w_gathered
    refine seqI fun P hP => ?_
    wide_open with (if_true, if_true)
    refine ⟨by simp; omega, fil0 _ _ _ _ _ _ ll (by simp) trivial ⟨_, _, _, _, _, rfl⟩ ?_⟩
    wide_open with (if_true, if_true)
    refine hP _ _ ?_; clear hP
    refine seqI fun P hP => ?_
    wide_open with (if_true, if_true)
    refine ⟨by simp; omega, fil1 _ _ _ _ _ _ ll (by simp) trivial ⟨_, _, _, _, _, rfl⟩ ?_⟩
    wide_open with (if_true, if_true)
    refine hP _ _ ?_; clear hP
    refine seqI fun P hP => ?_
    unfold wWhile
    refine ⟨fun n r1 S1 => ∃ (still busy : List (List Int)) (z3 z4 : Option D), r1 = [some (.d (.lst (xs.map rowD))), some (.d (.lst (still.map rowD))), some (.d (.lst (busy.map rowD))), z3.map R.d, z4.map R.d, none] ∧ S1 = S ∧ GInv 4 b xs still busy n ∧ ∀ r ∈ busy, Bd hh (vt r 0), ⟨n0, _, _, none, none, rfl, rfl, g0, fun r hr => bh r (List.mem_filter.mp hr).1⟩, ?_⟩
    rintro n r1 S1 ⟨still, busy, z3, z4, rfl, rfl, g, gh⟩
    wide_open with (List.length_map, if_true)
    by_cases l : 1 < busy.length
    · rw [if_pos (by simp; omega)]
      wide_open with (if_true, if_true)
      refine ⟨fun d hd => ?_, fun ys py pw => ?_⟩
      · obtain ⟨r, hr, rfl⟩ := List.mem_map.mp hd
        obtain ⟨p, q, s, t, rfl⟩ := four_of (g.ll r (List.mem_append_right _ hr))
        exact ⟨p, [.int q, .int s, .int t], rfl⟩
      · obtain ⟨ws, pm, rfl⟩ := perm_rows py
        have wl := pm.length_eq
        obtain ⟨lead, rest, rfl⟩ : ∃ u v, ws = u :: v := by
          cases ws with
          | nil => simp at wl; omega
          | cons u v => exact ⟨u, v, rfl⟩
        have inL : lead ∈ busy := pm.mem_iff.mp (by simp)
        have inR : ∀ r ∈ rest, r ∈ busy := fun r hr => pm.mem_iff.mp (by simp [hr])
        have l4 : ∀ r ∈ busy, r.length = 4 := fun r hr => g.ll r (List.mem_append_right _ hr)
        have mn : ∀ r ∈ rest, (vt lead 0).natAbs ≤ (vt r 0).natAbs := fun r hr => by
          rw [List.map_cons, List.pairwise_cons] at pw
          have := pw.1 (rowD r) (List.mem_map.mpr ⟨r, hr, rfl⟩)
          rw [absH_row (l4 _ inL), absH_row (l4 _ (inR r hr))] at this
          omega
        obtain ⟨n', rfl, g'⟩ := gstep g l pm mn
        have gh' := gheads g pm gh
        have b3 : busy.length ≤ 3 := by have := g.len; omega
        have s3 : still.length ≤ 3 := by have := g.len; omega
        have r3 : rest.length ≤ 2 := by rw [List.length_cons] at wl; omega
        have hl := l4 lead inL
        have dv : hh ≤ 13500 := by
          rcases dv with h | h
          · exact h
          · have := g.len; omega
        have bdl := g.bd lead inL
        wide_open with (cut_one, if_true)
        refine ⟨by simp; omega, lcL_mapD (g := rowD) (fun r => rowD (redR lead r)) (by simp) trivial (fun r hr => ?_) ?_⟩
        · have hq := gh r (inR r hr)
          have h0 := g.nz lead inL
          have hq2 := g.bd r (inR r hr) 0
          obtain ⟨p, q, s, t, rfl⟩ := four_of (l4 r (inR r hr))
          obtain ⟨p', q', s', t', rfl⟩ := four_of hl
          refine ⟨_, rfl, fun W1 h => h, fun W1 h => ?_⟩
          wide_open with (rowD, sp_row_less)
          refine ⟨cdvB h0 hq dv, [p, q, s, t], [p', q', s', t'], rfl, rfl, by simp, fun x hx => ?_, ?_⟩
          · have : Bd b x := by
              obtain ⟨i, hi⟩ := List.getElem?_of_mem hx
              have := bdl i
              rwa [show vt [p', q', s', t'] i = x by show [p', q', s', t'].getD i 0 = x; rw [List.getD_eq_getElem?_getD, hi]; rfl] at this
            exact mulOk (fdiv_bd hq2 h0) this (by omega)
          · exact h
        · have rl : ∀ r ∈ rest.map (redR lead), r.length = 4 := fun r hr => by
            obtain ⟨r0, h0, rfl⟩ := List.mem_map.mp hr
            exact rless_len (l4 r0 (inR r0 h0)) hl _
          rw [show rest.map (fun r => rowD (redR lead r)) = (rest.map (redR lead)).map rowD by rw [List.map_map]; rfl]
          wide_open with (if_true, if_true)
          refine ⟨by simp; omega, fil0 _ _ _ _ _ _ rl (by simp) trivial ⟨_, _, _, _, _, rfl⟩ ?_⟩
          have fl0 : ((rest.map (redR lead)).filter zH).length ≤ 2 := Nat.le_trans (List.length_filter_le ..) (by simpa using r3)
          have fl1 : ((rest.map (redR lead)).filter fun r => !zH r).length ≤ 2 := Nat.le_trans (List.length_filter_le ..) (by simpa using r3)
          wide_open with (if_true, if_true)
          refine ⟨by simp only [List.length_map]; omega, by simp only [List.length_map]; omega, fil1 _ _ _ _ _ _ rl (by simp) trivial ⟨_, _, _, _, _, rfl⟩ ?_⟩
          wide_open with (if_true, if_true)
          refine ⟨by simp only [List.length_map]; omega, _, _, Cut.refl, n', by omega, still ++ (rest.map (redR lead)).filter zH, lead :: (rest.map (redR lead)).filter fun r => !zH r, some (rowD lead), some (.lst ((rest.map (redR lead)).map rowD)), ?_, rfl, g', gh'⟩
          simp only [List.map_append, List.map_cons, Option.map_some]
    · rw [if_neg (by simp; omega)]
      refine hP _ _ ?_; clear hP
      wide_open with (if_true, if_true)
      exact h still busy (g.done l)
  · exact h.elim
/-- slots: 0 _law_script, 1 _law_at_here, 2 _law_cell -/
def w_l_purse : PS1 :=
  (wSeq (wSet 2 (wCall sp_l_at 2 (wCons (wVar 0) (wCons (wVar 1) wNil))))
  (wRet (wLst (wCons (wFn fMax2 (wCons (wBin pSub (wVar 2) (wBin pPow (wC (.int 10)) (wC (.int 18)))) (wCons (wC (.int 0)) wNil))) (wCons (wVar 2) (wCons (wBin pMulI (wC (.int 1000)) (wVar 1)) wNil))))))
def sp_l_purse : SpZ := fun rs S W => match rs, S with
  | [.ro xs, .d (.int j)], [] => ∃ ns : List Int, xs = ns.map D.int ∧ Script ns ∧ (0 ≤ j ∧ j ≤ 1000) ∧ ∀ p c : Int, Bd SB c → W (.loc 0) [.lst [.int p, .int c, .int (1000 * j)]]
  | _, _ => False
theorem rd_l_purse : ∀ rs S W, rs.length = 2 → sp_l_purse rs S W → w_l_purse { nx := fun _ S1 => retN S.length W (.d .non) S1, rt := retN S.length W } (start1 3 rs) S := by
  intro rs S W _ h
  unfold sp_l_purse at h
  split at h
  · rename_i j _
    obtain ⟨ns, rfl, hs, ⟨j0, j1⟩, h⟩ := h
    unfold w_l_purse
    refine seqI fun P hP => ?_
    wide_open with (sp_l_at, if_true)
    refine ⟨ns, rfl, hs, j0, fun c hc => ?_⟩
    refine hP _ _ ?_; clear hP
    wide_open with (if_true, if_true)
    exact ⟨⟨by decide, by decide, by decide⟩, mulOk_l (by decide), h _ c hc⟩
  · exact h.elim
/-- slots: 0 _law_purse_here, 1 _law_out_of, 2 _law_drawn, 3 _law_number, 4 _law_k -/
def w_l_draw : PS1 :=
  (wSeq (wIf (wTest (wBin pGt (wBin pIx (wVar 0) (wC (.int 0))) (wC (.int 0)))) (wSeq (wSet 2 (wBin pMod (wBin pIx (wVar 0) (wC (.int 0))) (wVar 1)))
  (wSeq (wStI (wVar 0) (wC (.int 0)) (wBin pDiv (wBin pIx (wVar 0) (wC (.int 0))) (wVar 1)))
  (wRet (wVar 2)))) wNext)
  (wSeq (wSet 3 (wC (.int 0)))
  (wSeq (wFor (wRng1 (wCons (wBin pIx (wLst (wCons (wC (.int 1)) (wCons (wC (.int 4)) wNil))) (wFn fInt (wCons (wBin pGt (wVar 1) (wBin pPow (wC (.int 10)) (wC (.int 9)))) wNil))) wNil)) (fNm 4) (wSeq (wStI (wVar 0) (wC (.int 2)) (wBin pAddI (wBin pIx (wVar 0) (wC (.int 2))) (wC (.int 1))))
  (wSet 3 (wBin pAddI (wBin pMulI (wVar 3) (wC (.int 2147483587))) (wCall sp_l_mixed 2 (wCons (wBin pIx (wVar 0) (wC (.int 1))) (wCons (wBin pIx (wVar 0) (wC (.int 2))) wNil)))))))
  (wRet (wBin pMod (wVar 3) (wVar 1))))))
def sp_l_draw : SpZ := spDr3
theorem rd_l_draw : ∀ rs S W, rs.length = 2 → sp_l_draw rs S W → w_l_draw { nx := fun _ S1 => retN S.length W (.d .non) S1, rt := retN S.length W } (start1 5 rs) S := by
  intro rs S W _ h
  unfold sp_l_draw spDr3 at h
  split at h
  · rename_i n p c k _
    obtain ⟨⟨n0, n1⟩, hc, ⟨k0, k1⟩, h⟩ := h
    have cd : ∀ i : Int, CDv i n := fun i => cdv_small (by omega) (Nat.lt_of_le_of_lt (show n.natAbs ≤ 10000000000000000000000000000000000000000 by omega) (by decide))
    have mm : ∀ i : Int, 0 ≤ i.fmod n ∧ i.fmod n < n := fun i => by rw [fmod_pos n0]; exact ⟨Int.emod_nonneg _ (by omega), Int.emod_lt_of_pos _ n0⟩
    unfold w_l_draw
    refine seqI fun P hP => ?_
    wide_open with (if_true, if_true)
    by_cases hp : 0 < p
    · wide_open with (decide_eq_true hp, if_true)
      exact ⟨by omega, cd p, h _ _ _ (mm p).1 (mm p).2 k0 (by omega)⟩
    · wide_open with (decide_eq_false hp, if_true)
      refine hP _ _ ?_; clear hP
      refine seqI fun P hP => ?_
      wide_open with (if_true, if_true)
      refine hP _ _ ?_; clear hP
      refine seqI fun P hP => ?_
      have fin : ∀ v k' : Int, ∀ y : Option R, 0 ≤ k' → k' ≤ k + 4 → P [some (.loc 0), some (.d (.int n)), none, some (.d (.int v)), y] [.lst [.int p, .int c, .int k']] := by
        intro v k' y a b
        refine hP _ _ ?_; clear hP
        wide_open with (if_true, if_true)
        exact ⟨by omega, h _ _ _ (mm v).1 (mm v).2 a b⟩
      have loop : ∀ (m : Nat) (P : Rho → Sto → Prop) (rt : R → Sto → Prop), m ≤ 4 → (∀ v k' : Int, ∀ y : Option R, 0 ≤ k' → k' ≤ k + 4 → P [some (.loc 0), some (.d (.int n)), none, some (.d (.int v)), y] [.lst [.int p, .int c, .int k']]) →
          forL 1 (fun _ => True) (fNm 4) (wSeq (wStI (wVar 0) (wC (.int 2)) (wBin pAddI (wBin pIx (wVar 0) (wC (.int 2))) (wC (.int 1)))) (wSet 3 (wBin pAddI (wBin pMulI (wVar 3) (wC (.int 2147483587))) (wCall sp_l_mixed 2 (wCons (wBin pIx (wVar 0) (wC (.int 1))) (wCons (wBin pIx (wVar 0) (wC (.int 2))) wNil)))))) { nx := P, rt := rt } (rgR 0 m) [some (.loc 0), some (.d (.int n)), none, some (.d (.int 0)), none] [.lst [.int p, .int c, .int k]] := by
        intro m P rt hm hP
        refine forL_ix (fun i r S1 => ∃ (v : Int) (y : Option R), S1 = [.lst [.int p, .int c, .int (k + i)]] ∧ r = [some (.loc 0), some (.d (.int n)), none, some (.d (.int v)), y]) ?_ ?_ ⟨0, _, by simp, rfl⟩
        · rintro i x hx r S1 ⟨v, y, rfl, rfl⟩ M hM
          obtain ⟨hi, rfl⟩ := rgR_get hx
          wide_open with (sp_l_mixed, if_true)
          refine ⟨mulOk_r (by decide), hc, ⟨by omega, by omega⟩, fun u => ⟨_, _, Cut.refl, hM _ _ ⟨_, _, ?_, rfl⟩⟩⟩
          rw [show k + (i : Int) + 1 = k + ((i + 1 : Nat) : Int) by omega]
        · rintro r S1 ⟨v, y, rfl, rfl⟩
          rw [rgR_len]
          exact ⟨trivial, hP _ _ _ (by omega) (by omega)⟩
      wide_open with (if_true, if_true)
      refine ⟨⟨by decide, by decide, by decide⟩, ?_⟩
      by_cases hn : 1000000000 < n
      · wide_open with (decide_eq_true hn, if_true)
        exact loop 4 _ _ (by decide) fin
      · wide_open with (decide_eq_false hn, if_true)
        exact loop 1 _ _ (by decide) fin
  · exact h.elim
/-- slots: 0 _law_numbers, 1 _law_by, 2 _law_number -/
def w_l_shrunk : PS1 :=
  (wSeq (wSet 1 (wCall sp_l_divisor 1 (wCons (wVar 0) wNil)))
  (wRet (wFn fTup (wCons (wLc (wIt (wVar 0)) (fNm 2) wYes (wBin pDiv (wVar 2) (wVar 1)) [2]) wNil))))
def sp_l_shrunk : SpZ := fun rs S W => match rs with
  | [.d (.tup xs)] => ∃ ns : List Int, xs = ns.map D.int ∧ (∃ n ∈ ns, n ≠ 0) ∧ (∀ n ∈ ns, Bd 9000 n) ∧ ns.length ≤ 1000 ∧ W (.d (.tup ((prow ns).map D.int))) S
  | _ => False
theorem rd_l_shrunk : ∀ rs S W, rs.length = 1 → sp_l_shrunk rs S W → w_l_shrunk { nx := fun _ S1 => retN S.length W (.d .non) S1, rt := retN S.length W } (start1 3 rs) S := by
  intro rs S W _ h
  unfold sp_l_shrunk at h
  split at h
  · obtain ⟨ns, rfl, hz, hb, hl, h⟩ := h
    have hg := gl_pos hz
    unfold w_l_shrunk
    refine seqI fun P hP => ?_
    wide_open with (sp_l_divisor, if_true)
    refine ⟨ns, rfl, ?_⟩
    refine hP _ _ ?_; clear hP
    wide_open with (if_true, if_true)
    refine ⟨by simp; omega, lcL_ints (fun n => n / (gl ns : Int)) (by simp) trivial (fun n hn => ⟨_, rfl, fun W1 h => h, fun W1 h => ?_⟩) ?_⟩
    · wide_open with (if_true, if_true)
      exact ⟨(gl_cdv hz hb n).1, by rw [fdiv_pos (by omega)]; exact h⟩
    · wide_open with (if_true, if_true)
      exact h
  · exact h.elim
/-- slots: 0 _law_rows_here, 1 _law_a, 2 _law_p, 3 _law_q, 4 _law_b, 5 _law_c, 6 _law_r, 7 _law_d, 8 _law_e, 9 _law_f, 10 _law_row -/
def w_l_form : PS1 :=
  (wSeq (wIf (wOrT (wNotT (wTest (wIsi "tuple" (wVar 0)))) (wTest (wBin pNe (wFn fLen (wCons (wVar 0) wNil)) (wC (.int 3))))) (wRet (wC (.bl false))) wNext)
  (wSeq (wIf (wTest (wBin pNe (wFn fLen (wCons (wLc (wIt (wVar 0)) (fNm 10) (wTest (wCall sp_l_wholes 2 (wCons (wVar 10) (wCons (wC (.int 3)) wNil)))) (wVar 10) [10]) wNil)) (wC (.int 3)))) (wRet (wC (.bl false))) wNext)
  (wSeq (wUnp (fTp 3 (fCons (fTp 3 (fCons (fNm 1) (fCons (fNm 2) (fCons (fNm 3) fNil)))) (fCons (fTp 3 (fCons (fNm 4) (fCons (fNm 5) (fCons (fNm 6) fNil)))) (fCons (fTp 3 (fCons (fNm 7) (fCons (fNm 8) (fCons (fNm 9) fNil)))) fNil)))) (wVar 0))
  (wSeq (wIf (wOrT (wTest (wBin pNe (wTup (wCons (wVar 2) (wCons (wVar 3) (wCons (wVar 6) wNil)))) (wTup (wCons (wC (.int 0)) (wCons (wC (.int 0)) (wCons (wC (.int 0)) wNil)))))) (wTest (wBin pLt (wFn fMin3 (wCons (wVar 1) (wCons (wVar 5) (wCons (wVar 9) wNil)))) (wC (.int 1))))) (wRet (wC (.bl false))) wNext)
  (wRet (wAndV (wChn pLe pLt (wC (.int 0)) (wVar 4) (wVar 1)) (wAndV (wChn pLe pLt (wC (.int 0)) (wVar 7) (wVar 1)) (wChn pLe pLt (wC (.int 0)) (wVar 8) (wVar 5)))))))))
def sp_l_form : SpZ := fun rs S W => match rs with
  | [.d (.tup ds)] => ∃ h : Hn, h.Ok ∧ ds = h.rows.map rowD ∧ W (.d (.bl true)) S
  | _ => False
theorem rd_l_form : ∀ rs S W, rs.length = 1 → sp_l_form rs S W → w_l_form { nx := fun _ S1 => retN S.length W (.d .non) S1, rt := retN S.length W } (start1 11 rs) S := by
  intro rs S W _ h
  unfold sp_l_form at h
  split at h
  · obtain ⟨g, ok, rfl, h⟩ := h
    have a0 := ok.a0
    have c0 := ok.c0
    have f0 := ok.f0
    have b0 := ok.b0
    have b1 := ok.b1
    have d0 := ok.d0
    have d1 := ok.d1
    have e0 := ok.e0
    have e1 := ok.e1
    obtain ⟨a, b, c, d, e, f⟩ := g
    simp only at a0 c0 f0 b0 b1 d0 d1 e0 e1
    have w : ∀ (W : R → Sto → Prop) (S : Sto) (x y z : Int), W (.d (.bl true)) S → sp_l_wholes [.d (.tup [.int x, .int y, .int z]), .d (.int 3)] S W := fun W S x y z q => ⟨[x, y, z], rfl, rfl, by simp, q⟩
    unfold w_l_form
    refine seqI fun P hP => ?_
    wide_open with (Hn.rows, rowD)
    refine hP _ _ ?_; clear hP
    refine seqI fun P hP => ?_
    wide_open with (lcL, if_true)
    refine w _ _ _ _ _ ?_
    wide_open with (if_true, if_true)
    refine w _ _ _ _ _ ?_
    wide_open with (if_true, if_true)
    refine w _ _ _ _ _ ?_
    wide_open with (if_true, if_true)
    refine hP _ _ ?_; clear hP
    refine seqI fun P hP => ?_
    wide_open with (if_true, if_true)
    refine hP _ _ ?_; clear hP
    have mn : ¬ min (min a c) f < 1 := by omega
    refine seqI fun P hP => ?_
    wide_open with (decide_eq_false mn, if_true)
    refine hP _ _ ?_; clear hP
    wide_open with (wChn, if_true)
    rw [if_pos (decide_eq_true b0), if_pos (decide_eq_true b1), if_pos (decide_eq_true d0), if_pos (decide_eq_true d1), if_pos (decide_eq_true e0), decide_eq_true e1]
    exact h
  · exact h.elim
/-- slots: 0 numbers, 1 by, 2 number -/
def w_plain_row : PS1 :=
  (wSeq (wSet 1 (wCall sp_divisor_of 1 (wCons (wVar 0) wNil)))
  (wRet (wFn fTup (wCons (wLc (wIt (wVar 0)) (fNm 2) wYes (wBin pDiv (wVar 2) (wVar 1)) [2]) wNil))))
def sp_plain_row : SpZ := fun rs S W => match rs with
  | [.d (.tup xs)] => ∃ ns : List Int, xs = ns.map D.int ∧ (∃ n ∈ ns, n ≠ 0) ∧ (∀ n ∈ ns, Bd 9000 n) ∧ ns.length ≤ 1000 ∧ W (.d (.tup ((prow ns).map D.int))) S
  | _ => False
theorem rd_plain_row : ∀ rs S W, rs.length = 1 → sp_plain_row rs S W → w_plain_row { nx := fun _ S1 => retN S.length W (.d .non) S1, rt := retN S.length W } (start1 3 rs) S := by
  intro rs S W _ h
  unfold sp_plain_row at h
  split at h
  · obtain ⟨ns, rfl, hz, hb, hl, h⟩ := h
    wide_open with (w_plain_row, sp_divisor_of)
    have hg := gl_pos hz
    have hc : ∀ n : Int, CDv n (gl ns) := fun n => by
      obtain ⟨x, hx, h0⟩ := hz
      exact cdv (n := 9000) (by omega) (by
        have h1 := hb x hx
        have h2 := gl_le hx h0
        simp only [bd_iff] at *
        simp only [Int.natAbs_natCast]
        omega) (Nat.le_refl _)
    refine ⟨ns, rfl, by simp; omega, lcL_ints (fun n => n / (gl ns : Int)) (by simp) trivial (fun n hn => ⟨_, rfl, fun W1 h => h, fun W1 h => ?_⟩) ?_⟩
    · wide_open with (if_true, if_true)
      exact ⟨hc n, by rw [fdiv_pos (by omega)]; exact h⟩
    · wide_open with (if_true, if_true)
      exact h
  · exact h.elim
/-- slots: 0 rows, 1 line, 2 bottom, 3 row, 4 still, 5 busy, 6 found, 7 often, 8 a, 9 b, 10 number -/
def w_bound_by : PS1 :=
  (wSeq (wUnp (fTp 2 (fCons (fNm 4) (fCons (fNm 5) fNil))) (wCall sp_gathered 1 (wCons (wFz (wLc (wIt (wVar 0)) (fNm 3) wYes (wBin pAddI (wTup (wCons (wBin pMod (wFn fSum (wCons (wLc (wZip (wCons (wVar 1) (wCons (wVar 3) wNil))) (fTp 2 (fCons (fNm 8) (fCons (fNm 9) fNil))) wYes (wBin pMulI (wVar 8) (wVar 9)) [8, 9]) wNil)) (wVar 2)) wNil)) (wVar 3)) [3])) wNil)))
  (wSeq (wSet 6 (wLc (wIt (wVar 4)) (fNm 3) wYes (wSl (wVar 3) (wSome (wC (.int 1))) wNo) [3]))
  (wSeq (wFor (wIt (wVar 5)) (fNm 3) (wSeq (wSet 7 (wBin pDiv (wVar 2) (wCall sp_divisor 2 (wCons (wBin pIx (wVar 3) (wC (.int 0))) (wCons (wVar 2) wNil)))))
  (wDrop (wApp (wVar 6) (wFn fTup (wCons (wLc (wIt (wSl (wVar 3) (wSome (wC (.int 1))) wNo)) (fNm 10) wYes (wBin pMulI (wVar 7) (wVar 10)) [10]) wNil))))))
  (wRet (wVar 6)))))
def sp_bound_by : SpZ := fun rs S W => match rs, S with
  | [.d (.tup rows), .d (.tup line), .d (.int n)], [] => ∃ (e : Nat) (xs : List (List Int)) (l : List Int), rows = xs.map rowD ∧ line = l.map D.int ∧ (∀ r ∈ xs, r.length = 3) ∧ xs.length ≤ 3 ∧ l.length = 3 ∧ (∀ r ∈ xs, ∀ x ∈ r, Bd e x) ∧ (∀ x ∈ l, Bd 400 x) ∧ 200 ≤ e ∧ e ≤ 800 ∧ 0 < n ∧ Bd 200 n ∧ ∀ ys : List (List Int), ys.length = xs.length → (∀ r ∈ ys, r.length = 3) → (∀ r ∈ ys, ∀ x ∈ r, Bd 2100 x) → (∀ f, Spn ys f ↔ Spn xs f ∧ n ∣ dot3 l f) → W (.loc 0) [.lst (ys.map rowD)]
  | _, _ => False
theorem rd_bound_by : ∀ rs S W, rs.length = 3 → sp_bound_by rs S W → w_bound_by { nx := fun _ S1 => retN S.length W (.d .non) S1, rt := retN S.length W } (start1 11 rs) S := by
  intro rs S W _ h
  unfold sp_bound_by at h
  split at h
  · rename_i rows line n _
    obtain ⟨e, xs, l, rfl, rfl, ll, x3, l3, be, bl, e0, e8, n0, nb, h⟩ := h
    obtain ⟨u, v, w, rfl⟩ := three_of l3
    simp only [List.mem_cons, List.not_mem_nil, or_false, forall_eq_or_imp, forall_eq] at bl
    obtain ⟨b1, b2, b3⟩ := bl
    unfold w_bound_by
    refine seqI fun P hP => ?_
    wide_open with (if_true, if_true)
    refine ⟨by simp; omega, lcL_mapD (g := rowD) (fun r => rowD (hrow [u, v, w] n r)) (by simp) trivial (fun r hr => ?_) ?_⟩
    · have hb := be r hr
      obtain ⟨p, q, s, rfl⟩ := three_of (ll r hr)
      simp only [List.mem_cons, List.not_mem_nil, or_false, forall_eq_or_imp, forall_eq] at hb
      obtain ⟨c1, c2, c3⟩ := hb
      refine ⟨_, rfl, fun W1 h => h, fun W1 h => ?_⟩
      wide_open with (rowD, lcL)
      refine ⟨mulOk b1 c1 (by omega), mulOk b2 c2 (by omega), mulOk b3 c3 (by omega), by omega, ?_⟩
      have eq : [u * p, v * q, w * s].sum = dot3 [u, v, w] (vt [p, q, s]) := by simp only [dot3, List.sum_cons, List.sum_nil]; show _ = u * p + v * q + w * s; omega
      rw [eq]
      exact h
    · have xl : ∀ r ∈ xs.map (hrow [u, v, w] n), r.length = 4 := fun r hr => by
        obtain ⟨s, hs, rfl⟩ := List.mem_map.mp hr
        rw [List.length_cons, ll s hs]
      have md : ∀ z : Int, Bd 200 (z.fmod n) := fun z => by
        have h1 := Int.fmod_nonneg_of_pos z n0
        have h2 := Int.fmod_lt_of_pos z n0
        have h3 := nb.lt
        exact Bd.lit (by omega)
      have xb : ∀ r ∈ xs.map (hrow [u, v, w] n), ∀ x ∈ r, Bd e x := fun r hr x hx => by
        obtain ⟨s, hs, rfl⟩ := List.mem_map.mp hr
        rcases List.mem_cons.mp hx with rfl | hx
        · exact (md _).mono e0
        · exact be s hs x hx
      have xh : ∀ r ∈ xs.map (hrow [u, v, w] n), Bd 200 (vt r 0) := fun r hr => by
        obtain ⟨s, hs, rfl⟩ := List.mem_map.mp hr
        exact md _
      wide_open with (sp_gathered, if_true)
      refine ⟨e + 1011, e, 200, xs.map (hrow [u, v, w] n), by rw [List.map_map]; rfl, xl, by simpa using x3, xb, xh, by omega, by omega, .inl (by decide), fun still busy g => ?_⟩
      obtain ⟨y1, y2, y3⟩ := bound_ok ll n0 g
      have ybd : ∀ r ∈ still.map List.tail ++ busy.map (bRow n), ∀ x ∈ r, Bd 2100 x := fun r hr x hx => by
        rcases List.mem_append.mp hr with hr | hr
        · obtain ⟨s, hs, rfl⟩ := List.mem_map.mp hr
          exact (g.sz s (List.mem_append_left _ hs) x (List.mem_of_mem_tail hx)).mono (by omega)
        · obtain ⟨s, hs, rfl⟩ := List.mem_map.mp hr
          obtain ⟨y, hy, rfl⟩ := List.mem_map.mp hx
          have o1 : Bd 201 (oft n (vt s 0)) := fdiv_bd nb (by
            have : 0 < Int.gcd (vt s 0) n := Nat.pos_of_ne_zero fun z => by
              have := Int.gcd_eq_zero_iff.mp z
              omega
            omega)
          exact (o1.mul (g.sz s (List.mem_append_right _ hs) y (List.mem_of_mem_tail hy))).mono (by omega)
      have h := h _ y1 y2 ybd y3
      clear y1 y2 ybd y3
      have sl : still.length ≤ 3 := by have := g.len; simp at this; omega
      have tl : ∀ r : List Int, r.length = 4 → ∃ a b c d, r = [a, b, c, d] := fun r h => four_of h
      refine hP _ _ ?_; clear hP
      refine seqI fun P hP => ?_
      wide_open with (if_true, if_true)
      refine ⟨by simp; omega, lcL_mapD (g := rowD) (fun r => rowD r.tail) (by simp) trivial (fun r hr => ?_) ?_⟩
      · obtain ⟨p, q, s, t, rfl⟩ := tl r (g.ll r (List.mem_append_left _ hr))
        refine ⟨_, rfl, fun W1 h => h, fun W1 h => ?_⟩
        wide_open with (rowD, cut_one)
        exact h
      · wide_open with (if_true, if_true)
        refine hP _ _ ?_; clear hP
        refine seqI fun P hP => ?_
        have g1 := g.one
        match busy, g, g1, h with
        | [], g, _, h =>
          wide_open with (if_true, if_true)
          refine forL_nil trivial ?_
          refine hP _ _ ?_; clear hP
          wide_open with (if_true, if_true)
          rw [List.map_nil, List.append_nil, List.map_map] at h
          exact h
        | [r], g, _, h =>
          have g0 : 0 < Int.gcd (vt r 0) n := Nat.pos_of_ne_zero fun z => by
            have := Int.gcd_eq_zero_iff.mp z
            omega
          have o1 : Bd 201 (oft n (vt r 0)) := fdiv_bd nb (by omega)
          have o2 : ∀ x ∈ r, Bd (e + 1011) x := g.sz r (by simp)
          obtain ⟨p, q, s, t, rfl⟩ := tl r (g.ll r (by simp))
          simp only [List.mem_cons, List.not_mem_nil, or_false, forall_eq_or_imp, forall_eq] at o2
          obtain ⟨o3, o4, o5, o6⟩ := o2
          have cd : CDv n ((Int.gcd p n : Nat) : Int) := (gcd_cdv (by omega) (nb.mono (by decide)) n).1
          wide_open with (rowD, if_true)
          refine forL_cons trivial ?_
          wide_open with (sp_divisor, spGcd, cut_one, lcL)
          refine ⟨cd, mulOk o1 o4 (by omega), mulOk o1 o5 (by omega), mulOk o1 o6 (by omega), ?_⟩
          refine ⟨by simp; omega, _, _, Cut.refl, forL_nil trivial ?_⟩
          refine hP _ _ ?_; clear hP
          wide_open with (if_true, if_true)
          rw [List.map_append, List.map_map] at h
          exact h
  · exact h.elim
/-- slots: 0 rows, 1 at, 2 still, 3 busy, 4 lead, 5 row, 6 number -/
def w_parted_at : PS1 :=
  (wSeq (wUnp (fTp 2 (fCons (fNm 2) (fCons (fNm 3) fNil))) (wCall sp_gathered 1 (wCons (wFz (wLc (wIt (wVar 0)) (fNm 5) wYes (wBin pAddI (wTup (wCons (wBin pIx (wVar 5) (wVar 1)) wNil)) (wVar 5)) [5])) wNil)))
  (wSeq (wSet 4 (wSl (wBin pIx (wVar 3) (wC (.int 0))) (wSome (wC (.int 1))) wNo))
  (wSeq (wIf (wTest (wBin pLt (wBin pIx (wVar 4) (wVar 1)) (wC (.int 0)))) (wSet 4 (wFn fTup (wCons (wLc (wIt (wVar 4)) (fNm 6) wYes (wUn pNeg (wVar 6)) [6]) wNil))) wNext)
  (wRet (wTup (wCons (wVar 4) (wCons (wFz (wLc (wIt (wVar 2)) (fNm 5) wYes (wSl (wVar 5) (wSome (wC (.int 1))) wNo) [5])) wNil)))))))
def sp_parted_at : SpZ := fun rs S W => match rs with
  | [.d (.lst ds), .d (.int kk)] => ∃ (e k : Nat) (xs : List (List Int)), ds = xs.map rowD ∧ kk = k ∧ k < 3 ∧ (∀ r ∈ xs, r.length = 3) ∧ xs.length ≤ 3 ∧ (∀ r ∈ xs, ∀ x ∈ r, Bd e x) ∧ e ≤ 160000 ∧ (e ≤ 13500 ∨ xs.length ≤ 1) ∧ (∃ r ∈ xs, vt r k ≠ 0) ∧ ∀ lead still, PDone (6 * e + 11) xs k lead still → W (.d (.tup [rowD lead, .lst (still.map rowD)])) S
  | _ => False
theorem rd_parted_at : ∀ rs S W, rs.length = 2 → sp_parted_at rs S W → w_parted_at { nx := fun _ S1 => retN S.length W (.d .non) S1, rt := retN S.length W } (start1 7 rs) S := by
  intro rs S W _ h
  unfold sp_parted_at at h
  split at h
  · obtain ⟨e, k, xs, rfl, rfl, k3, ll, x3, be, ee, dv, ex, h⟩ := h
    have gi : ∀ a b c : Int, getI [D.int a, D.int b, D.int c] (k : Int) = some (.int (vt [a, b, c] k)) := fun a b c => by
      match k, k3 with
      | 0, _ => rfl
      | 1, _ => rfl
      | 2, _ => rfl
    unfold w_parted_at
    refine seqI fun P hP => ?_
    wide_open with (if_true, if_true)
    refine ⟨by simp; omega, lcL_mapD (g := rowD) (fun r => rowD (krow k r)) (by simp) trivial (fun r hr => ?_) ?_⟩
    · obtain ⟨p, q, s, rfl⟩ := three_of (ll r hr)
      refine ⟨_, rfl, fun W1 h => h, fun W1 h => ?_⟩
      wide_open with (rowD, gi)
      exact h
    · have xl : ∀ r ∈ xs.map (krow k), r.length = 4 := fun r hr => by
        obtain ⟨s, hs, rfl⟩ := List.mem_map.mp hr
        rw [List.length_cons, ll s hs]
      have xh : ∀ r ∈ xs.map (krow k), Bd e (vt r 0) := fun r hr => by
        obtain ⟨s, hs, rfl⟩ := List.mem_map.mp hr
        exact vt_bd (be s hs) k
      have xb : ∀ r ∈ xs.map (krow k), ∀ x ∈ r, Bd e x := fun r hr x hx => by
        obtain ⟨s, hs, rfl⟩ := List.mem_map.mp hr
        rcases List.mem_cons.mp hx with rfl | hx
        · exact vt_bd (be s hs) k
        · exact be s hs x hx
      wide_open with (sp_gathered, if_true)
      refine ⟨6 * e + 11, e, e, xs.map (krow k), by rw [List.map_map]; rfl, xl, by simpa using x3, xb, xh, by omega, by omega, by simpa using dv, fun still busy g => ?_⟩
      obtain ⟨r0, rfl, l0, nz, hp, hn⟩ := parted_ok ex g
      have sl : still.length ≤ 3 := by have := g.len; simp at this; omega
      have tl : ∀ r : List Int, r.length = 4 → ∃ a b c d, r = [a, b, c, d] := fun r h => four_of h
      obtain ⟨u, p, q, s, rfl⟩ := tl r0 (g.ll r0 (by simp))
      simp only [List.tail_cons] at *
      refine hP _ _ ?_; clear hP
      refine seqI fun P hP => ?_
      wide_open with (rowD, cut_one)
      refine hP _ _ ?_; clear hP
      refine seqI fun P hP => ?_
      wide_open with (gi, if_true)
      have last : ∀ (lead : List Int) (R0 : Rho), (∃ a b c d e, R0 = [a, b, some (.d (.lst (still.map rowD))), c, some (.d (rowD lead)), d, e]) → PDone (6 * e + 11) xs k lead (still.map List.tail) → P R0 S := fun lead R0 hR hd => by
        obtain ⟨r1, r2, r3, r4, r5, rfl⟩ := hR
        refine hP _ _ ?_; clear hP
        wide_open with (if_true, if_true)
        refine ⟨by simp; omega, lcL_mapD (g := rowD) (fun r => rowD r.tail) (by simp) trivial (fun r hr => ?_) ?_⟩
        · obtain ⟨p, q, s, t, rfl⟩ := tl r (g.ll r (List.mem_append_left _ hr))
          refine ⟨_, rfl, fun W1 h => h, fun W1 h => ?_⟩
          wide_open with (rowD, cut_one)
          exact h
        · wide_open with (if_true, if_true)
          rw [show still.map (fun r => rowD r.tail) = (still.map List.tail).map rowD by rw [List.map_map]; rfl]
          exact h lead _ hd
      by_cases neg : vt [p, q, s] k < 0
      · rw [if_pos (by simpa using neg)]
        wide_open with (lcL, if_true)
        exact last [-p, -q, -s] _ ⟨_, _, _, _, _, rfl⟩ (hn neg)
      · rw [if_neg (by simpa using neg)]
        exact last [p, q, s] _ ⟨_, _, _, _, _, rfl⟩ (hp (by omega))
  · exact h.elim
/-- slots: 0 _law_purse_here, 1 _law_most -/
def w_l_small : PS1 :=
  (wRet (wBin pSub (wCall sp_l_draw 2 (wCons (wVar 0) (wCons (wBin pAddI (wBin pMulI (wC (.int 2)) (wVar 1)) (wC (.int 1))) wNil))) (wVar 1)))
def sp_l_small : SpZ := spSm3
theorem rd_l_small : ∀ rs S W, rs.length = 2 → sp_l_small rs S W → w_l_small { nx := fun _ S1 => retN S.length W (.d .non) S1, rt := retN S.length W } (start1 2 rs) S := by
  intro rs S W _ h
  unfold sp_l_small spSm3 at h
  split at h
  · rename_i n p c k _
    obtain ⟨⟨n0, n1⟩, hc, kk, h⟩ := h
    wide_open with (w_l_small, sp_l_draw, spDr3)
    exact ⟨mulOk_l (by decide), ⟨by omega, by omega⟩, hc, kk, fun v p k' v0 v1 k0 k1 => h _ _ _ (by omega) (by omega) k0 k1⟩
  · exact h.elim
/-- slots: 0 _law_four_here, 1 _law_found, 2 _law_number, 3 _law_part -/
def w_l_plain : PS1 :=
  (wSeq (wSet 1 (wCall sp_l_shrunk 1 (wCons (wVar 0) wNil)))
  (wSeq (wFor (wIt (wVar 1)) (fNm 2) (wIf (wTest (wBin pNe (wVar 2) (wC (.int 0)))) (wRet (wFn fTup (wCons (wLc (wIt (wVar 1)) (fNm 3) wYes (wBin pIx (wLst (wCons (wVar 3) (wCons (wBin pSub (wC (.int 0)) (wVar 3)) wNil))) (wFn fInt (wCons (wBin pLt (wVar 2) (wC (.int 0))) wNil))) [3]) wNil))) wNext))
  (wRet (wVar 1))))
def sp_l_plain : SpZ := spPln
theorem rd_l_plain : ∀ rs S W, rs.length = 1 → sp_l_plain rs S W → w_l_plain { nx := fun _ S1 => retN S.length W (.d .non) S1, rt := retN S.length W } (start1 4 rs) S := by
  intro rs S W _ h
  unfold sp_l_plain spPln at h
  split at h
  · obtain ⟨ns, rfl, hz, hb, hl, h⟩ := h
    have pz := prow_nz hz
    have ef := fs_prow hz
    rw [pln_prow, ← ef] at h
    unfold w_l_plain
    refine seqI fun P hP => ?_
    wide_open with (sp_l_shrunk, if_true)
    refine ⟨ns, rfl, hz, hb, hl, ?_⟩
    refine hP _ _ ?_; clear hP
    have pl : (prow ns).length ≤ 1000 := by unfold prow; rw [List.length_map]; exact hl
    generalize prow ns = ms at *
    refine seqI fun P hP => ?_
    have go : ∀ (xs : List Int) (y : Option R), (∃ x ∈ xs, x ≠ 0) → W (.d (.tup ((ms.map (fs xs * ·)).map D.int))) S → forL S.length (fun _ => True) (fNm 2) (wIf (wTest (wBin pNe (wVar 2) (wC (.int 0)))) (wRet (wFn fTup (wCons (wLc (wIt (wVar 1)) (fNm 3) wYes (wBin pIx (wLst (wCons (wVar 3) (wCons (wBin pSub (wC (.int 0)) (wVar 3)) wNil))) (wFn fInt (wCons (wBin pLt (wVar 2) (wC (.int 0))) wNil))) [3]) wNil))) wNext) { nx := P, rt := retN S.length W } ((xs.map D.int).map R.d) [some (.d (.tup (ns.map D.int))), some (.d (.tup (ms.map D.int))), y, none] S := by
      intro xs
      induction xs with
      | nil => intro y hx; simp at hx
      | cons x xs ih =>
        intro y hx hw
        simp only [List.map_cons]
        refine forL_cons trivial ?_
        wide_open with (if_true, if_true)
        by_cases h0 : x = 0
        · subst h0
          wide_open with (if_true, if_true)
          have hx' : ∃ x ∈ xs, x ≠ 0 := by
            obtain ⟨z, hz, h1⟩ := hx
            rcases List.mem_cons.mp hz with rfl | hz
            · exact absurd rfl h1
            · exact ⟨z, hz, h1⟩
          refine ⟨_, _, Cut.refl, ih _ hx' ?_⟩
          simpa [fs] using hw
        · have e : (x == 0) = false := by simpa using h0
          wide_open with (e, if_true)
          refine ⟨by simp; omega, lcL_ints (fun n => fs (x :: xs) * n) (by simp) trivial (fun n hn => ⟨_, rfl, fun W1 h => h, fun W1 h => ?_⟩) ?_⟩
          · wide_open with (if_true, if_true)
            by_cases hn : x < 0
            · have ev : fs (x :: xs) = -1 := by simp [fs, h0, hn]
              rw [ev] at h
              rw [if_pos (by simpa using hn)]
              wide_open with (if_true, if_true)
              rw [show (0 - n : Int) = -1 * n by omega]
              exact h
            · have ev : fs (x :: xs) = 1 := by simp [fs, h0, hn]
              rw [ev, Int.one_mul] at h
              rw [if_neg (by simpa using hn)]
              wide_open with (if_true, if_true)
              exact h
          · wide_open with (if_true, if_true)
            exact hw
    wide_open with (if_true, if_true)
    exact go ms _ pz h
  · exact h.elim
/-- slots: 0 four, 1 found, 2 first, 3 number -/
def w_plain : PS1 :=
  (wSeq (wSet 1 (wCall sp_plain_row 1 (wCons (wVar 0) wNil)))
  (wSeq (wSet 2 (wBin pIx (wLc (wIt (wVar 1)) (fNm 3) (wTest (wBin pNe (wVar 3) (wC (.int 0)))) (wVar 3) [3]) (wC (.int 0))))
  (wSeq (wIf (wTest (wBin pLt (wVar 2) (wC (.int 0)))) (wSet 1 (wFn fTup (wCons (wLc (wIt (wVar 1)) (fNm 3) wYes (wUn pNeg (wVar 3)) [3]) wNil))) wNext)
  (wRet (wVar 1)))))
def sp_plain : SpZ := spPln
theorem rd_plain : ∀ rs S W, rs.length = 1 → sp_plain rs S W → w_plain { nx := fun _ S1 => retN S.length W (.d .non) S1, rt := retN S.length W } (start1 4 rs) S := by
  intro rs S W _ h
  unfold sp_plain spPln at h
  split at h
  · obtain ⟨ns, rfl, hz, hb, hl, h⟩ := h
    wide_open with (w_plain, sp_plain_row)
    refine ⟨ns, rfl, hz, hb, hl, by simp [prow]; omega, lcL_intsF (fun n => !(n == 0)) (by simp) trivial (fun n hn => ⟨_, rfl, fun W1 h => ?_, fun _ W1 h => ?_⟩) ?_⟩
    · wide_open with (if_true, if_true)
      exact h
    · wide_open with (if_true, if_true)
      exact h
    · obtain ⟨y, ys, e, h0, hf⟩ := first_nz (prow_nz hz)
      rw [fs_prow hz] at hf
      rw [e]
      wide_open with (if_true, if_true)
      rw [pln_prow, hf] at h
      by_cases hy : y < 0
      · rw [if_pos hy] at h
        wide_open with (decide_eq_true hy, if_true)
        refine ⟨by simp [prow]; omega, lcL_ints (fun n => -n) (by simp) trivial (fun n hn => ⟨_, rfl, fun W1 h => h, fun W1 h => ?_⟩) ?_⟩
        · wide_open with (if_true, if_true)
          exact h
        · wide_open with (if_true, if_true)
          have e2 : (fun n : Int => -n) = fun n => -1 * n := by funext n; omega
          rw [e2]
          exact h
      · rw [if_neg hy] at h
        wide_open with (decide_eq_false hy, if_true)
        have e2 : (prow ns).map (1 * ·) = prow ns := by simp
        rw [e2] at h
        exact h
  · exact h.elim
/-- slots: 0 rows, 1 last, 2 middle, 3 first -/
def w_lower : PS1 :=
  (wSeq (wUnp (fTp 2 (fCons (fNm 1) (fCons (fNm 0) fNil))) (wCall sp_parted_at 2 (wCons (wVar 0) (wCons (wC (.int 2)) wNil))))
  (wSeq (wUnp (fTp 2 (fCons (fNm 2) (fCons (fNm 0) fNil))) (wCall sp_parted_at 2 (wCons (wVar 0) (wCons (wC (.int 1)) wNil))))
  (wSeq (wSet 3 (wBin pIx (wCall sp_parted_at 2 (wCons (wVar 0) (wCons (wC (.int 0)) wNil))) (wC (.int 0))))
  (wSeq (wSet 2 (wCall sp_row_less 3 (wCons (wVar 2) (wCons (wVar 3) (wCons (wBin pDiv (wBin pIx (wVar 2) (wC (.int 0))) (wBin pIx (wVar 3) (wC (.int 0)))) wNil)))))
  (wSeq (wSet 1 (wCall sp_row_less 3 (wCons (wVar 1) (wCons (wVar 2) (wCons (wBin pDiv (wBin pIx (wVar 1) (wC (.int 1))) (wBin pIx (wVar 2) (wC (.int 1)))) wNil)))))
  (wRet (wTup (wCons (wVar 3) (wCons (wVar 2) (wCons (wCall sp_row_less 3 (wCons (wVar 1) (wCons (wVar 3) (wCons (wBin pDiv (wBin pIx (wVar 1) (wC (.int 0))) (wBin pIx (wVar 3) (wC (.int 0)))) wNil)))) wNil))))))))))
def sp_lower : SpZ := fun rs S W => match rs with
  | [.d (.lst ds)] => ∃ (xs : List (List Int)) (K : Int), ds = xs.map rowD ∧ (∀ r ∈ xs, r.length = 3) ∧ xs.length = 3 ∧ (∀ r ∈ xs, ∀ x ∈ r, Bd 2100 x) ∧ K ≠ 0 ∧ Bd 9000 K ∧ (∀ i, i < 3 → Spn xs fun j => K * eV i j) ∧ ∀ h : Hn, h.Ok → Same xs h.rows → W (.d (.tup (h.rows.map rowD))) S
  | _ => False
theorem rd_lower : ∀ rs S W, rs.length = 1 → sp_lower rs S W → w_lower { nx := fun _ S1 => retN S.length W (.d .non) S1, rt := retN S.length W } (start1 4 rs) S := by
  intro rs S W _ h
  unfold sp_lower at h
  split at h
  · obtain ⟨xs, K, rfl, ll, x3, be, k0, kb, sp, h⟩ := h
    unfold w_lower
    refine seqI fun P hP => ?_
    wide_open with (sp_parted_at, if_true)
    refine ⟨2100, 2, xs, rfl, rfl, by decide, ll, by omega, be, by decide, .inl (by decide), span_has k0 (sp 2 (by decide)), fun l s2 p2 => ?_⟩
    refine hP _ _ ?_; clear hP
    refine seqI fun P hP => ?_
    wide_open with (sp_parted_at, if_true)
    have n2 := p2.len
    have sp1 := p2.next (sp 1 (by decide)) (by decide)
    have sp0 := p2.next (sp 0 (by decide)) (by decide)
    refine ⟨12611, 1, s2, rfl, rfl, by decide, p2.s3, by omega, fun r hr => p2.bd r (List.mem_cons_of_mem _ hr), by decide, .inl (by decide), span_has k0 sp1, fun m s1 p1 => ?_⟩
    refine hP _ _ ?_; clear hP
    refine seqI fun P hP => ?_
    wide_open with (sp_parted_at, if_true)
    have n1 := p1.len
    have sp0 := p1.next sp0 (by decide)
    refine ⟨75677, 0, s1, rfl, rfl, by decide, p1.s3, by omega, fun r hr => p1.bd r (List.mem_cons_of_mem _ hr), by decide, .inr (by omega), span_has k0 sp0, fun f s0 p0 => ?_⟩
    obtain ⟨a, b, c, d, e, g, rfl, rfl, rfl, a0, c0, g0, sm, ka, kc⟩ := three_low x3 k0 sp p2 p1 p0
    have ab : Bd 9000 a := Bd.lit (by have := kb.lt; omega)
    have cb : Bd 9000 c := Bd.lit (by have := kb.lt; omega)
    have b75 : Bd 75677 b := p1.bd [b, c, 0] (by simp) b (by simp)
    have d12 : Bd 12611 d := p2.bd [d, e, g] (by simp) d (by simp)
    have e12 : Bd 12611 e := p2.bd [d, e, g] (by simp) e (by simp)
    have az : a ≠ 0 := by omega
    have cz : c ≠ 0 := by omega
    have fm : ∀ x y : Int, x - x.fdiv y * y = x.fmod y := fun x y => by rw [Int.fmod_def, Int.mul_comm]
    have r1 : rless [b, c, 0] [a, 0, 0] (b.fdiv a) = [b.fmod a, c, 0] := by simp only [rless, List.zipWith_cons_cons, List.zipWith_nil_left, Int.mul_zero, Int.sub_zero, fm]
    have r2 : rless [d, e, g] [b.fmod a, c, 0] (e.fdiv c) = [d - e.fdiv c * b.fmod a, e.fmod c, g] := by simp only [rless, List.zipWith_cons_cons, List.zipWith_nil_left, Int.mul_zero, Int.sub_zero, fm]
    have r3 : rless [d - e.fdiv c * b.fmod a, e.fmod c, g] [a, 0, 0] ((d - e.fdiv c * b.fmod a).fdiv a) = [(d - e.fdiv c * b.fmod a).fmod a, e.fmod c, g] := by simp only [rless, List.zipWith_cons_cons, List.zipWith_nil_left, Int.mul_zero, Int.sub_zero, fm]
    have fb : Bd 9000 (b.fmod a) := by
      have h1 := Int.fmod_nonneg_of_pos b a0
      have h2 := Int.fmod_lt_of_pos b a0
      exact Bd.lit (by have := ab.lt; omega)
    have db : Bd 25000 (d - e.fdiv c * b.fmod a) := (d12.sub ((fdiv_bd e12 cz).mul fb)).mono (by decide)
    have t3 : ∀ x y z : Int, rowD [x, y, z] = .tup [.int x, .int y, .int z] := fun _ _ _ => rfl
    have rl : ∀ (W : R → Sto → Prop) (S : Sto) (x y z u v w m : Int), (MulOk m u ∧ MulOk m v ∧ MulOk m w) → W (.d (rowD (rless [x, y, z] [u, v, w] m))) S → sp_row_less [.d (.tup [.int x, .int y, .int z]), .d (.tup [.int u, .int v, .int w]), .d (.int m)] S W := fun W S x y z u v w m ⟨m1, m2, m3⟩ q => by
      refine ⟨[x, y, z], [u, v, w], rfl, rfl, by simp, fun n hn => ?_, q⟩
      simp only [List.mem_cons, List.not_mem_nil, or_false] at hn
      rcases hn with rfl | rfl | rfl
      · exact m1
      · exact m2
      · exact m3
    have z0 : ∀ m : Int, MulOk m 0 := fun m => mulOk_r (by decide)
    wide_open with (if_true, if_true)
    refine hP _ _ ?_; clear hP
    refine seqI fun P hP => ?_
    wide_open with (t3, if_true)
    refine ⟨cdv az ab (by decide), rl _ _ _ _ _ _ _ _ _ ⟨mulOk (fdiv_bd b75 az) ab (by decide), z0 _, z0 _⟩ ?_⟩
    rw [r1]
    wide_open with (t3, if_true)
    refine hP _ _ ?_; clear hP
    refine seqI fun P hP => ?_
    wide_open with (if_true, if_true)
    refine ⟨cdv cz cb (by decide), rl _ _ _ _ _ _ _ _ _ ⟨mulOk (fdiv_bd e12 cz) fb (by decide), mulOk (fdiv_bd e12 cz) cb (by decide), z0 _⟩ ?_⟩
    rw [r2]
    wide_open with (t3, if_true)
    refine hP _ _ ?_; clear hP
    wide_open with (if_true, if_true)
    refine ⟨cdv az ab (by decide), rl _ _ _ _ _ _ _ _ _ ⟨mulOk (fdiv_bd db az) ab (by decide), z0 _, z0 _⟩ ?_⟩
    rw [r3]
    obtain ⟨ok, sm2⟩ := lower_ok a0 c0 g0 sm
    have h := h _ ok sm2
    wide_open with (t3, if_true)
    exact h
  · exact h.elim
/-- slots: 0 _law_purse_here, 1 _law_most, 2 _law_found, 3 _law_k -/
def w_l_four : PS1 :=
  (wSeq (wSet 2 (wFn fTup (wCons (wLc (wRng1 (wCons (wC (.int 4)) wNil)) (fNm 3) wYes (wCall sp_l_small 2 (wCons (wVar 0) (wCons (wVar 1) wNil))) [3]) wNil)))
  (wSeq (wIf (wTest (wBin pEq (wVar 2) (wTup (wCons (wC (.int 0)) (wCons (wC (.int 0)) (wCons (wC (.int 0)) (wCons (wC (.int 0)) wNil))))))) (wRet (wTup (wCons (wC (.int 1)) (wCons (wC (.int 0)) (wCons (wC (.int 0)) (wCons (wC (.int 0)) wNil)))))) wNext)
  (wRet (wVar 2))))
def sp_l_four : SpZ := spFr3
theorem rd_l_four : ∀ rs S W, rs.length = 2 → sp_l_four rs S W → w_l_four { nx := fun _ S1 => retN S.length W (.d .non) S1, rt := retN S.length W } (start1 4 rs) S := by
  intro rs S W _ h
  unfold sp_l_four spFr3 at h
  split at h
  · rename_i n p c k _
    obtain ⟨⟨n0, n1⟩, hc, ⟨k0, k1⟩, h⟩ := h
    unfold w_l_four
    refine seqI fun P hP => ?_
    wide_open with (rgR_succ, rgR_zero, lcL, sp_l_small, spSm3)
    refine ⟨⟨by omega, by omega⟩, hc, ⟨k0, by omega⟩, fun v1 t1 a1 b1 c1 d1 => ⟨⟨by omega, by omega⟩, hc, ⟨c1, by omega⟩, fun v2 t2 a2 b2 c2 d2 => ⟨⟨by omega, by omega⟩, hc, ⟨c2, by omega⟩, fun v3 t3 a3 b3 c3 d3 => ⟨⟨by omega, by omega⟩, hc, ⟨c3, by omega⟩, fun v4 p4 t4 a4 b4 c4 d4 => ?_⟩⟩⟩⟩
    refine hP _ _ ?_; clear hP
    have e0 : (v1 == 0 && (v2 == 0 && (v3 == 0 && v4 == 0))) = decide ([v1, v2, v3, v4] = [0, 0, 0, 0]) := by
      simp only [List.cons.injEq, and_true, Bool.decide_and]; rfl
    refine seqI fun P hP => ?_
    wide_open with (e0, if_true)
    by_cases hz : [v1, v2, v3, v4] = [0, 0, 0, 0]
    · wide_open with (decide_eq_true hz, if_true)
      exact h [1, 0, 0, 0] p4 t4 rfl (by simp only [List.mem_cons, List.not_mem_nil, or_false, forall_eq_or_imp, forall_eq]; omega) ⟨1, by simp, by decide⟩ c4 (by omega)
    · wide_open with (decide_eq_false hz, if_true)
      refine hP _ _ ?_; clear hP
      wide_open with (if_true, if_true)
      exact h [v1, v2, v3, v4] p4 t4 rfl (by simp only [List.mem_cons, List.not_mem_nil, or_false, forall_eq_or_imp, forall_eq]; omega) (nz_four rfl hz) c4 (by omega)
  · exact h.elim
/-- slots: 0 _law_fours, 1 _law_point, 2 _law_four_here, 3 _law_some, 4 _law_bottom, 5 _law_row -/
def w_l_kept : PS1 :=
  (wSeq (wFor (wIt (wVar 0)) (fNm 2) (wSeq (wSet 3 (wCall sp_l_plain 1 (wCons (wVar 2) wNil)))
  (wSeq (wSet 4 (wCall sp_l_sum 2 (wCons (wVar 3) (wCons (wVar 3) wNil))))
  (wFor (wIt (wCall sp_l_rows 1 (wCons (wVar 3) wNil))) (fNm 5) (wIf (wTest (wBin pNe (wBin pMod (wCall sp_l_sum 2 (wCons (wVar 5) (wCons (wVar 1) wNil))) (wVar 4)) (wC (.int 0)))) (wRet (wC (.bl false))) wNext)))))
  (wRet (wC (.bl true))))
def sp_l_kept : SpZ := fun rs S W => ∃ (fours : List (List Int)) (pt : List Int) (pr : R) (T : Sto), (∀ f ∈ fours, f.length = 4 ∧ (∃ n ∈ f, n ≠ 0) ∧ ∀ x ∈ f, Bd 98 x) ∧ pt.length = 3 ∧ (∀ x ∈ pt, Bd 3000 x) ∧ rs = [.loc 0, pr] ∧ S = .lst (fours.map rowD) :: T ∧ ((pr = .d (rowD pt) ∧ T = []) ∨ (pr = .loc 1 ∧ T = [.lst (pt.map D.int)])) ∧ (Kp fours (vt pt) → W (.d (.bl true)) S) ∧ (¬ Kp fours (vt pt) → W (.d (.bl false)) S)
theorem rd_l_kept : ∀ rs S W, rs.length = 2 → sp_l_kept rs S W → w_l_kept { nx := fun _ S1 => retN S.length W (.d .non) S1, rt := retN S.length W } (start1 6 rs) S := by
  intro rs S W _ h
  obtain ⟨fours, pt, pr, T, hf, lp, bp, rfl, rfl, hs, h1, h0⟩ := h
  unfold w_l_kept
  refine seqI fun P hP => ?_
  wide_open with (if_true, if_true)
  refine forL_ix (fun i r S1 => S1 = .lst (fours.map rowD) :: T ∧ (∀ a ∈ fours.take i, kF a (vt pt)) ∧ ∃ (z2 z3 z4 z5 : Option R), r = [some (.loc 0), some pr, z2, z3, z4, z5]) ?_ ?_ ⟨rfl, by simp, _, _, _, _, rfl⟩
  · rintro i x hx r S1 ⟨rfl, kd, z2, z3, z4, z5, rfl⟩ M hM
    rw [List.map_map] at hx
    obtain ⟨a, ha, rfl⟩ := item_enc hx
    have am := mem_of_at ha
    obtain ⟨la, za, ba⟩ := hf a am
    obtain ⟨pl, pb, pz, n0, nb, r3, rl, rb⟩ := fours_ok la za ba
    refine ⟨by rfl, ?_⟩
    wide_open with (Function.comp, rowD, sp_l_plain, spPln, sp_l_sum, sp_l_rows)
    refine ⟨a, rfl, za, fun n hn => (ba n hn).mono (by decide), by omega, .inl ⟨pln a, rfl, rfl, pl, fun n hn => (pb n hn).mono (by decide), ?_⟩⟩
    wide_open with (if_true, if_true)
    refine ⟨pln a, rfl, pl, fun n hn => (pb n hn).mono (by decide), ?_⟩
    wide_open with (if_true, if_true)
    refine forL_ix (fun j r S1 => S1 = .lst (fours.map rowD) :: T ∧ (∀ l ∈ (rowsI (pln a)).take j, nrmI (pln a) ∣ dot3 l (vt pt)) ∧ ∃ z5 : Option R, r = [some (.loc 0), some pr, some (.d (.tup (a.map D.int))), some (.d (.tup ((pln a).map D.int))), some (.d (.int (nrmI (pln a)))), z5]) ?_ ?_ ⟨rfl, by simp, _, rfl⟩
    · rintro j x hx r S1 ⟨rfl, kl, z5, rfl⟩ M2 hM2
      rw [List.map_map] at hx
      obtain ⟨l, hl, rfl⟩ := item_enc hx
      have lm := mem_of_at hl
      refine ⟨trivial, ?_⟩
      have fin : nrmI (pln a) ∣ dot3 l (vt pt) → M2 [some (.loc 0), some pr, some (.d (.tup (a.map D.int))), some (.d (.tup ((pln a).map D.int))), some (.d (.int (nrmI (pln a)))), some (.d (rowD l))] (.lst (fours.map rowD) :: T) := fun hd => by
        refine hM2 _ _ ⟨rfl, fun l' hl' => ?_, _, rfl⟩
        rcases mem_take_one hl hl' with h | rfl
        · exact kl l' h
        · exact hd
      have bad : ¬ nrmI (pln a) ∣ dot3 l (vt pt) → W (.d (.bl false)) (.lst (fours.map rowD) :: T) := fun nd => h0 fun k => nd (k a am l lm)
      rcases hs with ⟨rfl, rfl⟩ | ⟨rfl, rfl⟩
      · wide_open with (Function.comp, rowD, sp_l_sum)
        refine .inr ⟨l, pt, rfl, rfl, r3 l lm, lp, fun n hn => (rb l lm n hn).mono (by decide), bp, ?_⟩
        wide_open with (if_true, if_true)
        refine ⟨by omega, ?_⟩
        split
        · rename_i q
          exact bad fun d => by rw [fmod_dvd.mpr d] at q; simp at q
        · rename_i q
          exact ⟨_, _, Cut.refl, fin (fmod_dvd.mp (by simpa using q))⟩
      · wide_open with (Function.comp, rowD, sp_l_sum)
        refine ⟨l, pt, rfl, rfl, r3 l lm, lp, fun n hn => (rb l lm n hn).mono (by decide), bp, ?_⟩
        wide_open with (if_true, if_true)
        refine ⟨by omega, ?_⟩
        split
        · rename_i q
          exact bad fun d => by rw [fmod_dvd.mpr d] at q; simp at q
        · rename_i q
          exact ⟨_, _, Cut.refl, fin (fmod_dvd.mp (by simpa using q))⟩
    · rintro r S1 ⟨rfl, kl, z5, rfl⟩
      refine ⟨trivial, _, _, Cut.refl, hM _ _ ⟨rfl, fun b hb => ?_, _, _, _, _, rfl⟩⟩
      rcases mem_take_one ha hb with hb | rfl
      · exact kd b hb
      · exact fun l hl => kl l (by rw [List.length_map, List.length_map, List.take_length]; exact hl)
  · rintro r S1 ⟨rfl, kd, z2, z3, z4, z5, rfl⟩
    refine ⟨by rfl, ?_⟩
    show P _ _
    rw [List.length_map, List.length_map, List.take_length] at kd
    refine hP _ _ ?_; clear hP
    wide_open with (if_true, if_true)
    exact h1 kd
/-- slots: 0 _law_purse_here, 1 _law_rows_here, 2 _law_found, 3 _law_k, 4 _law_most, 5 _law_often, 6 _law_at_here, 7 _law_point, 8 _law_turn, 9 _law_j -/
def w_l_points : PS1 :=
  (wSeq (wSet 2 (wLst wNil))
  (wSeq (wFor (wRng1 (wCons (wC (.int 6)) wNil)) (fNm 3) (wSeq (wSet 4 (wBin pIx (wLst (wCons (wC (.int 3)) (wCons (wBin pPow (wC (.int 10)) (wC (.int 9))) wNil))) (wCall sp_l_draw 2 (wCons (wVar 0) (wCons (wC (.int 2)) wNil)))))
  (wSeq (wSet 5 (wLc (wRng1 (wCons (wC (.int 3)) wNil)) (fNm 8) wYes (wCall sp_l_small 2 (wCons (wVar 0) (wCons (wVar 4) wNil))) [8]))
  (wSeq (wFzB 7 (wSeq (wSet 7 (wLc (wRng1 (wCons (wC (.int 3)) wNil)) (fNm 6) wYes (wFn fSum (wCons (wLc (wRng1 (wCons (wC (.int 3)) wNil)) (fNm 9) wYes (wBin pMulI (wBin pIx (wVar 5) (wVar 9)) (wBin pIx (wBin pIx (wVar 1) (wVar 9)) (wVar 6))) [9]) wNil)) [6]))
  (wSeq (wIf (wTest (wBin pEq (wBin pMod (wVar 3) (wC (.int 3))) (wC (.int 1)))) (wSeq (wSet 6 (wCall sp_l_draw 2 (wCons (wVar 0) (wCons (wC (.int 3)) wNil))))
  (wStI (wVar 7) (wVar 6) (wBin pAddI (wBin pIx (wVar 7) (wVar 6)) (wC (.int 1))))) wNext)
  (wIf (wTest (wBin pEq (wBin pMod (wVar 3) (wC (.int 3))) (wC (.int 2)))) (wSeq (wSet 4 (wBin pIx (wLst (wCons (wC (.int 20)) (wCons (wBin pPow (wC (.int 10)) (wC (.int 29))) wNil))) (wCall sp_l_draw 2 (wCons (wVar 0) (wCons (wC (.int 2)) wNil)))))
  (wSet 7 (wLc (wRng1 (wCons (wC (.int 3)) wNil)) (fNm 8) wYes (wCall sp_l_small 2 (wCons (wVar 0) (wCons (wVar 4) wNil))) [8]))) wNext))))
  (wDrop (wApp (wVar 2) (wVar 7)))))))
  (wRet (wVar 2))))
def sp_l_points : SpZ := fun rs S W => match rs, S with
  | [.loc 0, .d (.tup ds)], [.lst [.int _, .int c, .int k]] => ∃ h : Hn, ds = h.rows.map rowD ∧ (∀ r ∈ h.rows, ∀ x ∈ r, Bd 800 x) ∧ Bd SB c ∧ (0 ≤ k ∧ k ≤ 700000000) ∧ ∀ (ps : List (List Int)) (p k' : Int), (∀ q ∈ ps, q.length = 3 ∧ ∀ x ∈ q, Bd 2000 x) → 0 ≤ k' → k' ≤ k + 1000 → W (.loc 1) [.lst [.int p, .int c, .int k'], .lst (ps.map fun q => D.lst (q.map D.int))]
  | _, _ => False
theorem rd_l_points : ∀ rs S W, rs.length = 2 → sp_l_points rs S W → w_l_points { nx := fun _ S1 => retN S.length W (.d .non) S1, rt := retN S.length W } (start1 10 rs) S := by
  intro rs S W _ h
  unfold sp_l_points at h
  split at h
  · rename_i ds p0 c k _
    obtain ⟨g, rfl, bg, hc, ⟨k0, k1⟩, h⟩ := h
    have r1 : [g.a, 0, 0] ∈ g.rows := by simp [Hn.rows]
    have r2 : [g.b, g.c, 0] ∈ g.rows := by simp [Hn.rows]
    have r3 : [g.d, g.e, g.f] ∈ g.rows := by simp [Hn.rows]
    have ba := bg _ r1 g.a (by simp)
    have bb := bg _ r2 g.b (by simp)
    have bc := bg _ r2 g.c (by simp)
    have bd := bg _ r3 g.d (by simp)
    have be := bg _ r3 g.e (by simp)
    have bf := bg _ r3 g.f (by simp)
    unfold w_l_points
    refine seqI fun P hP => ?_
    wide_open with (if_true, if_true)
    refine hP _ _ ?_; clear hP
    refine seqI fun P hP => ?_
    wide_open with (if_true, if_true)
    refine forL_ix (fun i r S1 => ∃ (ps : List (List Int)) (p k' : Int) (z4 z6 : Option D) (z3 z5 z7 : Option R), ps.length = i ∧ (∀ q ∈ ps, q.length = 3 ∧ ∀ x ∈ q, Bd 2000 x) ∧ (0 ≤ k' ∧ k' ≤ k + 100 * i) ∧ S1 = [.lst [.int p, .int c, .int k'], .lst (ps.map fun q => D.lst (q.map D.int))] ∧ r = [some (.loc 0), some (.d (.tup (g.rows.map rowD))), some (.loc 1), z3, z4.map R.d, z5, z6.map R.d, z7, none, none]) ?_ ?_ ⟨[], p0, k, none, none, _, _, _, rfl, by simp, ⟨k0, by simp⟩, rfl, rfl⟩
    · rintro i x hx r S1 ⟨ps, p, k', z4, z6, z3, z5, z7, hl, hps, ⟨c1, d1⟩, rfl, rfl⟩ M hM
      obtain ⟨hi, rfl⟩ := rgR_get (lo := 0) (n := 6) hx
      have lb : ∀ (n : Nat) (z : Option D) (r : Rho), locBE n (z.map R.d :: r) = locBE n r := fun n z r => by
        cases z with
        | none => rfl
        | some d => show (locB n (.d d) && _) = _; rw [show locB n (.d d) = true from rfl, Bool.true_and]
      refine ⟨trivial, seqI fun P hP => ?_⟩
      wide_open with (sp_l_draw, spDr3)
      refine ⟨⟨by decide, by decide, .inl (by decide)⟩, hc, ⟨c1, by omega⟩, fun u p j1 u0 u1 c2 d2 => ?_⟩
      obtain ⟨N, hN, hn⟩ := getI_ints (ns := [3, 1000000000]) u0 (by simpa using u1)
      have hN' : getI [D.int 3, D.int 1000000000] u = some (.int N) := hN
      have hnb : 1 ≤ N ∧ N ≤ 1000000000 := by
        simp only [List.mem_cons, List.not_mem_nil, or_false] at hn
        omega
      wide_open with (hN', if_true)
      refine hP _ _ ?_; clear hP
      refine seqI fun P hP => ?_
      wide_open with (rgR_succ, rgR_zero, lcL, sp_l_small, spSm3)
      refine ⟨⟨by omega, by omega⟩, hc, ⟨c2, by omega⟩, fun v1 j2 a1 b1 c3 d3 => ⟨⟨by omega, by omega⟩, hc, ⟨c3, by omega⟩, fun v2 j3 a2 b2 c4 d4 => ⟨⟨by omega, by omega⟩, hc, ⟨c4, by omega⟩, fun v3 t3 j4 a3 b3 c5 d5 => ?_⟩⟩⟩
      refine hP _ _ ?_; clear hP
      refine seqI fun P hP => ?_
      have bv : ∀ v : Int, -N ≤ v → v ≤ N → Bd 30 v := fun v h1 h2 => Bd.of_le (b := 1000000000) (by omega) (by omega) (by decide)
      have w1 := bv v1 a1 b1
      have w2 := bv v2 a2 b2
      have w3 := bv v3 a3 b3
      refine fzI fun Pf hf => ?_
      have fin3 : ∀ (q : List Int) (p k' : Int) (z4 z6 : Option D), q.length = 3 → (∀ x ∈ q, Bd 2000 x) → 0 ≤ k' → k' ≤ k + 100 * ((i + 1 : Nat) : Int) → Pf [some (.loc 0), some (.d (.tup (g.rows.map rowD))), some (.loc 1), some (.d (.int (0 + (i : Int)))), z4.map R.d, some (.loc 2), z6.map R.d, some (.loc 3), none, none] [.lst [.int p, .int c, .int k'], .lst (ps.map fun q => D.lst (q.map D.int)), .lst [.int v1, .int v2, .int v3], .lst (q.map D.int)] := fun q p k' z4 z6 lq bq e0 e1 => by
        refine hf _ _ ⟨⟨Nat.le_refl _, rfl⟩, ?_, ?_⟩
        · wide_open with (locBE, lb, locB)
        · refine hP _ _ ?_
          wide_open with (if_true, if_true)
          refine ⟨by simp; omega, _, _, Cut.to (n := 2) (Nat.le_refl _) (by simp), hM _ _ ⟨ps ++ [q], p, k', z4, z6, some (.d (.int (0 + (i : Int)))), none, some (.d (.lst (q.map D.int))), by simp [hl], fun u hu => ?_, ⟨e0, e1⟩, by simp, ?_⟩⟩
          · rcases List.mem_append.mp hu with hu | hu
            · exact hps u hu
            · simp at hu; subst hu
              exact ⟨lq, bq⟩
          · cases z4 <;> cases z6 <;> rfl
      have fin4 : ∀ (q o : List Int) (p k' : Int) (z4 z6 : Option D), q.length = 3 → (∀ x ∈ q, Bd 2000 x) → 0 ≤ k' → k' ≤ k + 100 * ((i + 1 : Nat) : Int) → Pf [some (.loc 0), some (.d (.tup (g.rows.map rowD))), some (.loc 1), some (.d (.int (0 + (i : Int)))), z4.map R.d, some (.loc 2), z6.map R.d, some (.loc 4), none, none] [.lst [.int p, .int c, .int k'], .lst (ps.map fun q => D.lst (q.map D.int)), .lst [.int v1, .int v2, .int v3], .lst (o.map D.int), .lst (q.map D.int)] := fun q o p k' z4 z6 lq bq e0 e1 => by
        refine hf _ _ ⟨⟨Nat.le_succ 3, rfl⟩, ?_, ?_⟩
        · wide_open with (locBE, lb, locB)
        · refine hP _ _ ?_
          wide_open with (if_true, if_true)
          refine ⟨by simp; omega, _, _, Cut.to (n := 2) (Nat.le_refl _) (by simp), hM _ _ ⟨ps ++ [q], p, k', z4, z6, some (.d (.int (0 + (i : Int)))), none, some (.d (.lst (q.map D.int))), by simp [hl], fun u hu => ?_, ⟨e0, e1⟩, by simp, ?_⟩⟩
          · rcases List.mem_append.mp hu with hu | hu
            · exact hps u hu
            · simp at hu; subst hu
              exact ⟨lq, bq⟩
          · cases z4 <;> cases z6 <;> rfl
      refine seqI fun P1 h1 => setI fun P0 h0 => ?_
      wide_open with (rgR_succ, rgR_zero, lcL, Hn.rows, rowD)
      have z0 : ∀ m : Int, MulOk m 0 := fun m => mulOk_r (by decide)
      refine ⟨mulOk w1 ba (by decide), mulOk w2 bb (by decide), mulOk w3 bd (by decide), z0 _, mulOk w2 bc (by decide), mulOk w3 be (by decide), z0 _, z0 _, mulOk w3 bf (by decide), ?_⟩
      have sb : ∀ x y z : Int, Bd 840 x → Bd 840 y → Bd 840 z → Bd 1000 [x, y, z].sum := fun x y z h1 h2 h3 => by
        have : [x, y, z].sum = x + y + z := by simp only [List.sum_cons, List.sum_nil]; omega
        rw [this]
        exact ((h1.add h2).add h3).mono (by decide)
      have s0 := sb _ _ _ ((w1.mul ba).mono (by decide)) ((w2.mul bb).mono (by decide)) ((w3.mul bd).mono (by decide))
      have s1 := sb (v1 * 0) _ _ (by rw [Int.mul_zero]; exact Bd.zero) ((w2.mul bc).mono (by decide)) ((w3.mul be).mono (by decide))
      have s2 := sb (v1 * 0) (v2 * 0) _ (by rw [Int.mul_zero]; exact Bd.zero) (by rw [Int.mul_zero]; exact Bd.zero) ((w3.mul bf).mono (by decide))
      generalize [v1 * g.a, v2 * g.b, v3 * g.d].sum = m0 at *
      generalize [v1 * 0, v2 * g.c, v3 * g.e].sum = m1 at *
      generalize [v1 * 0, v2 * 0, v3 * g.f].sum = m2 at *
      refine h0 _ _ ?_
      clear h0 sb z0 w1 w2 w3 bv
      wide_open with (if_true, if_true)
      refine h1 _ _ ?_
      clear h1
      have b3 : ∀ x y z : Int, Bd 1000 x → Bd 1000 y → Bd 1000 z → ∀ n ∈ [x, y, z], Bd 2000 n := fun x y z h1 h2 h3 n hn => by
        simp only [List.mem_cons, List.not_mem_nil, or_false] at hn
        rcases hn with rfl | rfl | rfl
        · exact h1.mono (by decide)
        · exact h2.mono (by decide)
        · exact h3.mono (by decide)
      have em : (0 + (i : Int)).fmod 3 = (i : Int) % 3 := by rw [fmod_pos (by decide), Int.zero_add]
      refine seqI fun P1 h1 => ?_
      wide_open with (if_true, if_true)
      rw [em]
      refine ⟨by decide, ?_⟩
      by_cases i1 : (i : Int) % 3 = 1
      · rw [if_pos (by simpa using i1)]
        have last : ∀ (x y z v p k' : Int), Bd 1001 x → Bd 1001 y → Bd 1001 z → 0 ≤ k' → k' ≤ k + 100 * ((i + 1 : Nat) : Int) → P1 [some (.loc 0), some (.d (.tup (g.rows.map rowD))), some (.loc 1), some (.d (.int (0 + (i : Int)))), some (.d (.int N)), some (.loc 2), some (.d (.int v)), some (.loc 3), none, none] [.lst [.int p, .int c, .int k'], .lst (ps.map fun q => D.lst (q.map D.int)), .lst [.int v1, .int v2, .int v3], .lst [.int x, .int y, .int z]] := fun x y z v p k' hx hy hz e0 e1 => by
          refine h1 _ _ ?_
          have i2 : ((i : Int) % 3 == 2) = false := by rw [i1]; rfl
          wide_open with (if_true, if_true)
          rw [em, i2]
          refine ⟨by decide, ?_⟩
          wide_open with (if_true, if_true)
          exact fin3 [x, y, z] p k' (some (.int N)) (some (.int v)) rfl (fun n hn => by
            simp only [List.mem_cons, List.not_mem_nil, or_false] at hn
            rcases hn with rfl | rfl | rfl
            · exact hx.mono (by decide)
            · exact hy.mono (by decide)
            · exact hz.mono (by decide)) e0 e1
        have up : ∀ {m : Int}, Bd 1000 m → Bd 1001 m := fun h => h.mono (by decide)
        have up1 : ∀ {m : Int}, Bd 1000 m → Bd 1001 (m + 1) := fun h => (h.add (Bd.lit (n := 1) (by decide))).mono (by decide)
        wide_open with (sp_l_draw, spDr3)
        refine ⟨hc, ⟨c5, by omega⟩, fun v p j5 f0 f1 c6 d6 => ?_⟩
        have d7 : j5 ≤ k + 100 * ((i + 1 : Nat) : Int) := by omega
        rcases (show v = 0 ∨ v = 1 ∨ v = 2 by omega) with rfl | rfl | rfl
        · wide_open with (if_true, if_true)
          exact last _ _ _ 0 _ _ (up1 s0) (up s1) (up s2) c6 d7
        · wide_open with (if_true, if_true)
          exact last _ _ _ 1 _ _ (up s0) (up1 s1) (up s2) c6 d7
        · wide_open with (if_true, if_true)
          exact last _ _ _ 2 _ _ (up s0) (up s1) (up1 s2) c6 d7
      · rw [if_neg (by simpa using i1)]
        wide_open with (if_true, if_true)
        refine h1 _ _ ?_
        clear h1
        wide_open with (if_true, if_true)
        rw [em]
        refine ⟨by decide, ?_⟩
        by_cases i2 : (i : Int) % 3 = 2
        · rw [if_pos (by simpa using i2)]
          wide_open with (sp_l_draw, spDr3)
          refine ⟨⟨by decide, by decide, .inl (by decide)⟩, hc, ⟨c5, by omega⟩, fun v p j5 f0 f1 c6 d6 => ?_⟩
          obtain ⟨L, hL, hl2⟩ := getI_ints (ns := [20, 100000000000000000000000000000]) f0 (by simpa using f1)
          have hL' : getI [D.int 20, D.int 100000000000000000000000000000] v = some (.int L) := hL
          have hlb : 1 ≤ L ∧ L ≤ 100000000000000000000000000000 := by
            simp only [List.mem_cons, List.not_mem_nil, or_false] at hl2
            omega
          have bu : ∀ v : Int, -L ≤ v → v ≤ L → Bd 1000 v := fun v h1 h2 => Bd.of_le (b := 100000000000000000000000000000) (by omega) (by omega) (by decide)
          wide_open with (hL', rgR_succ, rgR_zero, lcL, sp_l_small, spSm3)
          refine ⟨⟨by omega, by omega⟩, hc, ⟨c6, by omega⟩, fun x1 j6 e1 f1 c7 d7 => ⟨⟨by omega, by omega⟩, hc, ⟨c7, by omega⟩, fun x2 j7 e2 f2 c8 d8 => ⟨⟨by omega, by omega⟩, hc, ⟨c8, by omega⟩, fun x3 p j8 e3 f3 c9 d9 => ?_⟩⟩⟩
          exact fin4 [x1, x2, x3] [m0, m1, m2] p j8 (some (.int L)) z6 rfl (b3 _ _ _ (bu x1 e1 f1) (bu x2 e2 f2) (bu x3 e3 f3)) c9 (by omega)
        · rw [if_neg (by simpa using i2)]
          exact fin3 [m0, m1, m2] _ _ (some (.int N)) z6 rfl (b3 _ _ _ s0 s1 s2) c5 (by omega)
    · rintro r S1 ⟨ps, p, k', z4, z6, z3, z5, z7, hl, hps, ⟨c1, d1⟩, rfl, rfl⟩
      rw [rgR_len] at d1
      refine ⟨trivial, ?_⟩
      show P _ _
      refine hP _ _ ?_; clear hP
      wide_open with (if_true, if_true)
      exact h ps _ _ hps c1 (by omega)
  · exact h.elim
/-- slots: 0 fours, 1 rows, 2 four, 3 one, 4 line -/
def w_kept_rows : PS1 :=
  (wSeq (wSet 1 (wTup (wCons (wTup (wCons (wC (.int 1)) (wCons (wC (.int 0)) (wCons (wC (.int 0)) wNil)))) (wCons (wTup (wCons (wC (.int 0)) (wCons (wC (.int 1)) (wCons (wC (.int 0)) wNil)))) (wCons (wTup (wCons (wC (.int 0)) (wCons (wC (.int 0)) (wCons (wC (.int 1)) wNil)))) wNil)))))
  (wSeq (wFor (wIt (wVar 0)) (fNm 2) (wSeq (wSet 3 (wCall sp_plain 1 (wCons (wVar 2) wNil)))
  (wFor (wIt (wCall sp_rows_of 1 (wCons (wVar 3) wNil))) (fNm 4) (wSet 1 (wCall sp_lower 1 (wCons (wFzL (wCall sp_bound_by 3 (wCons (wVar 1) (wCons (wVar 4) (wCons (wCall sp_size 1 (wCons (wVar 3) wNil)) wNil))))) wNil))))))
  (wRet (wVar 1))))
def sp_kept_rows : SpZ := fun rs S W => match rs, S with
  | [.loc 0], [.lst ds] => ∃ fours : List (List Int), ds = fours.map rowD ∧ (∀ f ∈ fours, f.length = 4 ∧ (∃ n ∈ f, n ≠ 0) ∧ ∀ x ∈ f, Bd 98 x) ∧ fours.length ≤ 4 ∧ ∀ (h : Hn) (K : Int), LatOf h (fun f => ∀ a ∈ fours, kF a f) → 0 < K → Bd 800 K → (∀ a ∈ fours, nrmI (pln a) ∣ K) → W (.d (.tup (h.rows.map rowD))) [.lst ds]
  | _, _ => False
theorem rd_kept_rows : ∀ rs S W, rs.length = 1 → sp_kept_rows rs S W → w_kept_rows { nx := fun _ S1 => retN S.length W (.d .non) S1, rt := retN S.length W } (start1 5 rs) S := by
  intro rs S W _ h
  unfold sp_kept_rows at h
  split at h
  · obtain ⟨fours, rfl, hf, l4, h⟩ := h
    unfold w_kept_rows
    refine seqI fun P hP => ?_
    wide_open with (if_true, if_true)
    refine hP _ _ ?_; clear hP
    refine seqI fun P hP => ?_
    wide_open with (if_true, if_true)
    refine forL_ix (fun i r S1 => S1 = [.lst (fours.map rowD)] ∧ ∃ (g : Hn) (K : Int) (z2 z3 z4 : Option R), LatOf g (fun f => ∀ a ∈ fours.take i, kF a f) ∧ 0 < K ∧ Bd (1 + 198 * i) K ∧ (∀ a ∈ fours.take i, nrmI (pln a) ∣ K) ∧ r = [some (.loc 0), some (.d (.tup (g.rows.map rowD))), z2, z3, z4]) ?_ ?_ ?_
    · rintro i x hx r S1 ⟨rfl, g, K, z2, z3, z4, gl, k0, kb, kd, rfl⟩ M hM
      rw [List.map_map] at hx
      obtain ⟨a, ha, rfl⟩ := item_enc hx
      have am := mem_of_at ha
      obtain ⟨la, za, ba⟩ := hf a am
      have il : i < fours.length := (List.getElem?_eq_some_iff.mp ha).1
      have pl : (pln a).length = 4 := by rw [pln_len, la]
      have pb := pln_bds za ba
      have pz := pln_nz za
      have nb := nrmI_bd pb
      have n0 := nrm0 pl pz
      have rb := rowsI_bd pb
      have r3 : ∀ l ∈ rowsI (pln a), l.length = 3 := by
        obtain ⟨p, q, s, t, e⟩ := four_of pl
        rw [e]
        simp [rowsI]
      have rl : (rowsI (pln a)).length = 3 := by
        obtain ⟨p, q, s, t, e⟩ := four_of pl
        rw [e]; rfl
      have taken : ∀ b, b ∈ fours.take (i + 1) → b ∈ fours.take i ∨ b = a := fun b hb => mem_take_one ha hb
      have all : ∀ b, b ∈ fours.take i → b ∈ fours.take (i + 1) := fun b hb => by rw [List.take_add_one]; exact List.mem_append_left _ hb
      have here : a ∈ fours.take (i + 1) := by rw [List.take_add_one, ha]; simp
      refine ⟨by rfl, ?_⟩
      wide_open with (Function.comp, rowD, sp_plain, spPln, sp_rows_of)
      refine ⟨a, rfl, za, fun n hn => (ba n hn).mono (by decide), by omega, pln a, rfl, pl, fun n hn => (pb n hn).mono (by decide), ?_⟩
      have kn : Bd (1 + 198 * (i + 1)) (K * nrmI (pln a)) := (kb.mul nb).mono (by omega)
      have kn0 : 0 < K * nrmI (pln a) := Int.mul_pos k0 n0
      have old : ∀ b ∈ fours.take i, nrmI (pln b) ∣ K * nrmI (pln a) := fun b hb => Int.dvd_trans (kd b hb) (Int.dvd_mul_right ..)
      have kFof : ∀ (b : List Int) (q : Nat), nrmI (pln b) ∣ K * nrmI (pln a) → kF b fun j => K * nrmI (pln a) * eV q j := fun b q hd row _ => Int.dvd_trans hd (dot3_eV ..)
      refine forL_ix (fun j r S1 => S1 = [.lst (fours.map rowD)] ∧ ∃ (g' : Hn) (z4 : Option R), LatOf g' (fun f => (∀ b ∈ fours.take i, kF b f) ∧ ∀ row ∈ (rowsI (pln a)).take j, nrmI (pln a) ∣ dot3 row f) ∧ r = [some (.loc 0), some (.d (.tup (g'.rows.map rowD))), some (.d (.tup (a.map D.int))), some (.d (.tup ((pln a).map D.int))), z4]) ?_ ?_ ⟨rfl, g, z4, ⟨gl.1, fun f => (gl.2 f).trans ⟨fun h => ⟨h.1, h.2, fun row hr => by simp at hr⟩, fun h => ⟨h.1, h.2.1⟩⟩⟩, rfl⟩
      · rintro j x hx r S1 ⟨rfl, g', z5, gl', rfl⟩ M2 hM2
        rw [List.map_map] at hx
        obtain ⟨l, hl, rfl⟩ := item_enc hx
        have lm := mem_of_at hl
        have spK : ∀ q, q < 3 → Spn g'.rows fun j => K * nrmI (pln a) * eV q j := fun q hq => (gl'.2 _).mpr ⟨Far.eV hq, fun b hb => kFof b q (old b hb), fun row hr => Int.dvd_trans (Int.dvd_mul_left ..) (dot3_eV ..)⟩
        have k800 : Bd 800 (K * nrmI (pln a)) := kn.mono (by omega)
        have gb := gl'.1.bd (by omega) k800 spK
        have g3 : ∀ r ∈ g'.rows, r.length = 3 := fun r hr => by
          simp only [Hn.rows, List.mem_cons, List.not_mem_nil, or_false] at hr
          rcases hr with rfl | rfl | rfl <;> rfl
        refine ⟨trivial, ?_⟩
        wide_open with (Function.comp, rowD, sp_size, spSize, sp_bound_by, sp_lower)
        refine ⟨pln a, rfl, fun m hm => (pb m hm).mono (by decide), by omega, 800, g'.rows, l, rfl, rfl, g3, Nat.le_refl 3, r3 l lm, gb, fun m hm => (rb l lm m hm).mono (by decide), by decide, by decide, by rw [sqs_four pl]; exact n0, by rw [sqs_four pl]; exact nb.mono (by decide), fun ys y1 y2 y3 y4 => ?_⟩
        rw [sqs_four pl] at y4
        wide_open with (if_true, if_true)
        refine ⟨ys, K * nrmI (pln a), rfl, y2, by rw [y1]; rfl, y3, by omega, k800.mono (by decide), fun q hq => (y4 _).mpr ⟨spK q hq, Int.dvd_trans (Int.dvd_mul_left ..) (dot3_eV ..)⟩, fun h' ok' sm => ?_⟩
        refine ⟨_, _, Cut.refl, hM2 _ _ ⟨rfl, h', _, ⟨ok', fun f => ?_⟩, rfl⟩⟩
        rw [← sm.spn, y4, gl'.2]
        constructor
        · rintro ⟨⟨f1, f2, f3⟩, f4⟩
          exact ⟨f1, f2, fun row hr => by
            rcases mem_take_one hl hr with hr | rfl
            · exact f3 row hr
            · exact f4⟩
        · rintro ⟨f1, f2, f3⟩
          exact ⟨⟨f1, f2, fun row hr => f3 row (by rw [List.take_add_one]; exact List.mem_append_left _ hr)⟩, f3 l (by rw [List.take_add_one, hl]; simp)⟩
      · rintro r S1 ⟨rfl, g', z5, gl', rfl⟩
        refine ⟨trivial, _, _, Cut.refl, hM _ _ ⟨rfl, g', K * nrmI (pln a), _, _, _, ⟨gl'.1, fun f => ?_⟩, kn0, kn, fun b hb => ?_, rfl⟩⟩
        · rw [gl'.2]
          constructor
          · rintro ⟨f1, f2, f3⟩
            refine ⟨f1, fun b hb => ?_⟩
            rcases taken b hb with hb | rfl
            · exact f2 b hb
            · exact fun row hr => f3 row (by rw [List.length_map, List.length_map, List.take_length]; exact hr)
          · rintro ⟨f1, f2⟩
            exact ⟨f1, fun b hb => f2 b (all b hb), fun row hr => f2 a here row (List.mem_of_mem_take hr)⟩
        · rcases taken b hb with hb | rfl
          · exact old b hb
          · exact Int.dvd_mul_left ..
    · rintro r S1 ⟨rfl, g, K, z2, z3, z4, gl, k0, kb, kd, rfl⟩
      refine ⟨by rfl, ?_⟩
      show P _ _
      rw [List.length_map, List.length_map, List.take_length] at gl kd
      rw [List.length_map, List.length_map] at kb
      refine hP _ _ ?_; clear hP
      wide_open with (if_true, if_true)
      exact h g K gl k0 (kb.mono (by omega)) kd
    · exact ⟨rfl, oneH, 1, none, none, none, ⟨one_lat.1, fun f => (one_lat.2 f).trans ⟨fun h => ⟨h.1, fun a ha => by simp at ha⟩, fun h => ⟨h.1, trivial⟩⟩⟩, by decide, Bd.lit (by decide), fun a ha => by simp at ha, rfl⟩
  · exact h.elim
/-- slots: 0 _law_script, 1 _law_k, 2 _law_purse_here, 3 _law_fours, 4 _law_turn, 5 _law_handed, 6 _law_rows_here, 7 _law_alone, 8 _law_some, 9 _law_point, 10 _law_due, 11 _law_row, 12 _law_four_here, 13 _law_one -/
def w_law : PS1 :=
  (wSeq (wFor (wRng1 (wCons (wC (.int 5)) wNil)) (fNm 1) (wSeq (wSet 2 (wCall sp_l_purse 2 (wCons (wVar 0) (wCons (wVar 1) wNil))))
  (wSeq (wSet 3 (wLst wNil))
  (wSeq (wFor (wRng1 (wCons (wBin pAddI (wC (.int 1)) (wCall sp_l_draw 2 (wCons (wVar 2) (wCons (wC (.int 4)) wNil)))) wNil)) (fNm 4) (wDrop (wApp (wVar 3) (wCall sp_l_four 2 (wCons (wVar 2) (wCons (wBin pIx (wLst (wCons (wC (.int 3)) (wCons (wC (.int 100)) (wCons (wBin pPow (wC (.int 10)) (wC (.int 29))) wNil)))) (wCall sp_l_draw 2 (wCons (wVar 2) (wCons (wC (.int 3)) wNil)))) wNil))))))
  (wSeq (wSet 5 (wFn fList (wCons (wVar 3) wNil)))
  (wSeq (wSet 6 (wCall sp_kept_rows 1 (wCons (wVar 5) wNil)))
  (wSeq (wIf (wOrT (wNotT (wTest (wCall sp_l_form 1 (wCons (wVar 6) wNil)))) (wOrT (wTest (wBin pNe (wVar 5) (wVar 3))) (wTest (wBin pNe (wCall sp_kept_rows 1 (wCons (wRvL (wVar 3)) wNil)) (wVar 6))))) (wRet (wC (.bl false))) wNext)
  (wSeq (wIf (wTest (wBin pNe (wFn fLen (wCons (wLc (wIt (wVar 6)) (fNm 11) (wTest (wCall sp_l_kept 2 (wCons (wVar 3) (wCons (wVar 11) wNil)))) (wVar 11) [11]) wNil)) (wC (.int 3)))) (wRet (wC (.bl false))) wNext)
  (wSeq (wSet 7 (wLc (wIt (wVar 3)) (fNm 12) wYes (wCall sp_kept_rows 1 (wCons (wLst (wCons (wVar 12) wNil)) wNil)) [12]))
  (wSeq (wIf (wTest (wBin pGt (wFn fLen (wCons (wLc (wIt (wVar 7)) (fNm 13) (wNotT (wTest (wCall sp_l_form 1 (wCons (wVar 13) wNil)))) (wVar 13) [13]) wNil)) (wC (.int 0)))) (wRet (wC (.bl false))) wNext)
  (wFor (wIt (wBin pCat (wLst (wCons (wVar 6) wNil)) (wVar 7))) (fNm 8) (wFor (wIt (wCall sp_l_points 2 (wCons (wVar 2) (wCons (wVar 8) wNil)))) (fNm 9) (wSeq (wSet 10 (wBin pEq (wFn fLen (wCons (wLc (wIt (wVar 7)) (fNm 13) (wNotT (wTest (wCall sp_l_in 2 (wCons (wVar 13) (wCons (wVar 9) wNil))))) (wVar 13) [13]) wNil)) (wC (.int 0))))
  (wIf (wTest (wBin pNe (wCall sp_l_in 2 (wCons (wVar 6) (wCons (wVar 9) wNil))) (wVar 10))) (wRet (wC (.bl false))) wNext))))))))))))))
  (wRet (wC (.bl true))))
def sp_law : SpZ := spLaw Script
theorem rd_law : ∀ rs S W, rs.length = 1 → sp_law rs S W → w_law { nx := fun _ S1 => retN S.length W (.d .non) S1, rt := retN S.length W } (start1 14 rs) S := by
  intro rs S W _ h
  unfold sp_law spLaw at h
  split at h
  · obtain ⟨ns, rfl, hs, h⟩ := h
    unfold w_law
    refine seqI fun P hP => ?_
    wide_open with (if_true, if_true)
    refine forL_ix (fun i r S1 => ∃ (y1 y2 y3 y4 y5 y6 y7 y8 y9 y10 y11 y12 y13 : Option R), S1 = [] ∧ r = [some (.ro (ns.map D.int)), y1, y2, y3, y4, y5, y6, y7, y8, y9, y10, y11, y12, y13]) ?_ ?_ ⟨_, _, _, _, _, _, _, _, _, _, _, _, _, rfl, rfl⟩
    · rintro i x hx r S1 ⟨y1, y2, y3, y4, y5, y6, y7, y8, y9, y10, y11, y12, y13, rfl, rfl⟩ M hM
      obtain ⟨hi, rfl⟩ := rgR_get (lo := 0) (n := 5) hx
      refine ⟨trivial, seqI fun P hP => ?_⟩
      wide_open with (sp_l_purse, if_true)
      refine ⟨ns, rfl, hs, ⟨by omega, by omega⟩, fun p c hc => ?_⟩
      refine hP _ _ ?_; clear hP
      refine seqI fun P hP => ?_
      wide_open with (if_true, if_true)
      refine hP _ _ ?_; clear hP
      refine seqI fun P hP => ?_
      wide_open with (sp_l_draw, spDr3)
      refine ⟨hc, ⟨by omega, by omega⟩, fun v p j1 v0 v1 c1 d1 => ⟨by omega, by omega, ?_⟩⟩
      refine forL_ix (fun i2 r S1 => ∃ (fs : List (List Int)) (a k' : Int) (z4 : Option R), fs.length = i2 ∧ (∀ f ∈ fs, f.length = 4 ∧ (∃ n ∈ f, n ≠ 0) ∧ ∀ x ∈ f, Bd 98 x) ∧ 0 ≤ k' ∧ k' ≤ 10000 + 100 * i2 ∧ r = [some (.ro (ns.map D.int)), some (.d (.int (0 + (i : Int)))), some (.loc 0), some (.loc 1), z4, y5, y6, y7, y8, y9, y10, y11, y12, y13] ∧ S1 = [.lst [.int a, .int c, .int k'], .lst (fs.map rowD)]) ?_ ?_ ⟨[], p, j1, _, rfl, by simp, c1, by omega, rfl, rfl⟩
      · rintro i2 x hx r S1 ⟨fs, a, k', z4, fl, hf, a0, a1, rfl, rfl⟩ M2 hM2
        obtain ⟨hi2, rfl⟩ := rgR_get hx
        refine ⟨trivial, ?_⟩
        wide_open with (sp_l_draw, spDr3, sp_l_four, spFr3)
        refine ⟨⟨by decide, by decide, .inl (by decide)⟩, hc, ⟨a0, by omega⟩, fun u p j2 u0 u1 c2 d2 => ?_⟩
        obtain ⟨N, hN, hn⟩ := getI_ints (ns := [3, 100, 100000000000000000000000000000]) u0 (by simpa using u1)
        have hN' : getI [D.int 3, D.int 100, D.int 100000000000000000000000000000] u = some (.int N) := hN
        have hnb : 1 ≤ N ∧ N ≤ 100000000000000000000000000000 := by
          simp only [List.mem_cons, List.not_mem_nil, or_false] at hn
          omega
        wide_open with (hN', if_true)
        refine ⟨⟨by omega, by omega⟩, hc, ⟨c2, by omega⟩, fun f p j3 lf bf zf c3 d3 => ?_⟩
        refine ⟨by simp; omega, _, _, Cut.refl, hM2 _ _ ⟨fs ++ [f], p, j3, _, by simp [fl], fun g hg => ?_, c3, by omega, rfl, by simp; rfl⟩⟩
        rcases List.mem_append.mp hg with hg | hg
        · exact hf g hg
        · simp at hg; subst hg
          exact ⟨lf, zf, fun x hx => Bd.of_le (b := 100000000000000000000000000000) (by have := bf x hx; omega) (by have := bf x hx; omega) (by decide)⟩
      · rintro r S1 ⟨fs, a, k', z4, fl, hf, a0, a1, rfl, rfl⟩
        rw [rgR_len] at fl a1
        refine ⟨trivial, ?_⟩
        show P _ _
        refine hP _ _ ?_; clear hP
        refine seqI fun P hP => ?_
        wide_open with (if_true, if_true)
        refine hP _ _ ?_; clear hP
        have f4 : fs.length ≤ 4 := by omega
        have kr : ∀ (fs : List (List Int)) (W : R → Sto → Prop), (∀ f ∈ fs, f.length = 4 ∧ (∃ n ∈ f, n ≠ 0) ∧ ∀ x ∈ f, Bd 98 x) → fs.length ≤ 4 → (∀ g : Hn, LatOf g (Kp fs) → (∀ r ∈ g.rows, ∀ x ∈ r, Bd 800 x) → W (.d (.tup (g.rows.map rowD))) [.lst (fs.map rowD)]) → sp_kept_rows [.loc 0] [.lst (fs.map rowD)] W := fun fs W h1 h2 q =>
          ⟨fs, rfl, h1, h2, fun g K lat k0 kb kd => q g lat (lat.1.bd (by omega) kb fun q hq => (lat.2 _).mpr ⟨Far.eV hq, fun a ha row _ => Int.dvd_trans (kd a ha) (dot3_eV ..)⟩)⟩
        have fm : ∀ (g : Hn) (W : R → Sto → Prop) (S : Sto), LatOf g (Kp fs) ∨ g.Ok → W (.d (.bl true)) S → sp_l_form [.d (.tup (g.rows.map rowD))] S W := fun g W S hg q => ⟨g, by
          rcases hg with hg | hg
          · exact hg.1
          · exact hg, rfl, q⟩
        refine seqI fun P hP => ?_
        wide_open with (if_true, if_true)
        refine kr fs _ hf f4 fun g lat bg => ?_
        wide_open with (if_true, if_true)
        refine hP _ _ ?_; clear hP
        refine seqI fun P hP => ?_
        refine ifI fun Pb hb => orI fun P1 h1 => ?_
        wide_open with (if_true, if_true)
        refine fm g _ _ (.inl lat) ?_
        wide_open with (if_true, if_true)
        refine h1 _ _ ?_
        clear h1
        have dr := depth_rows fs
        have dr2 := depth_rows g.rows
        wide_open with (eqa_self, if_true)
        refine ⟨by omega, ?_⟩
        rw [← List.map_reverse]
        refine kr fs.reverse _ (fun f h => hf f (List.mem_reverse.mp h)) (by simp; omega) fun g2 lat2 _ => ?_
        obtain rfl := lat_rev lat lat2
        wide_open with (eqa_self, if_true)
        refine ⟨by omega, ?_⟩
        refine hb _ _ ?_
        clear hb
        rw [if_neg (by decide)]
        refine hP _ _ ?_; clear hP
        have kept : ∀ r ∈ g.rows, Kp fs (vt r) := fun r hr => ((lat.2 _).mp (.mem hr)).2
        have r1 : [g.a, 0, 0] ∈ g.rows := by simp [Hn.rows]
        have r2 : [g.b, g.c, 0] ∈ g.rows := by simp [Hn.rows]
        have r3 : [g.d, g.e, g.f] ∈ g.rows := by simp [Hn.rows]
        have row : ∀ (r : List Int) (W : R → Sto → Prop), r ∈ g.rows → r.length = 3 → W (.d (.bl true)) [.lst (fs.map rowD)] → sp_l_kept [.loc 0, .d (rowD r)] [.lst (fs.map rowD)] W := fun r W hr l3 q =>
          ⟨fs, r, _, [], hf, l3, fun x hx => (bg r hr x hx).mono (by decide), rfl, rfl, .inl ⟨rfl, rfl⟩, fun _ => q, fun k => absurd (kept r hr) k⟩
        refine seqI fun P hP => ?_
        wide_open with (Hn.rows, lcL)
        refine row _ _ r1 rfl ?_
        wide_open with (if_true, if_true)
        refine row _ _ r2 rfl ?_
        wide_open with (if_true, if_true)
        refine row _ _ r3 rfl ?_
        wide_open with (if_true, if_true)
        refine hP _ _ ?_; clear hP
        have eg : D.tup [rowD [g.a, 0, 0], rowD [g.b, g.c, 0], rowD [g.d, g.e, g.f]] = hnD g := rfl
        rw [eg]
        refine seqI fun P hP => ?_
        wide_open with (if_true, if_true)
        refine ⟨by simp; omega, lcL_rel (g := rowD) (e := hnD) (fun a y => LatOf y (Kp [a]) ∧ ∀ r ∈ y.rows, ∀ x ∈ r, Bd 800 x) (by simp) (by rfl) (fun a ha => ⟨_, rfl, fun W1 h => h, fun W1 h => ?_⟩) fun gs gl h1 h2 => ?_⟩
        · wide_open with (if_true, if_true)
          refine kr [a] _ (fun f hf1 => by simp at hf1; subst hf1; exact hf _ ha) (by simp) fun y ly by_ => ?_
          exact h y _ ⟨ly, by_⟩ (by rfl)
        · wide_open with (if_true, if_true)
          refine hP _ _ ?_; clear hP
          have g4 : gs.length ≤ 4 := by omega
          have oky : ∀ y ∈ gs, y.Ok ∧ ∀ r ∈ y.rows, ∀ x ∈ r, Bd 800 x := fun y hy => by
            obtain ⟨x, _, h1, h2⟩ := h1 y hy
            exact ⟨h1.1, h2⟩
          have al : ∀ q : List Int, q.length = 3 → (Spn g.rows (vt q) ↔ ∀ y ∈ gs, Spn y.rows (vt q)) := fun q lq => all_alone lat (fun y hy => by obtain ⟨x, hx, h, _⟩ := h1 y hy; exact ⟨x, hx, h⟩) (fun x hx => by obtain ⟨y, hy, h, _⟩ := h2 x hx; exact ⟨y, hy, h⟩) fun i hi => vt3_far lq hi
          clear h1 h2
          refine seqI fun P hP => ?_
          wide_open with (if_true, if_true)
          refine ⟨by simp; omega, lcL_filD (g := hnD) (fun _ => false) hnD (by simp) (by rfl) (fun y hy => ⟨_, rfl, fun W1 h => ?_, fun z => by cases z⟩) ?_⟩
          · wide_open with (if_true, if_true)
            refine fm y _ _ (.inr (oky y hy).1) ?_
            wide_open with (if_true, if_true)
            exact h
          have e0 : gs.filter (fun _ => false) = [] := by simp
          rw [e0]
          wide_open with (if_true, if_true)
          refine hP _ _ ?_; clear hP
          wide_open with (if_true, if_true)
          refine ⟨by simp; omega, ?_⟩
          have ec : R.d (hnD g) :: (gs.map hnD).map R.d = (g :: gs).map fun y => R.d (hnD y) := by rw [List.map_map]; rfl
          rw [ec]
          have okg : ∀ y ∈ g :: gs, y.Ok ∧ ∀ r ∈ y.rows, ∀ x ∈ r, Bd 800 x := fun y hy => by
            rcases List.mem_cons.mp hy with rfl | hy
            · exact ⟨lat.1, bg⟩
            · exact oky y hy
          refine forL_ix (fun j r S1 => ∃ (p k' : Int) (z8 z9 z10 : Option R), (0 ≤ k' ∧ k' ≤ 20000 + 1000 * j) ∧ S1 = [.lst [.int p, .int c, .int k'], .lst (fs.map rowD), .lst (fs.map rowD), .lst (fs.reverse.map rowD), .lst (gs.map hnD)] ∧ r = [some (.ro (ns.map D.int)), some (.d (.int (0 + (i : Int)))), some (.loc 0), some (.loc 1), z4, some (.loc 2), some (.d (hnD g)), some (.loc 4), z8, z9, z10, y11, y12, y13]) ?_ ?_ ⟨_, _, _, _, _, ⟨a0, by omega⟩, rfl, rfl⟩
          · rintro j x hx r S1 ⟨p, k', z8, z9, z10, ⟨e1, e2⟩, rfl, rfl⟩ M2 hM2
            obtain ⟨y, hy, rfl⟩ := item_enc hx
            have ym := mem_of_at hy
            have jl : j < gs.length + 1 := by have := (List.getElem?_eq_some_iff.mp hy).1; simpa using this
            obtain ⟨oy, by_⟩ := okg y ym
            refine ⟨trivial, ?_⟩
            wide_open with (sp_l_points, if_true)
            refine ⟨y, rfl, by_, hc, ⟨e1, by omega⟩, fun ps p k2 hps e3 e4 => ?_⟩
            wide_open with (if_true, if_true)
            refine forL_ix (fun l r S1 => S1 = [.lst [.int p, .int c, .int k2], .lst (fs.map rowD), .lst (fs.map rowD), .lst (fs.reverse.map rowD), .lst (gs.map hnD)] ∧ ∃ (z9 z10 : Option R), r = [some (.ro (ns.map D.int)), some (.d (.int (0 + (i : Int)))), some (.loc 0), some (.loc 1), z4, some (.loc 2), some (.d (hnD g)), some (.loc 4), some (.d (hnD y)), z9, z10, y11, y12, y13]) ?_ ?_ ⟨rfl, _, _, rfl⟩
            · rintro l x hx r S1 ⟨rfl, z9, z10, rfl⟩ M3 hM3
              rw [List.map_map] at hx
              obtain ⟨q, hq, rfl⟩ := item_enc hx
              obtain ⟨lq, bq⟩ := hps q (mem_of_at hq)
              have bq : ∀ x ∈ q, Bd 3000 x := fun x hx => (bq x hx).mono (by decide)
              refine ⟨trivial, seqI fun P hP => ?_⟩
              have inn : ∀ (y : Hn) (W : R → Sto → Prop) (S : Sto), (y.Ok ∧ ∀ r ∈ y.rows, ∀ x ∈ r, Bd 800 x) → W (.d (.bl (inB y q))) S → sp_l_in [.d (hnD y), .d (.lst (q.map D.int))] S W := fun y W S hy h => by
                refine ⟨y, q, _, rfl, .inr rfl, hy.1, lq, hy.2, bq, fun hs => ?_, fun hs => ?_⟩
                · rwa [inB_t.mpr hs] at h
                · rwa [show inB y q = false from Bool.eq_false_iff.mpr fun z => hs (inB_t.mp z)] at h
              wide_open with (Function.comp, if_true)
              refine ⟨by simp; omega, lcL_filD (g := hnD) (fun y => !inB y q) hnD (by simp) (by rfl) (fun y hy => ⟨_, rfl, fun W1 h => ?_, fun _ W1 h => ?_⟩) ?_⟩
              · wide_open with (if_true, if_true)
                refine inn y _ _ (oky y hy) ?_
                wide_open with (if_true, if_true)
                exact h
              · wide_open with (if_true, if_true)
                exact h
              wide_open with (List.length_map, if_true)
              refine hP _ _ ?_; clear hP
              wide_open with (if_true, if_true)
              refine inn g _ _ ⟨lat.1, bg⟩ ?_
              wide_open with (if_true, if_true)
              have same : (inB g q == (((gs.filter fun y => !inB y q).length : Int) == 0)) = true := by
                cases hg : inB g q with
                | true =>
                  have all := (al q lq).mp (inB_t.mp hg)
                  have : gs.filter (fun y => !inB y q) = [] := List.filter_eq_nil_iff.mpr fun y hy => by rw [inB_t.mpr (all y hy)]; simp
                  rw [this]; rfl
                | false =>
                  have : ¬ (gs.filter fun y => !inB y q).length = 0 := fun z => by
                    have z := List.length_eq_zero_iff.mp z
                    have all : ∀ y ∈ gs, Spn y.rows (vt q) := fun y hy => by
                      have := List.filter_eq_nil_iff.mp z y hy
                      exact inB_t.mp (by simpa using this)
                    have := inB_t.mpr ((al q lq).mpr all)
                    rw [hg] at this
                    cases this
                  have : (((gs.filter fun y => !inB y q).length : Int) == 0) = false := by simpa using this
                  rw [this]; rfl
              rw [same, if_neg (by decide)]
              exact ⟨_, _, Cut.refl, hM3 _ _ ⟨rfl, _, _, rfl⟩⟩
            · rintro r S1 ⟨rfl, z9, z10, rfl⟩
              refine ⟨trivial, _, _, Cut.refl, hM2 _ _ ⟨p, k2, _, _, _, ⟨e3, by omega⟩, rfl, rfl⟩⟩
          · rintro r S1 ⟨p, k', z8, z9, z10, ⟨e1, e2⟩, rfl, rfl⟩
            exact ⟨trivial, _, _, Cut.to (n := 0) (Nat.le_refl _) (Nat.zero_le _), hM _ _ ⟨_, _, _, _, _, _, _, _, _, _, _, _, _, rfl, rfl⟩⟩
    · rintro r S1 ⟨y1, y2, y3, y4, y5, y6, y7, y8, y9, y10, y11, y12, y13, rfl, rfl⟩
      refine ⟨trivial, ?_⟩
      show P _ _
      refine hP _ _ ?_; clear hP
      wide_open with (if_true, if_true)
      exact h
  · exact h.elim
def topS (i : Nat) : Stmt := PySem.Challenge.pw_hangrings_k72_points_of_several_turns.main.body.getD i (.Pass ⟨0, 0, 0, 0⟩)
abbrev st_divisor : Stmt := topS 1
abbrev N_divisor : List Str := ["one", "other"]
theorem sc_divisor : FnScope N_divisor ["one", "other"] (defScope st_divisor) := ⟨rfl, rfl, rfl, by decide +kernel, rfl, by decide +kernel, by decide +kernel⟩
theorem tm_divisor {P : Program} {w : World} {K : PySem.W.Frag} {mg : Str → Option Value} {base : Heap} {f : Addr} (hb_abs : mg "abs" = none) (cdv : Value) (A : Around) (outer : List Env) (s : Shared) (H : Hp) (E : XK) (hr : Room 0 (A.deeper (envOfC "divisor" (defScope st_divisor) s.heap.objs.size f cdv))) :
    WSs (cxOf CX0 P w K mg base N_divisor "divisor" (defScope st_divisor) f cdv A outer s H E).nox (defBody st_divisor) w_divisor := by
  have nd := sc_divisor.nd
  unfold w_divisor
  exact (ws_cons (ws_set (i := 0) nd rfl (by first | exact Or.inl rfl | exact Or.inr rfl) (we_blt f_abs (by rfl) hb_abs PyProof.Rows.boot_abs (wa_cons (we_var 0 (pv 0)) wa_nil)))
    (ws_cons (ws_set (i := 1) nd rfl (by first | exact Or.inl rfl | exact Or.inr rfl) (we_blt f_abs (by rfl) hb_abs PyProof.Rows.boot_abs (wa_cons (we_var 1 (pv 1)) wa_nil)))
    (ws_cons (ws_while PassesOwn.never (wt_cmp o_gt (we_var 1 (pv 1)) we_int (nomark _)) (ws_one (ws_par (i := 0) (j := 1) rfl nd rfl rfl (by decide) rfl rfl (wa_cons (we_var 1 (pv 1)) (wa_cons (we_bin o_mod (we_var 0 (pv 0)) (we_var 1 (pv 1))) wa_nil)) (by with_unfolding_all rfl))))
    (ws_one (ws_ret (we_var 0 (pv 0)))))))
abbrev st_divisor_of : Stmt := topS 2
abbrev N_divisor_of : List Str := ["numbers", "found", "number"]
theorem sc_divisor_of : FnScope N_divisor_of ["numbers"] (defScope st_divisor_of) := ⟨rfl, rfl, rfl, by decide +kernel, rfl, by decide +kernel, by decide +kernel⟩
theorem tm_divisor_of {P : Program} {w : World} {K : PySem.W.Frag} {mg : Str → Option Value} {base : Heap} {f : Addr} (F_divisor : FnZ P w K mg base 1 "divisor" 2 sp_divisor) (cdv : Value) (A : Around) (outer : List Env) (s : Shared) (H : Hp) (E : XK) (hr : Room 1 (A.deeper (envOfC "divisor_of" (defScope st_divisor_of) s.heap.objs.size f cdv))) :
    WSs (cxOf CX0 P w K mg base N_divisor_of "divisor_of" (defScope st_divisor_of) f cdv A outer s H E).nox (defBody st_divisor_of) w_divisor_of := by
  have nd := sc_divisor_of.nd
  unfold w_divisor_of
  exact (ws_cons (ws_set (i := 1) nd rfl (by first | exact Or.inl rfl | exact Or.inr rfl) we_int)
    (ws_cons (ws_for PassesOwn.never rfl (wi_seq (we_var 0 (pv 0))) (pg_name (i := 2) nd rfl (by first | exact Or.inl rfl | exact Or.inr rfl)) (tg_name 2) (ws_one (ws_set (i := 1) nd rfl (by first | exact Or.inl rfl | exact Or.inr rfl) (we_call F_divisor hr (by rfl) (wa_cons (we_var 1 (pv 1)) (wa_cons (we_var 2 (pv 2)) wa_nil))))))
    (ws_one (ws_ret (we_var 1 (pv 1))))))
abbrev st_plain_row : Stmt := topS 3
abbrev N_plain_row : List Str := ["numbers", "by", "number"]
theorem sc_plain_row : FnScope N_plain_row ["numbers"] (defScope st_plain_row) := ⟨rfl, rfl, rfl, by decide +kernel, rfl, by decide +kernel, by decide +kernel⟩
theorem tm_plain_row {P : Program} {w : World} {K : PySem.W.Frag} {mg : Str → Option Value} {base : Heap} {f : Addr} (F_divisor_of : FnZ P w K mg base 2 "divisor_of" 1 sp_divisor_of) (hb_tuple : mg "tuple" = none) (cdv : Value) (A : Around) (outer : List Env) (s : Shared) (H : Hp) (E : XK) (hr : Room 2 (A.deeper (envOfC "plain_row" (defScope st_plain_row) s.heap.objs.size f cdv))) :
    WSs (cxOf CX0 P w K mg base N_plain_row "plain_row" (defScope st_plain_row) f cdv A outer s H E).nox (defBody st_plain_row) w_plain_row := by
  have nd := sc_plain_row.nd
  unfold w_plain_row
  exact (ws_cons (ws_set (i := 1) nd rfl (by first | exact Or.inl rfl | exact Or.inr rfl) (we_call F_divisor_of hr (by rfl) (wa_cons (we_var 0 (pv 0)) wa_nil)))
    (ws_one (ws_ret (we_ty f_tup (by rfl) hb_tuple PyProof.Rows.boot_tuple (wa_cons (we_lc (own := [("number", 2)]) rfl nd (wi_seq (we_var 0 (pv 0))) (blkOk_by (N := N_plain_row) (sc := defScope st_plain_row) (by decide +kernel)) (fun _ _ _ _ _ => (pg_name (i := 2) nd rfl (by first | exact Or.inl rfl | exact Or.inr rfl))) (tg_name 2) (by decide) (fun _ _ _ _ _ => wts_nil) (fun _ _ _ _ _ => (we_bin o_div (we_var 2 (pv 2)) (we_var 1 (pv 1))))) wa_nil)))))
abbrev st_plain : Stmt := topS 5
abbrev N_plain : List Str := ["four", "found", "first", "number"]
theorem sc_plain : FnScope N_plain ["four"] (defScope st_plain) := ⟨rfl, rfl, rfl, by decide +kernel, rfl, by decide +kernel, by decide +kernel⟩
theorem tm_plain {P : Program} {w : World} {K : PySem.W.Frag} {mg : Str → Option Value} {base : Heap} {f : Addr} (F_plain_row : FnZ P w K mg base 3 "plain_row" 1 sp_plain_row) (hb_tuple : mg "tuple" = none) (cdv : Value) (A : Around) (outer : List Env) (s : Shared) (H : Hp) (E : XK) (hr : Room 3 (A.deeper (envOfC "plain" (defScope st_plain) s.heap.objs.size f cdv))) :
    WSs (cxOf CX0 P w K mg base N_plain "plain" (defScope st_plain) f cdv A outer s H E).nox (defBody st_plain) w_plain := by
  have nd := sc_plain.nd
  unfold w_plain
  exact (ws_cons (ws_set (i := 1) nd rfl (by first | exact Or.inl rfl | exact Or.inr rfl) (we_call F_plain_row hr (by rfl) (wa_cons (we_var 0 (pv 0)) wa_nil)))
    (ws_cons (ws_set (i := 2) nd rfl (by first | exact Or.inl rfl | exact Or.inr rfl) (we_ix (we_lc (own := [("number", 3)]) rfl nd (wi_seq (we_var 1 (pv 1))) (blkOk_by (N := N_plain) (sc := defScope st_plain) (by decide +kernel)) (fun _ _ _ _ _ => (pg_name (i := 3) nd rfl (by first | exact Or.inl rfl | exact Or.inr rfl))) (tg_name 3) (by decide) (fun _ _ _ _ _ => (wts_one (wt_cmp (o_ne hr.units) (we_var 3 (pv 3)) we_int (nomark _)))) (fun _ _ _ _ _ => (we_var 3 (pv 3)))) we_int (fun _ _ => rfl)))
    (ws_cons (ws_if (wt_cmp o_lt (we_var 2 (pv 2)) we_int (nomark _)) (ws_one (ws_set (i := 1) nd rfl (by first | exact Or.inl rfl | exact Or.inr rfl) (we_ty f_tup (by rfl) hb_tuple PyProof.Rows.boot_tuple (wa_cons (we_lc (own := [("number", 3)]) rfl nd (wi_seq (we_var 1 (pv 1))) (blkOk_by (N := N_plain) (sc := defScope st_plain) (by decide +kernel)) (fun _ _ _ _ _ => (pg_name (i := 3) nd rfl (by first | exact Or.inl rfl | exact Or.inr rfl))) (tg_name 3) (by decide) (fun _ _ _ _ _ => wts_nil) (fun _ _ _ _ _ => (we_un u_neg (we_var 3 (pv 3))))) wa_nil)))) ws_nil)
    (ws_one (ws_ret (we_var 1 (pv 1)))))))
abbrev st_size : Stmt := topS 6
abbrev N_size : List Str := ["four", "number"]
theorem sc_size : FnScope N_size ["four"] (defScope st_size) := ⟨rfl, rfl, rfl, by decide +kernel, rfl, by decide +kernel, by decide +kernel⟩
theorem tm_size {P : Program} {w : World} {K : PySem.W.Frag} {mg : Str → Option Value} {base : Heap} {f : Addr} (hb_sum : mg "sum" = none) (cdv : Value) (A : Around) (outer : List Env) (s : Shared) (H : Hp) (E : XK) (hr : Room 0 (A.deeper (envOfC "size" (defScope st_size) s.heap.objs.size f cdv))) :
    WSs (cxOf CX0 P w K mg base N_size "size" (defScope st_size) f cdv A outer s H E).nox (defBody st_size) w_size := by
  have nd := sc_size.nd
  unfold w_size
  exact (ws_one (ws_ret (we_blt (f_sum rfl) (by rfl) hb_sum PyProof.Rows.boot_sum (wa_cons (we_lc (own := [("number", 1)]) rfl nd (wi_seq (we_var 0 (pv 0))) (blkOk_by (N := N_size) (sc := defScope st_size) (by decide +kernel)) (fun _ _ _ _ _ => (pg_name (i := 1) nd rfl (by first | exact Or.inl rfl | exact Or.inr rfl))) (tg_name 1) (by decide) (fun _ _ _ _ _ => wts_nil) (fun _ _ _ _ _ => (we_bin o_mulI (we_var 1 (pv 1)) (we_var 1 (pv 1))))) wa_nil))))
abbrev st_rows_of : Stmt := topS 7
abbrev N_rows_of : List Str := ["four", "w", "x", "y", "z", "first", "second", "third"]
theorem sc_rows_of : FnScope N_rows_of ["four"] (defScope st_rows_of) := ⟨rfl, rfl, rfl, by decide +kernel, rfl, by decide +kernel, by decide +kernel⟩
theorem tm_rows_of {P : Program} {w : World} {K : PySem.W.Frag} {mg : Str → Option Value} {base : Heap} {f : Addr} (cdv : Value) (A : Around) (outer : List Env) (s : Shared) (H : Hp) (E : XK) (hr : Room 0 (A.deeper (envOfC "rows_of" (defScope st_rows_of) s.heap.objs.size f cdv))) :
    WSs (cxOf CX0 P w K mg base N_rows_of "rows_of" (defScope st_rows_of) f cdv A outer s H E).nox (defBody st_rows_of) w_rows_of := by
  have nd := sc_rows_of.nd
  unfold w_rows_of
  exact (ws_cons (ws_unp (we_var 0 (pv 0)) (pg_tup rfl (pgs_cons (pg_name (i := 1) nd rfl (by first | exact Or.inl rfl | exact Or.inr rfl)) (pgs_cons (pg_name (i := 2) nd rfl (by first | exact Or.inl rfl | exact Or.inr rfl)) (pgs_cons (pg_name (i := 3) nd rfl (by first | exact Or.inl rfl | exact Or.inr rfl)) (pgs_cons (pg_name (i := 4) nd rfl (by first | exact Or.inl rfl | exact Or.inr rfl)) pgs_nil))))) (tg_tup (n := 4) (tgs_cons (tg_name 1) (tgs_cons (tg_name 2) (tgs_cons (tg_name 3) (tgs_cons (tg_name 4) tgs_nil))))))
    (ws_cons (ws_set (i := 5) nd rfl (by first | exact Or.inl rfl | exact Or.inr rfl) (we_tup (wa_cons (we_bin o_sub (we_bin o_sub (we_bin o_addI (we_bin o_mulI (we_var 1 (pv 1)) (we_var 1 (pv 1))) (we_bin o_mulI (we_var 2 (pv 2)) (we_var 2 (pv 2)))) (we_bin o_mulI (we_var 3 (pv 3)) (we_var 3 (pv 3)))) (we_bin o_mulI (we_var 4 (pv 4)) (we_var 4 (pv 4)))) (wa_cons (we_bin o_mulI we_int (we_bin o_sub (we_bin o_mulI (we_var 2 (pv 2)) (we_var 3 (pv 3))) (we_bin o_mulI (we_var 1 (pv 1)) (we_var 4 (pv 4))))) (wa_cons (we_bin o_mulI we_int (we_bin o_addI (we_bin o_mulI (we_var 2 (pv 2)) (we_var 4 (pv 4))) (we_bin o_mulI (we_var 1 (pv 1)) (we_var 3 (pv 3))))) wa_nil)))))
    (ws_cons (ws_set (i := 6) nd rfl (by first | exact Or.inl rfl | exact Or.inr rfl) (we_tup (wa_cons (we_bin o_mulI we_int (we_bin o_addI (we_bin o_mulI (we_var 2 (pv 2)) (we_var 3 (pv 3))) (we_bin o_mulI (we_var 1 (pv 1)) (we_var 4 (pv 4))))) (wa_cons (we_bin o_sub (we_bin o_addI (we_bin o_sub (we_bin o_mulI (we_var 1 (pv 1)) (we_var 1 (pv 1))) (we_bin o_mulI (we_var 2 (pv 2)) (we_var 2 (pv 2)))) (we_bin o_mulI (we_var 3 (pv 3)) (we_var 3 (pv 3)))) (we_bin o_mulI (we_var 4 (pv 4)) (we_var 4 (pv 4)))) (wa_cons (we_bin o_mulI we_int (we_bin o_sub (we_bin o_mulI (we_var 3 (pv 3)) (we_var 4 (pv 4))) (we_bin o_mulI (we_var 1 (pv 1)) (we_var 2 (pv 2))))) wa_nil)))))
    (ws_cons (ws_set (i := 7) nd rfl (by first | exact Or.inl rfl | exact Or.inr rfl) (we_tup (wa_cons (we_bin o_mulI we_int (we_bin o_sub (we_bin o_mulI (we_var 2 (pv 2)) (we_var 4 (pv 4))) (we_bin o_mulI (we_var 1 (pv 1)) (we_var 3 (pv 3))))) (wa_cons (we_bin o_mulI we_int (we_bin o_addI (we_bin o_mulI (we_var 3 (pv 3)) (we_var 4 (pv 4))) (we_bin o_mulI (we_var 1 (pv 1)) (we_var 2 (pv 2))))) (wa_cons (we_bin o_addI (we_bin o_sub (we_bin o_sub (we_bin o_mulI (we_var 1 (pv 1)) (we_var 1 (pv 1))) (we_bin o_mulI (we_var 2 (pv 2)) (we_var 2 (pv 2)))) (we_bin o_mulI (we_var 3 (pv 3)) (we_var 3 (pv 3)))) (we_bin o_mulI (we_var 4 (pv 4)) (we_var 4 (pv 4)))) wa_nil)))))
    (ws_one (ws_ret (we_tup (wa_cons (we_var 5 (pv 5)) (wa_cons (we_var 6 (pv 6)) (wa_cons (we_var 7 (pv 7)) wa_nil))))))))))
abbrev st_row_less : Stmt := topS 9
abbrev N_row_less : List Str := ["row", "other", "many", "one", "two"]
theorem sc_row_less : FnScope N_row_less ["row", "other", "many"] (defScope st_row_less) := ⟨rfl, rfl, rfl, by decide +kernel, rfl, by decide +kernel, by decide +kernel⟩
theorem tm_row_less {P : Program} {w : World} {K : PySem.W.Frag} {mg : Str → Option Value} {base : Heap} {f : Addr} (hb_zip : mg "zip" = none) (hb_tuple : mg "tuple" = none) (cdv : Value) (A : Around) (outer : List Env) (s : Shared) (H : Hp) (E : XK) (hr : Room 0 (A.deeper (envOfC "row_less" (defScope st_row_less) s.heap.objs.size f cdv))) :
    WSs (cxOf CX0 P w K mg base N_row_less "row_less" (defScope st_row_less) f cdv A outer s H E).nox (defBody st_row_less) w_row_less := by
  have nd := sc_row_less.nd
  unfold w_row_less
  exact (ws_one (ws_ret (we_ty f_tup (by rfl) hb_tuple PyProof.Rows.boot_tuple (wa_cons (we_lc (own := [("one", 3), ("two", 4)]) rfl nd (wi_zip (by rfl) hb_zip (wa_cons (we_var 0 (pv 0)) (wa_cons (we_var 1 (pv 1)) wa_nil))) (blkOk_by (N := N_row_less) (sc := defScope st_row_less) (by decide +kernel)) (fun _ _ _ _ _ => (pg_tup rfl (pgs_cons (pg_name (i := 3) nd rfl (by first | exact Or.inl rfl | exact Or.inr rfl)) (pgs_cons (pg_name (i := 4) nd rfl (by first | exact Or.inl rfl | exact Or.inr rfl)) pgs_nil)))) (tg_tup (n := 2) (tgs_cons (tg_name 3) (tgs_cons (tg_name 4) tgs_nil))) (by decide) (fun _ _ _ _ _ => wts_nil) (fun _ _ _ _ _ => (we_bin o_sub (we_var 3 (pv 3)) (we_bin o_mulI (we_var 2 (pv 2)) (we_var 4 (pv 4)))))) wa_nil))))
abbrev st_gathered : Stmt := topS 10
abbrev N_gathered : List Str := ["rows", "still", "busy", "lead", "found", "row"]
theorem sc_gathered : FnScope N_gathered ["rows"] (defScope st_gathered) := ⟨rfl, rfl, rfl, by decide +kernel, rfl, by decide +kernel, by decide +kernel⟩
theorem tm_gathered {P : Program} {w : World} {K : PySem.W.Frag} {mg : Str → Option Value} {base : Heap} {f : Addr} {cL TL : Addr} (tbL : LamX.TabB base mg cL TL) (hTL : LamTab K TL) (F_row_less : FnZ P w K mg base 1 "row_less" 3 sp_row_less) (hb_len : mg "len" = none) (hb_sorted : mg "sorted" = none) (hb_abs : mg "abs" = none) (A : Around) (outer : List Env) (s : Shared) (H : Hp) (E : XK) (hr : Room 1 (A.deeper (envOfC "gathered" (defScope st_gathered) s.heap.objs.size f (.ref cL)))) :
    WSs (cxOf CX0 P w K mg base N_gathered "gathered" (defScope st_gathered) f (.ref cL) A outer s H E).nox (defBody st_gathered) w_gathered := by
  have nd := sc_gathered.nd
  unfold w_gathered
  exact (ws_cons (ws_fzS (ws_setLc (own := [("row", 5)]) (i := 1) rfl nd rfl rfl (sw_true rfl rfl rfl (by decide +kernel)) (wi_seq (we_var 0 (pv 0))) (blkOk_by (N := N_gathered) (sc := defScope st_gathered) (by decide +kernel)) (fun _ _ _ _ _ => (pg_name (i := 5) nd rfl (by first | exact Or.inl rfl | exact Or.inr rfl))) (tg_name 5) (by decide) (fun _ _ _ _ _ => (wts_one (wt_cmp (o_eq hr.units) (we_ix (we_var 5 (pv 5)) we_int (fun _ _ => rfl)) we_int (nomark _)))) (fun _ _ _ _ _ => (we_var 5 (pv 5)))))
    (ws_cons (ws_fzS (ws_setLc (own := [("row", 5)]) (i := 2) rfl nd rfl rfl (sw_true rfl rfl rfl (by decide +kernel)) (wi_seq (we_var 0 (pv 0))) (blkOk_by (N := N_gathered) (sc := defScope st_gathered) (by decide +kernel)) (fun _ _ _ _ _ => (pg_name (i := 5) nd rfl (by first | exact Or.inl rfl | exact Or.inr rfl))) (tg_name 5) (by decide) (fun _ _ _ _ _ => (wts_one (wt_cmp (o_ne hr.units) (we_ix (we_var 5 (pv 5)) we_int (fun _ _ => rfl)) we_int (nomark _)))) (fun _ _ _ _ _ => (we_var 5 (pv 5)))))
    (ws_cons (ws_while PassesOwn.never (wt_cmp o_gt (we_blt f_len (by rfl) hb_len PySem.boot_len (wa_cons (we_var 2 (pv 2)) wa_nil)) we_int (nomark _)) (ws_cons (ws_set (i := 2) nd rfl (by first | exact Or.inl rfl | exact Or.inr rfl) (we_fz (we_sortK (by rfl) hb_sorted hb_abs (we_var 2 (pv 2)) tbL rfl hTL (show (("gathered" : Str) ++ ".<locals>." ++ "<lambda>") = lamQ by decide +kernel) hr.depth hr.units)))
    (ws_cons (ws_set (i := 3) nd rfl (by first | exact Or.inl rfl | exact Or.inr rfl) (we_ix (we_var 2 (pv 2)) we_int (fun _ _ => rfl)))
    (ws_cons (ws_fzS (ws_setLc (own := [("row", 5)]) (i := 4) rfl nd rfl rfl (sw_true rfl rfl rfl (by decide +kernel)) (wi_seq (we_slice (we_var 2 (pv 2)) (wo_some we_int) wo_none)) (blkOk_by (N := N_gathered) (sc := defScope st_gathered) (by decide +kernel)) (fun _ _ _ _ _ => (pg_name (i := 5) nd rfl (by first | exact Or.inl rfl | exact Or.inr rfl))) (tg_name 5) (by decide) (fun _ _ _ _ _ => wts_nil) (fun _ _ _ _ _ => (we_call F_row_less hr (by rfl) (wa_cons (we_var 5 (pv 5)) (wa_cons (we_var 3 (pv 3)) (wa_cons (we_bin o_div (we_ix (we_var 5 (pv 5)) we_int (fun _ _ => rfl)) (we_ix (we_var 3 (pv 3)) we_int (fun _ _ => rfl))) wa_nil)))))))
    (ws_cons (ws_set (i := 1) nd rfl (by first | exact Or.inl rfl | exact Or.inr rfl) (we_fz (we_bin o_catQ (we_var 1 (pv 1)) (we_lc (own := [("row", 5)]) rfl nd (wi_seq (we_var 4 (pv 4))) (blkOk_by (N := N_gathered) (sc := defScope st_gathered) (by decide +kernel)) (fun _ _ _ _ _ => (pg_name (i := 5) nd rfl (by first | exact Or.inl rfl | exact Or.inr rfl))) (tg_name 5) (by decide) (fun _ _ _ _ _ => (wts_one (wt_cmp (o_eq hr.units) (we_ix (we_var 5 (pv 5)) we_int (fun _ _ => rfl)) we_int (nomark _)))) (fun _ _ _ _ _ => (we_var 5 (pv 5)))))))
    (ws_one (ws_set (i := 2) nd rfl (by first | exact Or.inl rfl | exact Or.inr rfl) (we_fz (we_bin o_cat (we_lst (wa_cons (we_var 3 (pv 3)) wa_nil)) (we_lc (own := [("row", 5)]) rfl nd (wi_seq (we_var 4 (pv 4))) (blkOk_by (N := N_gathered) (sc := defScope st_gathered) (by decide +kernel)) (fun _ _ _ _ _ => (pg_name (i := 5) nd rfl (by first | exact Or.inl rfl | exact Or.inr rfl))) (tg_name 5) (by decide) (fun _ _ _ _ _ => (wts_one (wt_cmp (o_ne hr.units) (we_ix (we_var 5 (pv 5)) we_int (fun _ _ => rfl)) we_int (nomark _)))) (fun _ _ _ _ _ => (we_var 5 (pv 5)))))))))))))
    (ws_one (ws_ret (we_tup (wa_cons (we_var 1 (pv 1)) (wa_cons (we_var 2 (pv 2)) wa_nil))))))))
abbrev st_bound_by : Stmt := topS 11
abbrev N_bound_by : List Str := ["rows", "line", "bottom", "row", "still", "busy", "found", "often", "a", "b", "number"]
theorem sc_bound_by : FnScope N_bound_by ["rows", "line", "bottom"] (defScope st_bound_by) := ⟨rfl, rfl, rfl, by decide +kernel, rfl, by decide +kernel, by decide +kernel⟩
theorem tm_bound_by {P : Program} {w : World} {K : PySem.W.Frag} {mg : Str → Option Value} {base : Heap} {f : Addr} (F_gathered : FnZ P w K mg base 2 "gathered" 1 sp_gathered) (F_divisor : FnZ P w K mg base 2 "divisor" 2 sp_divisor) (hb_zip : mg "zip" = none) (hb_sum : mg "sum" = none) (hb_tuple : mg "tuple" = none) (cdv : Value) (A : Around) (outer : List Env) (s : Shared) (H : Hp) (E : XK) (hr : Room 2 (A.deeper (envOfC "bound_by" (defScope st_bound_by) s.heap.objs.size f cdv))) :
    WSs (cxOf CX0 P w K mg base N_bound_by "bound_by" (defScope st_bound_by) f cdv A outer s H E).nox (defBody st_bound_by) w_bound_by := by
  have nd := sc_bound_by.nd
  unfold w_bound_by
  exact (ws_cons (ws_unp (we_call F_gathered hr (by rfl) (wa_cons (we_fz (we_lc (own := [("row", 3)]) rfl nd (wi_seq (we_var 0 (pv 0))) (blkOk_by (N := N_bound_by) (sc := defScope st_bound_by) (by decide +kernel)) (fun _ _ _ _ _ => (pg_name (i := 3) nd rfl (by first | exact Or.inl rfl | exact Or.inr rfl))) (tg_name 3) (by decide) (fun _ _ _ _ _ => wts_nil) (fun _ _ _ _ _ => (we_bin o_addI (we_tup (wa_cons (we_bin o_mod (we_blt (f_sum rfl) (by rfl) hb_sum PyProof.Rows.boot_sum (wa_cons (we_lc (own := [("a", 8), ("b", 9)]) rfl nd (wi_zip (by rfl) hb_zip (wa_cons (we_var 1 (pv 1)) (wa_cons (we_var 3 (pv 3)) wa_nil))) (blkOk_in (N := N_bound_by) (sc0 := ({ kind := .function, names := [(PySem.Str.ofString ".0", .local), (PySem.Str.ofString "row", .local), (PySem.Str.ofString "sum", .globalImplicit), (PySem.Str.ofString "zip", .globalImplicit), (PySem.Str.ofString "bottom", .free), (PySem.Str.ofString "line", .free)], isGenerator := false, isCoroutine := false, more := [] } : Scope)) (S := defScope st_bound_by) rfl (by decide +kernel)) (fun _ _ _ _ _ => (pg_tup rfl (pgs_cons (pg_name (i := 8) nd rfl (by first | exact Or.inl rfl | exact Or.inr rfl)) (pgs_cons (pg_name (i := 9) nd rfl (by first | exact Or.inl rfl | exact Or.inr rfl)) pgs_nil)))) (tg_tup (n := 2) (tgs_cons (tg_name 8) (tgs_cons (tg_name 9) tgs_nil))) (by decide) (fun _ _ _ _ _ => wts_nil) (fun _ _ _ _ _ => (we_bin o_mulI (we_var 8 (pv 8)) (we_var 9 (pv 9))))) wa_nil)) (we_var 2 (pv 2))) wa_nil)) (we_var 3 (pv 3)))))) wa_nil)) (pg_tup rfl (pgs_cons (pg_name (i := 4) nd rfl (by first | exact Or.inl rfl | exact Or.inr rfl)) (pgs_cons (pg_name (i := 5) nd rfl (by first | exact Or.inl rfl | exact Or.inr rfl)) pgs_nil))) (tg_tup (n := 2) (tgs_cons (tg_name 4) (tgs_cons (tg_name 5) tgs_nil))))
    (ws_cons (ws_setLc (own := [("row", 3)]) (i := 6) rfl nd rfl rfl (sw_true rfl rfl rfl (by decide +kernel)) (wi_seq (we_var 4 (pv 4))) (blkOk_by (N := N_bound_by) (sc := defScope st_bound_by) (by decide +kernel)) (fun _ _ _ _ _ => (pg_name (i := 3) nd rfl (by first | exact Or.inl rfl | exact Or.inr rfl))) (tg_name 3) (by decide) (fun _ _ _ _ _ => wts_nil) (fun _ _ _ _ _ => (we_slice (we_var 3 (pv 3)) (wo_some we_int) wo_none)))
    (ws_cons (ws_for PassesOwn.never rfl (wi_seq (we_var 5 (pv 5))) (pg_name (i := 3) nd rfl (by first | exact Or.inl rfl | exact Or.inr rfl)) (tg_name 3) (ws_cons (ws_set (i := 7) nd rfl (by first | exact Or.inl rfl | exact Or.inr rfl) (we_bin o_div (we_var 2 (pv 2)) (we_call F_divisor hr (by rfl) (wa_cons (we_ix (we_var 3 (pv 3)) we_int (fun _ _ => rfl)) (wa_cons (we_var 2 (pv 2)) wa_nil)))))
    (ws_one (ws_drop (we_app (we_var 6 (pv 6)) (we_ty f_tup (by rfl) hb_tuple PyProof.Rows.boot_tuple (wa_cons (we_lc (own := [("number", 10)]) rfl nd (wi_seq (we_slice (we_var 3 (pv 3)) (wo_some we_int) wo_none)) (blkOk_by (N := N_bound_by) (sc := defScope st_bound_by) (by decide +kernel)) (fun _ _ _ _ _ => (pg_name (i := 10) nd rfl (by first | exact Or.inl rfl | exact Or.inr rfl))) (tg_name 10) (by decide) (fun _ _ _ _ _ => wts_nil) (fun _ _ _ _ _ => (we_bin o_mulI (we_var 7 (pv 7)) (we_var 10 (pv 10))))) wa_nil)))))))
    (ws_one (ws_ret (we_var 6 (pv 6)))))))
abbrev st_parted_at : Stmt := topS 12
abbrev N_parted_at : List Str := ["rows", "at", "still", "busy", "lead", "row", "number"]
theorem sc_parted_at : FnScope N_parted_at ["rows", "at"] (defScope st_parted_at) := ⟨rfl, rfl, rfl, by decide +kernel, rfl, by decide +kernel, by decide +kernel⟩
theorem tm_parted_at {P : Program} {w : World} {K : PySem.W.Frag} {mg : Str → Option Value} {base : Heap} {f : Addr} (F_gathered : FnZ P w K mg base 2 "gathered" 1 sp_gathered) (hb_tuple : mg "tuple" = none) (cdv : Value) (A : Around) (outer : List Env) (s : Shared) (H : Hp) (E : XK) (hr : Room 2 (A.deeper (envOfC "parted_at" (defScope st_parted_at) s.heap.objs.size f cdv))) :
    WSs (cxOf CX0 P w K mg base N_parted_at "parted_at" (defScope st_parted_at) f cdv A outer s H E).nox (defBody st_parted_at) w_parted_at := by
  have nd := sc_parted_at.nd
  unfold w_parted_at
  exact (ws_cons (ws_unp (we_call F_gathered hr (by rfl) (wa_cons (we_fz (we_lc (own := [("row", 5)]) rfl nd (wi_seq (we_var 0 (pv 0))) (blkOk_by (N := N_parted_at) (sc := defScope st_parted_at) (by decide +kernel)) (fun _ _ _ _ _ => (pg_name (i := 5) nd rfl (by first | exact Or.inl rfl | exact Or.inr rfl))) (tg_name 5) (by decide) (fun _ _ _ _ _ => wts_nil) (fun _ _ _ _ _ => (we_bin o_addI (we_tup (wa_cons (we_ix (we_var 5 (pv 5)) (we_var 1 (pv 1)) (fun _ _ => rfl)) wa_nil)) (we_var 5 (pv 5)))))) wa_nil)) (pg_tup rfl (pgs_cons (pg_name (i := 2) nd rfl (by first | exact Or.inl rfl | exact Or.inr rfl)) (pgs_cons (pg_name (i := 3) nd rfl (by first | exact Or.inl rfl | exact Or.inr rfl)) pgs_nil))) (tg_tup (n := 2) (tgs_cons (tg_name 2) (tgs_cons (tg_name 3) tgs_nil))))
    (ws_cons (ws_set (i := 4) nd rfl (by first | exact Or.inl rfl | exact Or.inr rfl) (we_slice (we_ix (we_var 3 (pv 3)) we_int (fun _ _ => rfl)) (wo_some we_int) wo_none))
    (ws_cons (ws_if (wt_cmp o_lt (we_ix (we_var 4 (pv 4)) (we_var 1 (pv 1)) (fun _ _ => rfl)) we_int (nomark _)) (ws_one (ws_set (i := 4) nd rfl (by first | exact Or.inl rfl | exact Or.inr rfl) (we_ty f_tup (by rfl) hb_tuple PyProof.Rows.boot_tuple (wa_cons (we_lc (own := [("number", 6)]) rfl nd (wi_seq (we_var 4 (pv 4))) (blkOk_by (N := N_parted_at) (sc := defScope st_parted_at) (by decide +kernel)) (fun _ _ _ _ _ => (pg_name (i := 6) nd rfl (by first | exact Or.inl rfl | exact Or.inr rfl))) (tg_name 6) (by decide) (fun _ _ _ _ _ => wts_nil) (fun _ _ _ _ _ => (we_un u_neg (we_var 6 (pv 6))))) wa_nil)))) ws_nil)
    (ws_one (ws_ret (we_tup (wa_cons (we_var 4 (pv 4)) (wa_cons (we_fz (we_lc (own := [("row", 5)]) rfl nd (wi_seq (we_var 2 (pv 2))) (blkOk_by (N := N_parted_at) (sc := defScope st_parted_at) (by decide +kernel)) (fun _ _ _ _ _ => (pg_name (i := 5) nd rfl (by first | exact Or.inl rfl | exact Or.inr rfl))) (tg_name 5) (by decide) (fun _ _ _ _ _ => wts_nil) (fun _ _ _ _ _ => (we_slice (we_var 5 (pv 5)) (wo_some we_int) wo_none)))) wa_nil))))))))
abbrev st_lower : Stmt := topS 13
abbrev N_lower : List Str := ["rows", "last", "middle", "first"]
theorem sc_lower : FnScope N_lower ["rows"] (defScope st_lower) := ⟨rfl, rfl, rfl, by decide +kernel, rfl, by decide +kernel, by decide +kernel⟩
theorem tm_lower {P : Program} {w : World} {K : PySem.W.Frag} {mg : Str → Option Value} {base : Heap} {f : Addr} (F_parted_at : FnZ P w K mg base 3 "parted_at" 2 sp_parted_at) (F_row_less : FnZ P w K mg base 3 "row_less" 3 sp_row_less) (cdv : Value) (A : Around) (outer : List Env) (s : Shared) (H : Hp) (E : XK) (hr : Room 3 (A.deeper (envOfC "lower" (defScope st_lower) s.heap.objs.size f cdv))) :
    WSs (cxOf CX0 P w K mg base N_lower "lower" (defScope st_lower) f cdv A outer s H E).nox (defBody st_lower) w_lower := by
  have nd := sc_lower.nd
  unfold w_lower
  exact (ws_cons (ws_unp (we_call F_parted_at hr (by rfl) (wa_cons (we_var 0 (pv 0)) (wa_cons we_int wa_nil))) (pg_tup rfl (pgs_cons (pg_name (i := 1) nd rfl (by first | exact Or.inl rfl | exact Or.inr rfl)) (pgs_cons (pg_name (i := 0) nd rfl (by first | exact Or.inl rfl | exact Or.inr rfl)) pgs_nil))) (tg_tup (n := 2) (tgs_cons (tg_name 1) (tgs_cons (tg_name 0) tgs_nil))))
    (ws_cons (ws_unp (we_call F_parted_at hr (by rfl) (wa_cons (we_var 0 (pv 0)) (wa_cons we_int wa_nil))) (pg_tup rfl (pgs_cons (pg_name (i := 2) nd rfl (by first | exact Or.inl rfl | exact Or.inr rfl)) (pgs_cons (pg_name (i := 0) nd rfl (by first | exact Or.inl rfl | exact Or.inr rfl)) pgs_nil))) (tg_tup (n := 2) (tgs_cons (tg_name 2) (tgs_cons (tg_name 0) tgs_nil))))
    (ws_cons (ws_set (i := 3) nd rfl (by first | exact Or.inl rfl | exact Or.inr rfl) (we_ix (we_call F_parted_at hr (by rfl) (wa_cons (we_var 0 (pv 0)) (wa_cons we_int wa_nil))) we_int (fun _ _ => rfl)))
    (ws_cons (ws_set (i := 2) nd rfl (by first | exact Or.inl rfl | exact Or.inr rfl) (we_call F_row_less hr (by rfl) (wa_cons (we_var 2 (pv 2)) (wa_cons (we_var 3 (pv 3)) (wa_cons (we_bin o_div (we_ix (we_var 2 (pv 2)) we_int (fun _ _ => rfl)) (we_ix (we_var 3 (pv 3)) we_int (fun _ _ => rfl))) wa_nil)))))
    (ws_cons (ws_set (i := 1) nd rfl (by first | exact Or.inl rfl | exact Or.inr rfl) (we_call F_row_less hr (by rfl) (wa_cons (we_var 1 (pv 1)) (wa_cons (we_var 2 (pv 2)) (wa_cons (we_bin o_div (we_ix (we_var 1 (pv 1)) we_int (fun _ _ => rfl)) (we_ix (we_var 2 (pv 2)) we_int (fun _ _ => rfl))) wa_nil)))))
    (ws_one (ws_ret (we_tup (wa_cons (we_var 3 (pv 3)) (wa_cons (we_var 2 (pv 2)) (wa_cons (we_call F_row_less hr (by rfl) (wa_cons (we_var 1 (pv 1)) (wa_cons (we_var 3 (pv 3)) (wa_cons (we_bin o_div (we_ix (we_var 1 (pv 1)) we_int (fun _ _ => rfl)) (we_ix (we_var 3 (pv 3)) we_int (fun _ _ => rfl))) wa_nil)))) wa_nil)))))))))))
abbrev st_kept_rows : Stmt := topS 14
abbrev N_kept_rows : List Str := ["fours", "rows", "four", "one", "line"]
theorem sc_kept_rows : FnScope N_kept_rows ["fours"] (defScope st_kept_rows) := ⟨rfl, rfl, rfl, by decide +kernel, rfl, by decide +kernel, by decide +kernel⟩
theorem tm_kept_rows {P : Program} {w : World} {K : PySem.W.Frag} {mg : Str → Option Value} {base : Heap} {f : Addr} (F_plain : FnZ P w K mg base 4 "plain" 1 sp_plain) (F_rows_of : FnZ P w K mg base 4 "rows_of" 1 sp_rows_of) (F_lower : FnZ P w K mg base 4 "lower" 1 sp_lower) (F_bound_by : FnZ P w K mg base 4 "bound_by" 3 sp_bound_by) (F_size : FnZ P w K mg base 4 "size" 1 sp_size) (cdv : Value) (A : Around) (outer : List Env) (s : Shared) (H : Hp) (E : XK) (hr : Room 4 (A.deeper (envOfC "kept_rows" (defScope st_kept_rows) s.heap.objs.size f cdv))) :
    WSs (cxOf CX0 P w K mg base N_kept_rows "kept_rows" (defScope st_kept_rows) f cdv A outer s H E).nox (defBody st_kept_rows) w_kept_rows := by
  have nd := sc_kept_rows.nd
  unfold w_kept_rows
  exact (ws_cons (ws_set (i := 1) nd rfl (by first | exact Or.inl rfl | exact Or.inr rfl) (we_tup (wa_cons (we_tup (wa_cons we_int (wa_cons we_int (wa_cons we_int wa_nil)))) (wa_cons (we_tup (wa_cons we_int (wa_cons we_int (wa_cons we_int wa_nil)))) (wa_cons (we_tup (wa_cons we_int (wa_cons we_int (wa_cons we_int wa_nil)))) wa_nil)))))
    (ws_cons (ws_for PassesOwn.never rfl (wi_seq (we_var 0 (pv 0))) (pg_name (i := 2) nd rfl (by first | exact Or.inl rfl | exact Or.inr rfl)) (tg_name 2) (ws_cons (ws_set (i := 3) nd rfl (by first | exact Or.inl rfl | exact Or.inr rfl) (we_call F_plain hr (by rfl) (wa_cons (we_var 2 (pv 2)) wa_nil)))
    (ws_one (ws_for PassesOwn.never rfl (wi_seq (we_call F_rows_of hr (by rfl) (wa_cons (we_var 3 (pv 3)) wa_nil))) (pg_name (i := 4) nd rfl (by first | exact Or.inl rfl | exact Or.inr rfl)) (tg_name 4) (ws_one (ws_set (i := 1) nd rfl (by first | exact Or.inl rfl | exact Or.inr rfl) (we_call F_lower hr (by rfl) (wa_cons (we_fzL (we_call F_bound_by hr (by rfl) (wa_cons (we_var 1 (pv 1)) (wa_cons (we_var 4 (pv 4)) (wa_cons (we_call F_size hr (by rfl) (wa_cons (we_var 3 (pv 3)) wa_nil)) wa_nil))))) wa_nil))))))))
    (ws_one (ws_ret (we_var 1 (pv 1))))))
abbrev st_l_at : Stmt := topS 16
abbrev N_l_at : List Str := ["_law_script", "_law_k"]
theorem sc_l_at : FnScope N_l_at ["_law_script", "_law_k"] (defScope st_l_at) := ⟨rfl, rfl, rfl, by decide +kernel, rfl, by decide +kernel, by decide +kernel⟩
theorem tm_l_at {P : Program} {w : World} {K : PySem.W.Frag} {mg : Str → Option Value} {base : Heap} {f : Addr} (hb_len : mg "len" = none) (cdv : Value) (A : Around) (outer : List Env) (s : Shared) (H : Hp) (E : XK) (hr : Room 0 (A.deeper (envOfC "_law_at" (defScope st_l_at) s.heap.objs.size f cdv))) :
    WSs (cxOf CX0 P w K mg base N_l_at "_law_at" (defScope st_l_at) f cdv A outer s H E).nox (defBody st_l_at) w_l_at := by
  have nd := sc_l_at.nd
  unfold w_l_at
  exact (ws_cons (ws_if (wt_cmp o_lt (we_var 1 (pv 1)) (we_blt f_len (by rfl) hb_len PySem.boot_len (wa_cons (we_var 0 (pv 0)) wa_nil)) (nomark _)) (ws_one (ws_ret (we_ix (we_var 0 (pv 0)) (we_var 1 (pv 1)) (fun _ _ => rfl)))) ws_nil)
    (ws_one (ws_ret we_int)))
abbrev st_l_wholes : Stmt := topS 17
abbrev N_l_wholes : List Str := ["_law_found", "_law_many", "_law_one"]
theorem sc_l_wholes : FnScope N_l_wholes ["_law_found", "_law_many"] (defScope st_l_wholes) := ⟨rfl, rfl, rfl, by decide +kernel, rfl, by decide +kernel, by decide +kernel⟩
theorem tm_l_wholes {P : Program} {w : World} {K : PySem.W.Frag} {mg : Str → Option Value} {base : Heap} {f : Addr} (hb_isinstance : mg "isinstance" = none) (hb_tuple : mg "tuple" = none) (hb_len : mg "len" = none) (hb_int : mg "int" = none) (hb_bool : mg "bool" = none) (cdv : Value) (A : Around) (outer : List Env) (s : Shared) (H : Hp) (E : XK) (hr : Room 0 (A.deeper (envOfC "_law_wholes" (defScope st_l_wholes) s.heap.objs.size f cdv))) :
    WSs (cxOf CX0 P w K mg base N_l_wholes "_law_wholes" (defScope st_l_wholes) f cdv A outer s H E).nox (defBody st_l_wholes) w_l_wholes := by
  have nd := sc_l_wholes.nd
  unfold w_l_wholes
  exact (ws_cons (ws_if ((ww_or (wt_not (wt_val (we_isi (T := "tuple") (by decide) (by rfl) hb_isinstance (by rfl) hb_tuple PyProof.Rows.boot_tuple (we_var 0 (pv 0))))) (ww_or1 (wt_cmp (o_ne hr.units) (we_blt f_len (by rfl) hb_len PySem.boot_len (wa_cons (we_var 0 (pv 0)) wa_nil)) (we_var 1 (pv 1)) (nomark _))))).wt (ws_one (ws_ret we_bl)) ws_nil)
    (ws_one (ws_ret (we_cmp (o_eq hr.units) (we_blt f_len (by rfl) hb_len PySem.boot_len (wa_cons (we_lc (own := [("_law_one", 2)]) rfl nd (wi_seq (we_var 0 (pv 0))) (blkOk_by (N := N_l_wholes) (sc := defScope st_l_wholes) (by decide +kernel)) (fun _ _ _ _ _ => (pg_name (i := 2) nd rfl (by first | exact Or.inl rfl | exact Or.inr rfl))) (tg_name 2) (by decide) (fun _ _ _ _ _ => (wts_one ((ww_and (wt_val (we_isi (T := "int") (by decide) (by rfl) hb_isinstance (by rfl) hb_int PyProof.Rows.boot_int (we_var 2 (pv 2)))) (ww_and1 (wt_not (wt_val (we_isi (T := "bool") (by decide) (by rfl) hb_isinstance (by rfl) hb_bool PyProof.Rows.boot_bool (we_var 2 (pv 2)))))))).wt)) (fun _ _ _ _ _ => (we_var 2 (pv 2)))) wa_nil)) (we_var 1 (pv 1)) (nomark _)))))
abbrev st_l_mixed : Stmt := topS 18
abbrev N_l_mixed : List Str := ["_law_cell", "_law_k", "_law_number"]
theorem sc_l_mixed : FnScope N_l_mixed ["_law_cell", "_law_k"] (defScope st_l_mixed) := ⟨rfl, rfl, rfl, by decide +kernel, rfl, by decide +kernel, by decide +kernel⟩
theorem tm_l_mixed {P : Program} {w : World} {K : PySem.W.Frag} {mg : Str → Option Value} {base : Heap} {f : Addr} (cdv : Value) (A : Around) (outer : List Env) (s : Shared) (H : Hp) (E : XK) (hr : Room 0 (A.deeper (envOfC "_law_mixed" (defScope st_l_mixed) s.heap.objs.size f cdv))) :
    WSs (cxOf CX0 P w K mg base N_l_mixed "_law_mixed" (defScope st_l_mixed) f cdv A outer s H E).nox (defBody st_l_mixed) w_l_mixed := by
  have nd := sc_l_mixed.nd
  unfold w_l_mixed
  exact (ws_cons (ws_set (i := 2) nd rfl (by first | exact Or.inl rfl | exact Or.inr rfl) (we_bin o_mod (we_bin o_addI (we_bin o_addI (we_bin o_mulI (we_var 0 (pv 0)) we_int) (we_bin o_mulI (we_bin o_mulI we_int (we_var 1 (pv 1))) (we_var 1 (pv 1)))) (we_var 1 (pv 1))) we_int))
    (ws_cons (ws_set (i := 2) nd rfl (by first | exact Or.inl rfl | exact Or.inr rfl) (we_bin o_mod (we_bin o_mulI (we_var 2 (pv 2)) (we_var 2 (pv 2))) we_int))
    (ws_one (ws_ret (we_bin o_mod (we_bin o_mulI (we_var 2 (pv 2)) we_int) we_int)))))
abbrev st_l_purse : Stmt := topS 19
abbrev N_l_purse : List Str := ["_law_script", "_law_at_here", "_law_cell"]
theorem sc_l_purse : FnScope N_l_purse ["_law_script", "_law_at_here"] (defScope st_l_purse) := ⟨rfl, rfl, rfl, by decide +kernel, rfl, by decide +kernel, by decide +kernel⟩
theorem tm_l_purse {P : Program} {w : World} {K : PySem.W.Frag} {mg : Str → Option Value} {base : Heap} {f : Addr} (F_l_at : FnZ P w K mg base 1 "_law_at" 2 sp_l_at) (hb_max : mg "max" = none) (cdv : Value) (A : Around) (outer : List Env) (s : Shared) (H : Hp) (E : XK) (hr : Room 1 (A.deeper (envOfC "_law_purse" (defScope st_l_purse) s.heap.objs.size f cdv))) :
    WSs (cxOf CX0 P w K mg base N_l_purse "_law_purse" (defScope st_l_purse) f cdv A outer s H E).nox (defBody st_l_purse) w_l_purse := by
  have nd := sc_l_purse.nd
  unfold w_l_purse
  exact (ws_cons (ws_set (i := 2) nd rfl (by first | exact Or.inl rfl | exact Or.inr rfl) (we_call F_l_at hr (by rfl) (wa_cons (we_var 0 (pv 0)) (wa_cons (we_var 1 (pv 1)) wa_nil))))
    (ws_one (ws_ret (we_lst (wa_cons (we_blt (f_max2 rfl) (by rfl) hb_max PyProof.Rows.boot_max (wa_cons (we_bin o_sub (we_var 2 (pv 2)) (we_bin o_pow we_int we_int)) (wa_cons we_int wa_nil))) (wa_cons (we_var 2 (pv 2)) (wa_cons (we_bin o_mulI we_int (we_var 1 (pv 1))) wa_nil)))))))
abbrev st_l_draw : Stmt := topS 20
abbrev N_l_draw : List Str := ["_law_purse_here", "_law_out_of", "_law_drawn", "_law_number", "_law_k"]
theorem sc_l_draw : FnScope N_l_draw ["_law_purse_here", "_law_out_of"] (defScope st_l_draw) := ⟨rfl, rfl, rfl, by decide +kernel, rfl, by decide +kernel, by decide +kernel⟩
theorem tm_l_draw {P : Program} {w : World} {K : PySem.W.Frag} {mg : Str → Option Value} {base : Heap} {f : Addr} (F_l_mixed : FnZ P w K mg base 1 "_law_mixed" 2 sp_l_mixed) (hb_int : mg "int" = none) (hb_range : mg "range" = none) (cdv : Value) (A : Around) (outer : List Env) (s : Shared) (H : Hp) (E : XK) (hr : Room 1 (A.deeper (envOfC "_law_draw" (defScope st_l_draw) s.heap.objs.size f cdv))) :
    WSs (cxOf CX0 P w K mg base N_l_draw "_law_draw" (defScope st_l_draw) f cdv A outer s H E).nox (defBody st_l_draw) w_l_draw := by
  have nd := sc_l_draw.nd
  unfold w_l_draw
  exact (ws_cons (ws_if (wt_cmp o_gt (we_ix (we_var 0 (pv 0)) we_int (fun _ _ => rfl)) we_int (nomark _)) (ws_cons (ws_set (i := 2) nd rfl (by first | exact Or.inl rfl | exact Or.inr rfl) (we_bin o_mod (we_ix (we_var 0 (pv 0)) we_int (fun _ _ => rfl)) (we_var 1 (pv 1))))
    (ws_cons (ws_stI (we_var 0 (pv 0)) we_int (we_bin o_div (we_ix (we_var 0 (pv 0)) we_int (fun _ _ => rfl)) (we_var 1 (pv 1))))
    (ws_one (ws_ret (we_var 2 (pv 2)))))) ws_nil)
    (ws_cons (ws_set (i := 3) nd rfl (by first | exact Or.inl rfl | exact Or.inr rfl) we_int)
    (ws_cons (ws_for PassesOwn.never rfl (wi_rng1 (by rfl) hb_range (wa_cons (we_ix (we_lst (wa_cons we_int (wa_cons we_int wa_nil))) (we_ty f_int (by rfl) hb_int PyProof.Rows.boot_int (wa_cons (we_cmp o_gt (we_var 1 (pv 1)) (we_bin o_pow we_int we_int) (nomark _)) wa_nil)) (fun _ _ => rfl)) wa_nil)) (pg_name (i := 4) nd rfl (by first | exact Or.inl rfl | exact Or.inr rfl)) (tg_name 4) (ws_cons (ws_stI (we_var 0 (pv 0)) we_int (we_bin o_addI (we_ix (we_var 0 (pv 0)) we_int (fun _ _ => rfl)) we_int))
    (ws_one (ws_set (i := 3) nd rfl (by first | exact Or.inl rfl | exact Or.inr rfl) (we_bin o_addI (we_bin o_mulI (we_var 3 (pv 3)) we_int) (we_call F_l_mixed hr (by rfl) (wa_cons (we_ix (we_var 0 (pv 0)) we_int (fun _ _ => rfl)) (wa_cons (we_ix (we_var 0 (pv 0)) we_int (fun _ _ => rfl)) wa_nil))))))))
    (ws_one (ws_ret (we_bin o_mod (we_var 3 (pv 3)) (we_var 1 (pv 1))))))))
abbrev st_l_small : Stmt := topS 21
abbrev N_l_small : List Str := ["_law_purse_here", "_law_most"]
theorem sc_l_small : FnScope N_l_small ["_law_purse_here", "_law_most"] (defScope st_l_small) := ⟨rfl, rfl, rfl, by decide +kernel, rfl, by decide +kernel, by decide +kernel⟩
theorem tm_l_small {P : Program} {w : World} {K : PySem.W.Frag} {mg : Str → Option Value} {base : Heap} {f : Addr} (F_l_draw : FnZ P w K mg base 2 "_law_draw" 2 sp_l_draw) (cdv : Value) (A : Around) (outer : List Env) (s : Shared) (H : Hp) (E : XK) (hr : Room 2 (A.deeper (envOfC "_law_small" (defScope st_l_small) s.heap.objs.size f cdv))) :
    WSs (cxOf CX0 P w K mg base N_l_small "_law_small" (defScope st_l_small) f cdv A outer s H E).nox (defBody st_l_small) w_l_small := by
  have nd := sc_l_small.nd
  unfold w_l_small
  exact (ws_one (ws_ret (we_bin o_sub (we_call F_l_draw hr (by rfl) (wa_cons (we_var 0 (pv 0)) (wa_cons (we_bin o_addI (we_bin o_mulI we_int (we_var 1 (pv 1))) we_int) wa_nil))) (we_var 1 (pv 1)))))
abbrev st_l_four : Stmt := topS 22
abbrev N_l_four : List Str := ["_law_purse_here", "_law_most", "_law_found", "_law_k"]
theorem sc_l_four : FnScope N_l_four ["_law_purse_here", "_law_most"] (defScope st_l_four) := ⟨rfl, rfl, rfl, by decide +kernel, rfl, by decide +kernel, by decide +kernel⟩
theorem tm_l_four {P : Program} {w : World} {K : PySem.W.Frag} {mg : Str → Option Value} {base : Heap} {f : Addr} (F_l_small : FnZ P w K mg base 3 "_law_small" 2 sp_l_small) (hb_range : mg "range" = none) (hb_tuple : mg "tuple" = none) (cdv : Value) (A : Around) (outer : List Env) (s : Shared) (H : Hp) (E : XK) (hr : Room 3 (A.deeper (envOfC "_law_four" (defScope st_l_four) s.heap.objs.size f cdv))) :
    WSs (cxOf CX0 P w K mg base N_l_four "_law_four" (defScope st_l_four) f cdv A outer s H E).nox (defBody st_l_four) w_l_four := by
  have nd := sc_l_four.nd
  unfold w_l_four
  exact (ws_cons (ws_set (i := 2) nd rfl (by first | exact Or.inl rfl | exact Or.inr rfl) (we_ty f_tup (by rfl) hb_tuple PyProof.Rows.boot_tuple (wa_cons (we_lc (own := [("_law_k", 3)]) rfl nd (wi_rng1 (by rfl) hb_range (wa_cons we_int wa_nil)) (blkOk_by (N := N_l_four) (sc := defScope st_l_four) (by decide +kernel)) (fun _ _ _ _ _ => (pg_name (i := 3) nd rfl (by first | exact Or.inl rfl | exact Or.inr rfl))) (tg_name 3) (by decide) (fun _ _ _ _ _ => wts_nil) (fun _ _ _ _ _ => (we_call F_l_small hr (by rfl) (wa_cons (we_var 0 (pv 0)) (wa_cons (we_var 1 (pv 1)) wa_nil))))) wa_nil)))
    (ws_cons (ws_if (wt_cmp (o_eq hr.units) (we_var 2 (pv 2)) (we_tup (wa_cons we_int (wa_cons we_int (wa_cons we_int (wa_cons we_int wa_nil))))) (nomark _)) (ws_one (ws_ret (we_tup (wa_cons we_int (wa_cons we_int (wa_cons we_int (wa_cons we_int wa_nil))))))) ws_nil)
    (ws_one (ws_ret (we_var 2 (pv 2))))))
abbrev st_l_sum : Stmt := topS 23
abbrev N_l_sum : List Str := ["_law_one", "_law_other", "_law_a", "_law_b"]
theorem sc_l_sum : FnScope N_l_sum ["_law_one", "_law_other"] (defScope st_l_sum) := ⟨rfl, rfl, rfl, by decide +kernel, rfl, by decide +kernel, by decide +kernel⟩
theorem tm_l_sum {P : Program} {w : World} {K : PySem.W.Frag} {mg : Str → Option Value} {base : Heap} {f : Addr} (hb_zip : mg "zip" = none) (hb_sum : mg "sum" = none) (cdv : Value) (A : Around) (outer : List Env) (s : Shared) (H : Hp) (E : XK) (hr : Room 0 (A.deeper (envOfC "_law_sum" (defScope st_l_sum) s.heap.objs.size f cdv))) :
    WSs (cxOf CX0 P w K mg base N_l_sum "_law_sum" (defScope st_l_sum) f cdv A outer s H E).nox (defBody st_l_sum) w_l_sum := by
  have nd := sc_l_sum.nd
  unfold w_l_sum
  exact (ws_one (ws_ret (we_blt (f_sum rfl) (by rfl) hb_sum PyProof.Rows.boot_sum (wa_cons (we_lc (own := [("_law_a", 2), ("_law_b", 3)]) rfl nd (wi_zipX (by rfl) hb_zip (wa_cons (we_var 0 (pv 0)) (wa_cons (we_var 1 (pv 1)) wa_nil))) (blkOk_by (N := N_l_sum) (sc := defScope st_l_sum) (by decide +kernel)) (fun _ _ _ _ _ => (pg_tup rfl (pgs_cons (pg_name (i := 2) nd rfl (by first | exact Or.inl rfl | exact Or.inr rfl)) (pgs_cons (pg_name (i := 3) nd rfl (by first | exact Or.inl rfl | exact Or.inr rfl)) pgs_nil)))) (tg_tup (n := 2) (tgs_cons (tg_name 2) (tgs_cons (tg_name 3) tgs_nil))) (by decide) (fun _ _ _ _ _ => wts_nil) (fun _ _ _ _ _ => (we_bin o_mulI (we_var 2 (pv 2)) (we_var 3 (pv 3))))) wa_nil))))
abbrev st_l_rows : Stmt := topS 24
abbrev N_l_rows : List Str := ["_law_four_here", "_law_w", "_law_x", "_law_y", "_law_z", "_law_first", "_law_second"]
theorem sc_l_rows : FnScope N_l_rows ["_law_four_here"] (defScope st_l_rows) := ⟨rfl, rfl, rfl, by decide +kernel, rfl, by decide +kernel, by decide +kernel⟩
theorem tm_l_rows {P : Program} {w : World} {K : PySem.W.Frag} {mg : Str → Option Value} {base : Heap} {f : Addr} (cdv : Value) (A : Around) (outer : List Env) (s : Shared) (H : Hp) (E : XK) (hr : Room 0 (A.deeper (envOfC "_law_rows" (defScope st_l_rows) s.heap.objs.size f cdv))) :
    WSs (cxOf CX0 P w K mg base N_l_rows "_law_rows" (defScope st_l_rows) f cdv A outer s H E).nox (defBody st_l_rows) w_l_rows := by
  have nd := sc_l_rows.nd
  unfold w_l_rows
  exact (ws_cons (ws_unp (we_var 0 (pv 0)) (pg_tup rfl (pgs_cons (pg_name (i := 1) nd rfl (by first | exact Or.inl rfl | exact Or.inr rfl)) (pgs_cons (pg_name (i := 2) nd rfl (by first | exact Or.inl rfl | exact Or.inr rfl)) (pgs_cons (pg_name (i := 3) nd rfl (by first | exact Or.inl rfl | exact Or.inr rfl)) (pgs_cons (pg_name (i := 4) nd rfl (by first | exact Or.inl rfl | exact Or.inr rfl)) pgs_nil))))) (tg_tup (n := 4) (tgs_cons (tg_name 1) (tgs_cons (tg_name 2) (tgs_cons (tg_name 3) (tgs_cons (tg_name 4) tgs_nil))))))
    (ws_cons (ws_set (i := 5) nd rfl (by first | exact Or.inl rfl | exact Or.inr rfl) (we_tup (wa_cons (we_bin o_sub (we_bin o_sub (we_bin o_addI (we_bin o_mulI (we_var 1 (pv 1)) (we_var 1 (pv 1))) (we_bin o_mulI (we_var 2 (pv 2)) (we_var 2 (pv 2)))) (we_bin o_mulI (we_var 3 (pv 3)) (we_var 3 (pv 3)))) (we_bin o_mulI (we_var 4 (pv 4)) (we_var 4 (pv 4)))) (wa_cons (we_bin o_mulI we_int (we_bin o_sub (we_bin o_mulI (we_var 2 (pv 2)) (we_var 3 (pv 3))) (we_bin o_mulI (we_var 1 (pv 1)) (we_var 4 (pv 4))))) (wa_cons (we_bin o_mulI we_int (we_bin o_addI (we_bin o_mulI (we_var 2 (pv 2)) (we_var 4 (pv 4))) (we_bin o_mulI (we_var 1 (pv 1)) (we_var 3 (pv 3))))) wa_nil)))))
    (ws_cons (ws_set (i := 6) nd rfl (by first | exact Or.inl rfl | exact Or.inr rfl) (we_tup (wa_cons (we_bin o_mulI we_int (we_bin o_addI (we_bin o_mulI (we_var 2 (pv 2)) (we_var 3 (pv 3))) (we_bin o_mulI (we_var 1 (pv 1)) (we_var 4 (pv 4))))) (wa_cons (we_bin o_sub (we_bin o_addI (we_bin o_sub (we_bin o_mulI (we_var 1 (pv 1)) (we_var 1 (pv 1))) (we_bin o_mulI (we_var 2 (pv 2)) (we_var 2 (pv 2)))) (we_bin o_mulI (we_var 3 (pv 3)) (we_var 3 (pv 3)))) (we_bin o_mulI (we_var 4 (pv 4)) (we_var 4 (pv 4)))) (wa_cons (we_bin o_mulI we_int (we_bin o_sub (we_bin o_mulI (we_var 3 (pv 3)) (we_var 4 (pv 4))) (we_bin o_mulI (we_var 1 (pv 1)) (we_var 2 (pv 2))))) wa_nil)))))
    (ws_one (ws_ret (we_lst (wa_cons (we_var 5 (pv 5)) (wa_cons (we_var 6 (pv 6)) (wa_cons (we_tup (wa_cons (we_bin o_mulI we_int (we_bin o_sub (we_bin o_mulI (we_var 2 (pv 2)) (we_var 4 (pv 4))) (we_bin o_mulI (we_var 1 (pv 1)) (we_var 3 (pv 3))))) (wa_cons (we_bin o_mulI we_int (we_bin o_addI (we_bin o_mulI (we_var 3 (pv 3)) (we_var 4 (pv 4))) (we_bin o_mulI (we_var 1 (pv 1)) (we_var 2 (pv 2))))) (wa_cons (we_bin o_addI (we_bin o_sub (we_bin o_sub (we_bin o_mulI (we_var 1 (pv 1)) (we_var 1 (pv 1))) (we_bin o_mulI (we_var 2 (pv 2)) (we_var 2 (pv 2)))) (we_bin o_mulI (we_var 3 (pv 3)) (we_var 3 (pv 3)))) (we_bin o_mulI (we_var 4 (pv 4)) (we_var 4 (pv 4)))) wa_nil)))) wa_nil)))))))))
abbrev st_l_divisor : Stmt := topS 26
abbrev N_l_divisor : List Str := ["_law_numbers", "_law_found", "_law_number", "_law_one", "_law_other"]
theorem sc_l_divisor : FnScope N_l_divisor ["_law_numbers"] (defScope st_l_divisor) := ⟨rfl, rfl, rfl, by decide +kernel, rfl, by decide +kernel, by decide +kernel⟩
theorem tm_l_divisor {P : Program} {w : World} {K : PySem.W.Frag} {mg : Str → Option Value} {base : Heap} {f : Addr} (hb_abs : mg "abs" = none) (cdv : Value) (A : Around) (outer : List Env) (s : Shared) (H : Hp) (E : XK) (hr : Room 0 (A.deeper (envOfC "_law_divisor" (defScope st_l_divisor) s.heap.objs.size f cdv))) :
    WSs (cxOf CX0 P w K mg base N_l_divisor "_law_divisor" (defScope st_l_divisor) f cdv A outer s H E).nox (defBody st_l_divisor) w_l_divisor := by
  have nd := sc_l_divisor.nd
  unfold w_l_divisor
  exact (ws_cons (ws_set (i := 1) nd rfl (by first | exact Or.inl rfl | exact Or.inr rfl) we_int)
    (ws_cons (ws_for PassesOwn.never rfl (wi_seq (we_var 0 (pv 0))) (pg_name (i := 2) nd rfl (by first | exact Or.inl rfl | exact Or.inr rfl)) (tg_name 2) (ws_cons (ws_par (i := 3) (j := 4) rfl nd rfl rfl (by decide) rfl rfl (wa_cons (we_blt f_abs (by rfl) hb_abs PyProof.Rows.boot_abs (wa_cons (we_var 1 (pv 1)) wa_nil)) (wa_cons (we_blt f_abs (by rfl) hb_abs PyProof.Rows.boot_abs (wa_cons (we_var 2 (pv 2)) wa_nil)) wa_nil)) (by with_unfolding_all rfl))
    (ws_cons (ws_while PassesOwn.never (wt_cmp o_gt (we_var 4 (pv 4)) we_int (nomark _)) (ws_one (ws_par (i := 3) (j := 4) rfl nd rfl rfl (by decide) rfl rfl (wa_cons (we_var 4 (pv 4)) (wa_cons (we_bin o_mod (we_var 3 (pv 3)) (we_var 4 (pv 4))) wa_nil)) (by with_unfolding_all rfl))))
    (ws_one (ws_set (i := 1) nd rfl (by first | exact Or.inl rfl | exact Or.inr rfl) (we_var 3 (pv 3)))))))
    (ws_one (ws_ret (we_var 1 (pv 1))))))
abbrev st_l_shrunk : Stmt := topS 27
abbrev N_l_shrunk : List Str := ["_law_numbers", "_law_by", "_law_number"]
theorem sc_l_shrunk : FnScope N_l_shrunk ["_law_numbers"] (defScope st_l_shrunk) := ⟨rfl, rfl, rfl, by decide +kernel, rfl, by decide +kernel, by decide +kernel⟩
theorem tm_l_shrunk {P : Program} {w : World} {K : PySem.W.Frag} {mg : Str → Option Value} {base : Heap} {f : Addr} (F_l_divisor : FnZ P w K mg base 1 "_law_divisor" 1 sp_l_divisor) (hb_tuple : mg "tuple" = none) (cdv : Value) (A : Around) (outer : List Env) (s : Shared) (H : Hp) (E : XK) (hr : Room 1 (A.deeper (envOfC "_law_shrunk" (defScope st_l_shrunk) s.heap.objs.size f cdv))) :
    WSs (cxOf CX0 P w K mg base N_l_shrunk "_law_shrunk" (defScope st_l_shrunk) f cdv A outer s H E).nox (defBody st_l_shrunk) w_l_shrunk := by
  have nd := sc_l_shrunk.nd
  unfold w_l_shrunk
  exact (ws_cons (ws_set (i := 1) nd rfl (by first | exact Or.inl rfl | exact Or.inr rfl) (we_call F_l_divisor hr (by rfl) (wa_cons (we_var 0 (pv 0)) wa_nil)))
    (ws_one (ws_ret (we_ty f_tup (by rfl) hb_tuple PyProof.Rows.boot_tuple (wa_cons (we_lc (own := [("_law_number", 2)]) rfl nd (wi_seq (we_var 0 (pv 0))) (blkOk_by (N := N_l_shrunk) (sc := defScope st_l_shrunk) (by decide +kernel)) (fun _ _ _ _ _ => (pg_name (i := 2) nd rfl (by first | exact Or.inl rfl | exact Or.inr rfl))) (tg_name 2) (by decide) (fun _ _ _ _ _ => wts_nil) (fun _ _ _ _ _ => (we_bin o_div (we_var 2 (pv 2)) (we_var 1 (pv 1))))) wa_nil)))))
abbrev st_l_plain : Stmt := topS 28
abbrev N_l_plain : List Str := ["_law_four_here", "_law_found", "_law_number", "_law_part"]
theorem sc_l_plain : FnScope N_l_plain ["_law_four_here"] (defScope st_l_plain) := ⟨rfl, rfl, rfl, by decide +kernel, rfl, by decide +kernel, by decide +kernel⟩
theorem tm_l_plain {P : Program} {w : World} {K : PySem.W.Frag} {mg : Str → Option Value} {base : Heap} {f : Addr} (F_l_shrunk : FnZ P w K mg base 2 "_law_shrunk" 1 sp_l_shrunk) (hb_int : mg "int" = none) (hb_tuple : mg "tuple" = none) (cdv : Value) (A : Around) (outer : List Env) (s : Shared) (H : Hp) (E : XK) (hr : Room 2 (A.deeper (envOfC "_law_plain" (defScope st_l_plain) s.heap.objs.size f cdv))) :
    WSs (cxOf CX0 P w K mg base N_l_plain "_law_plain" (defScope st_l_plain) f cdv A outer s H E).nox (defBody st_l_plain) w_l_plain := by
  have nd := sc_l_plain.nd
  unfold w_l_plain
  exact (ws_cons (ws_set (i := 1) nd rfl (by first | exact Or.inl rfl | exact Or.inr rfl) (we_call F_l_shrunk hr (by rfl) (wa_cons (we_var 0 (pv 0)) wa_nil)))
    (ws_cons (ws_for PassesOwn.never rfl (wi_seq (we_var 1 (pv 1))) (pg_name (i := 2) nd rfl (by first | exact Or.inl rfl | exact Or.inr rfl)) (tg_name 2) (ws_one (ws_if (wt_cmp (o_ne hr.units) (we_var 2 (pv 2)) we_int (nomark _)) (ws_one (ws_ret (we_ty f_tup (by rfl) hb_tuple PyProof.Rows.boot_tuple (wa_cons (we_lc (own := [("_law_part", 3)]) rfl nd (wi_seq (we_var 1 (pv 1))) (blkOk_by (N := N_l_plain) (sc := defScope st_l_plain) (by decide +kernel)) (fun _ _ _ _ _ => (pg_name (i := 3) nd rfl (by first | exact Or.inl rfl | exact Or.inr rfl))) (tg_name 3) (by decide) (fun _ _ _ _ _ => wts_nil) (fun _ _ _ _ _ => (we_ix (we_lst (wa_cons (we_var 3 (pv 3)) (wa_cons (we_bin o_sub we_int (we_var 3 (pv 3))) wa_nil))) (we_ty f_int (by rfl) hb_int PyProof.Rows.boot_int (wa_cons (we_cmp o_lt (we_var 2 (pv 2)) we_int (nomark _)) wa_nil)) (fun _ _ => rfl)))) wa_nil)))) ws_nil)))
    (ws_one (ws_ret (we_var 1 (pv 1))))))
abbrev st_l_kept : Stmt := topS 29
abbrev N_l_kept : List Str := ["_law_fours", "_law_point", "_law_four_here", "_law_some", "_law_bottom", "_law_row"]
theorem sc_l_kept : FnScope N_l_kept ["_law_fours", "_law_point"] (defScope st_l_kept) := ⟨rfl, rfl, rfl, by decide +kernel, rfl, by decide +kernel, by decide +kernel⟩
theorem tm_l_kept {P : Program} {w : World} {K : PySem.W.Frag} {mg : Str → Option Value} {base : Heap} {f : Addr} (F_l_plain : FnZ P w K mg base 3 "_law_plain" 1 sp_l_plain) (F_l_sum : FnZ P w K mg base 3 "_law_sum" 2 sp_l_sum) (F_l_rows : FnZ P w K mg base 3 "_law_rows" 1 sp_l_rows) (cdv : Value) (A : Around) (outer : List Env) (s : Shared) (H : Hp) (E : XK) (hr : Room 3 (A.deeper (envOfC "_law_kept" (defScope st_l_kept) s.heap.objs.size f cdv))) :
    WSs (cxOf CX0 P w K mg base N_l_kept "_law_kept" (defScope st_l_kept) f cdv A outer s H E).nox (defBody st_l_kept) w_l_kept := by
  have nd := sc_l_kept.nd
  unfold w_l_kept
  exact (ws_cons (ws_for PassesOwn.never rfl (wi_seq (we_var 0 (pv 0))) (pg_name (i := 2) nd rfl (by first | exact Or.inl rfl | exact Or.inr rfl)) (tg_name 2) (ws_cons (ws_set (i := 3) nd rfl (by first | exact Or.inl rfl | exact Or.inr rfl) (we_call F_l_plain hr (by rfl) (wa_cons (we_var 2 (pv 2)) wa_nil)))
    (ws_cons (ws_set (i := 4) nd rfl (by first | exact Or.inl rfl | exact Or.inr rfl) (we_call F_l_sum hr (by rfl) (wa_cons (we_var 3 (pv 3)) (wa_cons (we_var 3 (pv 3)) wa_nil))))
    (ws_one (ws_for PassesOwn.never rfl (wi_seq (we_call F_l_rows hr (by rfl) (wa_cons (we_var 3 (pv 3)) wa_nil))) (pg_name (i := 5) nd rfl (by first | exact Or.inl rfl | exact Or.inr rfl)) (tg_name 5) (ws_one (ws_if (wt_cmp (o_ne hr.units) (we_bin o_mod (we_call F_l_sum hr (by rfl) (wa_cons (we_var 5 (pv 5)) (wa_cons (we_var 1 (pv 1)) wa_nil))) (we_var 4 (pv 4))) we_int (nomark _)) (ws_one (ws_ret we_bl)) ws_nil)))))))
    (ws_one (ws_ret we_bl)))
abbrev st_l_form : Stmt := topS 30
abbrev N_l_form : List Str := ["_law_rows_here", "_law_a", "_law_p", "_law_q", "_law_b", "_law_c", "_law_r", "_law_d", "_law_e", "_law_f", "_law_row"]
theorem sc_l_form : FnScope N_l_form ["_law_rows_here"] (defScope st_l_form) := ⟨rfl, rfl, rfl, by decide +kernel, rfl, by decide +kernel, by decide +kernel⟩
theorem tm_l_form {P : Program} {w : World} {K : PySem.W.Frag} {mg : Str → Option Value} {base : Heap} {f : Addr} (F_l_wholes : FnZ P w K mg base 1 "_law_wholes" 2 sp_l_wholes) (hb_isinstance : mg "isinstance" = none) (hb_tuple : mg "tuple" = none) (hb_len : mg "len" = none) (hb_min : mg "min" = none) (cdv : Value) (A : Around) (outer : List Env) (s : Shared) (H : Hp) (E : XK) (hr : Room 1 (A.deeper (envOfC "_law_form" (defScope st_l_form) s.heap.objs.size f cdv))) :
    WSs (cxOf CX0 P w K mg base N_l_form "_law_form" (defScope st_l_form) f cdv A outer s H E).nox (defBody st_l_form) w_l_form := by
  have nd := sc_l_form.nd
  unfold w_l_form
  exact (ws_cons (ws_if ((ww_or (wt_not (wt_val (we_isi (T := "tuple") (by decide) (by rfl) hb_isinstance (by rfl) hb_tuple PyProof.Rows.boot_tuple (we_var 0 (pv 0))))) (ww_or1 (wt_cmp (o_ne hr.units) (we_blt f_len (by rfl) hb_len PySem.boot_len (wa_cons (we_var 0 (pv 0)) wa_nil)) we_int (nomark _))))).wt (ws_one (ws_ret we_bl)) ws_nil)
    (ws_cons (ws_if (wt_cmp (o_ne hr.units) (we_blt f_len (by rfl) hb_len PySem.boot_len (wa_cons (we_lc (own := [("_law_row", 10)]) rfl nd (wi_seq (we_var 0 (pv 0))) (blkOk_by (N := N_l_form) (sc := defScope st_l_form) (by decide +kernel)) (fun _ _ _ _ _ => (pg_name (i := 10) nd rfl (by first | exact Or.inl rfl | exact Or.inr rfl))) (tg_name 10) (by decide) (fun _ _ _ _ _ => (wts_one (wt_val (we_call F_l_wholes hr (by rfl) (wa_cons (we_var 10 (pv 10)) (wa_cons we_int wa_nil)))))) (fun _ _ _ _ _ => (we_var 10 (pv 10)))) wa_nil)) we_int (nomark _)) (ws_one (ws_ret we_bl)) ws_nil)
    (ws_cons (ws_unp (we_var 0 (pv 0)) (pg_tup rfl (pgs_cons (pg_tup rfl (pgs_cons (pg_name (i := 1) nd rfl (by first | exact Or.inl rfl | exact Or.inr rfl)) (pgs_cons (pg_name (i := 2) nd rfl (by first | exact Or.inl rfl | exact Or.inr rfl)) (pgs_cons (pg_name (i := 3) nd rfl (by first | exact Or.inl rfl | exact Or.inr rfl)) pgs_nil)))) (pgs_cons (pg_tup rfl (pgs_cons (pg_name (i := 4) nd rfl (by first | exact Or.inl rfl | exact Or.inr rfl)) (pgs_cons (pg_name (i := 5) nd rfl (by first | exact Or.inl rfl | exact Or.inr rfl)) (pgs_cons (pg_name (i := 6) nd rfl (by first | exact Or.inl rfl | exact Or.inr rfl)) pgs_nil)))) (pgs_cons (pg_tup rfl (pgs_cons (pg_name (i := 7) nd rfl (by first | exact Or.inl rfl | exact Or.inr rfl)) (pgs_cons (pg_name (i := 8) nd rfl (by first | exact Or.inl rfl | exact Or.inr rfl)) (pgs_cons (pg_name (i := 9) nd rfl (by first | exact Or.inl rfl | exact Or.inr rfl)) pgs_nil)))) pgs_nil)))) (tg_tup (n := 3) (tgs_cons (tg_tup (n := 3) (tgs_cons (tg_name 1) (tgs_cons (tg_name 2) (tgs_cons (tg_name 3) tgs_nil)))) (tgs_cons (tg_tup (n := 3) (tgs_cons (tg_name 4) (tgs_cons (tg_name 5) (tgs_cons (tg_name 6) tgs_nil)))) (tgs_cons (tg_tup (n := 3) (tgs_cons (tg_name 7) (tgs_cons (tg_name 8) (tgs_cons (tg_name 9) tgs_nil)))) tgs_nil)))))
    (ws_cons (ws_if ((ww_or (wt_cmp (o_ne hr.units) (we_tup (wa_cons (we_var 2 (pv 2)) (wa_cons (we_var 3 (pv 3)) (wa_cons (we_var 6 (pv 6)) wa_nil)))) (we_tup (wa_cons we_int (wa_cons we_int (wa_cons we_int wa_nil)))) (nomark _)) (ww_or1 (wt_cmp o_lt (we_blt (f_min3 rfl) (by rfl) hb_min PyProof.Rows.boot_min (wa_cons (we_var 1 (pv 1)) (wa_cons (we_var 5 (pv 5)) (wa_cons (we_var 9 (pv 9)) wa_nil)))) we_int (nomark _))))).wt (ws_one (ws_ret we_bl)) ws_nil)
    (ws_one (ws_ret (we_and (we_chn o_le o_lt we_int (we_var 4 (pv 4)) (we_var 1 (pv 1))) (we_and (we_chn o_le o_lt we_int (we_var 7 (pv 7)) (we_var 1 (pv 1))) (we_one (we_chn o_le o_lt we_int (we_var 8 (pv 8)) (we_var 5 (pv 5))))))))))))
abbrev st_l_in : Stmt := topS 31
abbrev N_l_in : List Str := ["_law_rows_here", "_law_point", "_law_first", "_law_middle", "_law_last", "_law_z", "_law_y", "_law_x", "_law_k"]
theorem sc_l_in : FnScope N_l_in ["_law_rows_here", "_law_point"] (defScope st_l_in) := ⟨rfl, rfl, rfl, by decide +kernel, rfl, by decide +kernel, by decide +kernel⟩
theorem tm_l_in {P : Program} {w : World} {K : PySem.W.Frag} {mg : Str → Option Value} {base : Heap} {f : Addr} (hb_range : mg "range" = none) (hb_tuple : mg "tuple" = none) (cdv : Value) (A : Around) (outer : List Env) (s : Shared) (H : Hp) (E : XK) (hr : Room 0 (A.deeper (envOfC "_law_in" (defScope st_l_in) s.heap.objs.size f cdv))) :
    WSs (cxOf CX0 P w K mg base N_l_in "_law_in" (defScope st_l_in) f cdv A outer s H E).nox (defBody st_l_in) w_l_in := by
  have nd := sc_l_in.nd
  unfold w_l_in
  exact (ws_cons (ws_unp (we_var 0 (pv 0)) (pg_tup rfl (pgs_cons (pg_name (i := 2) nd rfl (by first | exact Or.inl rfl | exact Or.inr rfl)) (pgs_cons (pg_name (i := 3) nd rfl (by first | exact Or.inl rfl | exact Or.inr rfl)) (pgs_cons (pg_name (i := 4) nd rfl (by first | exact Or.inl rfl | exact Or.inr rfl)) pgs_nil)))) (tg_tup (n := 3) (tgs_cons (tg_name 2) (tgs_cons (tg_name 3) (tgs_cons (tg_name 4) tgs_nil)))))
    (ws_cons (ws_set (i := 5) nd rfl (by first | exact Or.inl rfl | exact Or.inr rfl) (we_bin o_div (we_ix (we_var 1 (pv 1)) we_int (fun _ _ => rfl)) (we_ix (we_var 4 (pv 4)) we_int (fun _ _ => rfl))))
    (ws_cons (ws_set (i := 6) nd rfl (by first | exact Or.inl rfl | exact Or.inr rfl) (we_bin o_div (we_bin o_sub (we_ix (we_var 1 (pv 1)) we_int (fun _ _ => rfl)) (we_bin o_mulI (we_var 5 (pv 5)) (we_ix (we_var 4 (pv 4)) we_int (fun _ _ => rfl)))) (we_ix (we_var 3 (pv 3)) we_int (fun _ _ => rfl))))
    (ws_cons (ws_set (i := 7) nd rfl (by first | exact Or.inl rfl | exact Or.inr rfl) (we_bin o_div (we_bin o_sub (we_bin o_sub (we_ix (we_var 1 (pv 1)) we_int (fun _ _ => rfl)) (we_bin o_mulI (we_var 5 (pv 5)) (we_ix (we_var 4 (pv 4)) we_int (fun _ _ => rfl)))) (we_bin o_mulI (we_var 6 (pv 6)) (we_ix (we_var 3 (pv 3)) we_int (fun _ _ => rfl)))) (we_ix (we_var 2 (pv 2)) we_int (fun _ _ => rfl))))
    (ws_one (ws_ret (we_cmp (o_eq hr.units) (we_ty f_tup (by rfl) hb_tuple PyProof.Rows.boot_tuple (wa_cons (we_lc (own := [("_law_k", 8)]) rfl nd (wi_rng1 (by rfl) hb_range (wa_cons we_int wa_nil)) (blkOk_by (N := N_l_in) (sc := defScope st_l_in) (by decide +kernel)) (fun _ _ _ _ _ => (pg_name (i := 8) nd rfl (by first | exact Or.inl rfl | exact Or.inr rfl))) (tg_name 8) (by decide) (fun _ _ _ _ _ => wts_nil) (fun _ _ _ _ _ => (we_bin o_addI (we_bin o_addI (we_bin o_mulI (we_var 7 (pv 7)) (we_ix (we_var 2 (pv 2)) (we_var 8 (pv 8)) (fun _ _ => rfl))) (we_bin o_mulI (we_var 6 (pv 6)) (we_ix (we_var 3 (pv 3)) (we_var 8 (pv 8)) (fun _ _ => rfl)))) (we_bin o_mulI (we_var 5 (pv 5)) (we_ix (we_var 4 (pv 4)) (we_var 8 (pv 8)) (fun _ _ => rfl)))))) wa_nil)) (we_ty f_tup (by rfl) hb_tuple PyProof.Rows.boot_tuple (wa_cons (we_var 1 (pv 1)) wa_nil)) (nomark _))))))))
abbrev st_l_points : Stmt := topS 32
abbrev N_l_points : List Str := ["_law_purse_here", "_law_rows_here", "_law_found", "_law_k", "_law_most", "_law_often", "_law_at_here", "_law_point", "_law_turn", "_law_j"]
theorem sc_l_points : FnScope N_l_points ["_law_purse_here", "_law_rows_here"] (defScope st_l_points) := ⟨rfl, rfl, rfl, by decide +kernel, rfl, by decide +kernel, by decide +kernel⟩
theorem tm_l_points {P : Program} {w : World} {K : PySem.W.Frag} {mg : Str → Option Value} {base : Heap} {f : Addr} (F_l_draw : FnZ P w K mg base 3 "_law_draw" 2 sp_l_draw) (F_l_small : FnZ P w K mg base 3 "_law_small" 2 sp_l_small) (hb_range : mg "range" = none) (hb_sum : mg "sum" = none) (cdv : Value) (A : Around) (outer : List Env) (s : Shared) (H : Hp) (E : XK) (hr : Room 3 (A.deeper (envOfC "_law_points" (defScope st_l_points) s.heap.objs.size f cdv))) :
    WSs (cxOf CX0 P w K mg base N_l_points "_law_points" (defScope st_l_points) f cdv A outer s H E).nox (defBody st_l_points) w_l_points := by
  have nd := sc_l_points.nd
  unfold w_l_points
  exact (ws_cons (ws_set (i := 2) nd rfl (by first | exact Or.inl rfl | exact Or.inr rfl) (we_lst wa_nil))
    (ws_cons (ws_for PassesOwn.never rfl (wi_rng1 (by rfl) hb_range (wa_cons we_int wa_nil)) (pg_name (i := 3) nd rfl (by first | exact Or.inl rfl | exact Or.inr rfl)) (tg_name 3) (ws_cons (ws_set (i := 4) nd rfl (by first | exact Or.inl rfl | exact Or.inr rfl) (we_ix (we_lst (wa_cons we_int (wa_cons (we_bin o_pow we_int we_int) wa_nil))) (we_call F_l_draw hr (by rfl) (wa_cons (we_var 0 (pv 0)) (wa_cons we_int wa_nil))) (fun _ _ => rfl)))
    (ws_cons (ws_set (i := 5) nd rfl (by first | exact Or.inl rfl | exact Or.inr rfl) (we_lc (own := [("_law_turn", 8)]) rfl nd (wi_rng1 (by rfl) hb_range (wa_cons we_int wa_nil)) (blkOk_by (N := N_l_points) (sc := defScope st_l_points) (by decide +kernel)) (fun _ _ _ _ _ => (pg_name (i := 8) nd rfl (by first | exact Or.inl rfl | exact Or.inr rfl))) (tg_name 8) (by decide) (fun _ _ _ _ _ => wts_nil) (fun _ _ _ _ _ => (we_call F_l_small hr (by rfl) (wa_cons (we_var 0 (pv 0)) (wa_cons (we_var 4 (pv 4)) wa_nil))))))
    (ws_app (l1 := [_, _, _]) (l2 := [_]) (ws_fzB (ws_cons (ws_setLc (own := [("_law_at_here", 6)]) (i := 7) rfl nd rfl rfl (sw_true rfl rfl rfl (by decide +kernel)) (wi_rng1 (by rfl) hb_range (wa_cons we_int wa_nil)) (blkOk_by (N := N_l_points) (sc := defScope st_l_points) (by decide +kernel)) (fun _ _ _ _ _ => (pg_name (i := 6) nd rfl (by first | exact Or.inl rfl | exact Or.inr rfl))) (tg_name 6) (by decide) (fun _ _ _ _ _ => wts_nil) (fun _ _ _ _ _ => (we_blt (f_sum rfl) (by rfl) hb_sum PyProof.Rows.boot_sum (wa_cons (we_lc (own := [("_law_j", 9)]) rfl nd (wi_rng1 (by rfl) hb_range (wa_cons we_int wa_nil)) (blkOk_in (N := N_l_points) (sc0 := ({ kind := .function, names := [(PySem.Str.ofString ".0", .local), (PySem.Str.ofString "_law_at_here", .cell), (PySem.Str.ofString "sum", .globalImplicit), (PySem.Str.ofString "range", .globalImplicit), (PySem.Str.ofString "_law_often", .free), (PySem.Str.ofString "_law_rows_here", .free)], isGenerator := false, isCoroutine := false, more := [] } : Scope)) (S := defScope st_l_points) rfl (by decide +kernel)) (fun _ _ _ _ _ => (pg_name (i := 9) nd rfl (by first | exact Or.inl rfl | exact Or.inr rfl))) (tg_name 9) (by decide) (fun _ _ _ _ _ => wts_nil) (fun _ _ _ _ _ => (we_bin o_mulI (we_ix (we_var 5 (pv 5)) (we_var 9 (pv 9)) (fun _ _ => rfl)) (we_ix (we_ix (we_var 1 (pv 1)) (we_var 9 (pv 9)) (fun _ _ => rfl)) (we_var 6 (pv 6)) (fun _ _ => rfl))))) wa_nil))))
    (ws_cons (ws_if (wt_cmp (o_eq hr.units) (we_bin o_mod (we_var 3 (pv 3)) we_int) we_int (nomark _)) (ws_cons (ws_set (i := 6) nd rfl (by first | exact Or.inl rfl | exact Or.inr rfl) (we_call F_l_draw hr (by rfl) (wa_cons (we_var 0 (pv 0)) (wa_cons we_int wa_nil))))
    (ws_one (ws_stI (we_var 7 (pv 7)) (we_var 6 (pv 6)) (we_bin o_addI (we_ix (we_var 7 (pv 7)) (we_var 6 (pv 6)) (fun _ _ => rfl)) we_int)))) ws_nil)
    (ws_one (ws_if (wt_cmp (o_eq hr.units) (we_bin o_mod (we_var 3 (pv 3)) we_int) we_int (nomark _)) (ws_cons (ws_set (i := 4) nd rfl (by first | exact Or.inl rfl | exact Or.inr rfl) (we_ix (we_lst (wa_cons we_int (wa_cons (we_bin o_pow we_int we_int) wa_nil))) (we_call F_l_draw hr (by rfl) (wa_cons (we_var 0 (pv 0)) (wa_cons we_int wa_nil))) (fun _ _ => rfl)))
    (ws_one (ws_setLc (own := [("_law_turn", 8)]) (i := 7) rfl nd rfl rfl (sw_true rfl rfl rfl (by decide +kernel)) (wi_rng1 (by rfl) hb_range (wa_cons we_int wa_nil)) (blkOk_by (N := N_l_points) (sc := defScope st_l_points) (by decide +kernel)) (fun _ _ _ _ _ => (pg_name (i := 8) nd rfl (by first | exact Or.inl rfl | exact Or.inr rfl))) (tg_name 8) (by decide) (fun _ _ _ _ _ => wts_nil) (fun _ _ _ _ _ => (we_call F_l_small hr (by rfl) (wa_cons (we_var 0 (pv 0)) (wa_cons (we_var 4 (pv 4)) wa_nil))))))) ws_nil))))) (ws_one (ws_drop (we_app (we_var 2 (pv 2)) (we_var 7 (pv 7)))))))))
    (ws_one (ws_ret (we_var 2 (pv 2))))))
abbrev st_law : Stmt := topS 33
abbrev N_law : List Str := ["_law_script", "_law_k", "_law_purse_here", "_law_fours", "_law_turn", "_law_handed", "_law_rows_here", "_law_alone", "_law_some", "_law_point", "_law_due", "_law_row", "_law_four_here", "_law_one"]
theorem sc_law : FnScope N_law ["_law_script"] (defScope st_law) := ⟨rfl, rfl, rfl, by decide +kernel, rfl, by decide +kernel, by decide +kernel⟩
theorem tm_law {P : Program} {w : World} {K : PySem.W.Frag} {mg : Str → Option Value} {base : Heap} {f : Addr} (F_l_purse : FnZ P w K mg base 5 "_law_purse" 2 sp_l_purse) (F_l_draw : FnZ P w K mg base 5 "_law_draw" 2 sp_l_draw) (F_l_four : FnZ P w K mg base 5 "_law_four" 2 sp_l_four) (F_kept_rows : FnZ P w K mg base 5 "kept_rows" 1 sp_kept_rows) (F_l_form : FnZ P w K mg base 5 "_law_form" 1 sp_l_form) (F_l_kept : FnZ P w K mg base 5 "_law_kept" 2 sp_l_kept) (F_l_points : FnZ P w K mg base 5 "_law_points" 2 sp_l_points) (F_l_in : FnZ P w K mg base 5 "_law_in" 2 sp_l_in) (hb_range : mg "range" = none) (hb_list : mg "list" = none) (hb_len : mg "len" = none) (cdv : Value) (A : Around) (outer : List Env) (s : Shared) (H : Hp) (E : XK) (hr : Room 5 (A.deeper (envOfC "law" (defScope st_law) s.heap.objs.size f cdv))) :
    WSs (cxOf CX0 P w K mg base N_law "law" (defScope st_law) f cdv A outer s H E).nox (defBody st_law) w_law := by
  have nd := sc_law.nd
  unfold w_law
  exact (ws_cons (ws_for PassesOwn.never rfl (wi_rng1 (by rfl) hb_range (wa_cons we_int wa_nil)) (pg_name (i := 1) nd rfl (by first | exact Or.inl rfl | exact Or.inr rfl)) (tg_name 1) (ws_cons (ws_set (i := 2) nd rfl (by first | exact Or.inl rfl | exact Or.inr rfl) (we_call F_l_purse hr (by rfl) (wa_cons (we_var 0 (pv 0)) (wa_cons (we_var 1 (pv 1)) wa_nil))))
    (ws_cons (ws_set (i := 3) nd rfl (by first | exact Or.inl rfl | exact Or.inr rfl) (we_lst wa_nil))
    (ws_cons (ws_for PassesOwn.never rfl (wi_rng1 (by rfl) hb_range (wa_cons (we_bin o_addI we_int (we_call F_l_draw hr (by rfl) (wa_cons (we_var 2 (pv 2)) (wa_cons we_int wa_nil)))) wa_nil)) (pg_name (i := 4) nd rfl (by first | exact Or.inl rfl | exact Or.inr rfl)) (tg_name 4) (ws_one (ws_drop (we_app (we_var 3 (pv 3)) (we_call F_l_four hr (by rfl) (wa_cons (we_var 2 (pv 2)) (wa_cons (we_ix (we_lst (wa_cons we_int (wa_cons we_int (wa_cons (we_bin o_pow we_int we_int) wa_nil)))) (we_call F_l_draw hr (by rfl) (wa_cons (we_var 2 (pv 2)) (wa_cons we_int wa_nil))) (fun _ _ => rfl)) wa_nil)))))))
    (ws_cons (ws_set (i := 5) nd rfl (by first | exact Or.inl rfl | exact Or.inr rfl) (we_ty f_list (by rfl) hb_list PyProof.Rows.boot_list (wa_cons (we_var 3 (pv 3)) wa_nil)))
    (ws_cons (ws_set (i := 6) nd rfl (by first | exact Or.inl rfl | exact Or.inr rfl) (we_call F_kept_rows hr (by rfl) (wa_cons (we_var 5 (pv 5)) wa_nil)))
    (ws_cons (ws_if ((ww_or (wt_not (wt_val (we_call F_l_form hr (by rfl) (wa_cons (we_var 6 (pv 6)) wa_nil)))) (ww_or (wt_cmp (o_ne hr.units) (we_var 5 (pv 5)) (we_var 3 (pv 3)) (nomark _)) (ww_or1 (wt_cmp (o_ne hr.units) (we_call F_kept_rows hr (by rfl) (wa_cons (we_rvL (we_var 3 (pv 3))) wa_nil)) (we_var 6 (pv 6)) (nomark _)))))).wt (ws_one (ws_ret we_bl)) ws_nil)
    (ws_cons (ws_if (wt_cmp (o_ne hr.units) (we_blt f_len (by rfl) hb_len PySem.boot_len (wa_cons (we_lc (own := [("_law_row", 11)]) rfl nd (wi_seq (we_var 6 (pv 6))) (blkOk_by (N := N_law) (sc := defScope st_law) (by decide +kernel)) (fun _ _ _ _ _ => (pg_name (i := 11) nd rfl (by first | exact Or.inl rfl | exact Or.inr rfl))) (tg_name 11) (by decide) (fun _ _ _ _ _ => (wts_one (wt_val (we_call F_l_kept hr (by rfl) (wa_cons (we_var 3 (pv 3)) (wa_cons (we_var 11 (pv 11)) wa_nil)))))) (fun _ _ _ _ _ => (we_var 11 (pv 11)))) wa_nil)) we_int (nomark _)) (ws_one (ws_ret we_bl)) ws_nil)
    (ws_cons (ws_setLc (own := [("_law_four_here", 12)]) (i := 7) rfl nd rfl rfl (sw_true rfl rfl rfl (by decide +kernel)) (wi_seq (we_var 3 (pv 3))) (blkOk_by (N := N_law) (sc := defScope st_law) (by decide +kernel)) (fun _ _ _ _ _ => (pg_name (i := 12) nd rfl (by first | exact Or.inl rfl | exact Or.inr rfl))) (tg_name 12) (by decide) (fun _ _ _ _ _ => wts_nil) (fun _ _ _ _ _ => (we_call F_kept_rows hr (by rfl) (wa_cons (we_lst (wa_cons (we_var 12 (pv 12)) wa_nil)) wa_nil))))
    (ws_cons (ws_if (wt_cmp o_gt (we_blt f_len (by rfl) hb_len PySem.boot_len (wa_cons (we_lc (own := [("_law_one", 13)]) rfl nd (wi_seq (we_var 7 (pv 7))) (blkOk_by (N := N_law) (sc := defScope st_law) (by decide +kernel)) (fun _ _ _ _ _ => (pg_name (i := 13) nd rfl (by first | exact Or.inl rfl | exact Or.inr rfl))) (tg_name 13) (by decide) (fun _ _ _ _ _ => (wts_one (wt_not (wt_val (we_call F_l_form hr (by rfl) (wa_cons (we_var 13 (pv 13)) wa_nil)))))) (fun _ _ _ _ _ => (we_var 13 (pv 13)))) wa_nil)) we_int (nomark _)) (ws_one (ws_ret we_bl)) ws_nil)
    (ws_one (ws_for PassesOwn.never rfl (wi_seq (we_bin o_cat (we_lst (wa_cons (we_var 6 (pv 6)) wa_nil)) (we_var 7 (pv 7)))) (pg_name (i := 8) nd rfl (by first | exact Or.inl rfl | exact Or.inr rfl)) (tg_name 8) (ws_one (ws_for PassesOwn.never rfl (wi_seq (we_call F_l_points hr (by rfl) (wa_cons (we_var 2 (pv 2)) (wa_cons (we_var 8 (pv 8)) wa_nil)))) (pg_name (i := 9) nd rfl (by first | exact Or.inl rfl | exact Or.inr rfl)) (tg_name 9) (ws_cons (ws_set (i := 10) nd rfl (by first | exact Or.inl rfl | exact Or.inr rfl) (we_cmp (o_eq hr.units) (we_blt f_len (by rfl) hb_len PySem.boot_len (wa_cons (we_lc (own := [("_law_one", 13)]) rfl nd (wi_seq (we_var 7 (pv 7))) (blkOk_by (N := N_law) (sc := defScope st_law) (by decide +kernel)) (fun _ _ _ _ _ => (pg_name (i := 13) nd rfl (by first | exact Or.inl rfl | exact Or.inr rfl))) (tg_name 13) (by decide) (fun _ _ _ _ _ => (wts_one (wt_not (wt_val (we_call F_l_in hr (by rfl) (wa_cons (we_var 13 (pv 13)) (wa_cons (we_var 9 (pv 9)) wa_nil))))))) (fun _ _ _ _ _ => (we_var 13 (pv 13)))) wa_nil)) we_int (nomark _)))
    (ws_one (ws_if (wt_cmp (o_ne hr.units) (we_call F_l_in hr (by rfl) (wa_cons (we_var 6 (pv 6)) (wa_cons (we_var 9 (pv 9)) wa_nil))) (we_var 10 (pv 10)) (nomark _)) (ws_one (ws_ret we_bl)) ws_nil)))))))))))))))))
    (ws_one (ws_ret we_bl)))
theorem all_mk {l : PySem.W.OpenLaw} {w : World} {K : PySem.W.Frag} {h : Heap} {mg : Str → Option Value} {fa : Addr} (X : K.In h) (G : h.Ns mainGlobals mg) (hfa : mg "law" = some (.ref fa))
    {fL : Addr} {odL anL : Option Addr} {slL : Array (Option Value)} {ocL kVL dcL pmL cdL ctL : Value}
    (aL : PySem.W.nsIn K mainGlobals "law" = some (some (.ref fL))) (lL : K.lookup fL = some ⟨ocL, odL, .func (PySem.W.fnOf "law" "law" (defArgs st_law) (defBody st_law) (defScope st_law) .none kVL dcL pmL anL cdL ctL), slL⟩) (cL0 : PySem.W.codeIn K cdL "law" = true) (kL : PySem.W.keepIn K (.ref fL) = true)
    (d_divisor : DefAt K mg "divisor" st_divisor ["one", "other"])
    (d_divisor_of : DefAt K mg "divisor_of" st_divisor_of ["numbers"])
    (d_plain_row : DefAt K mg "plain_row" st_plain_row ["numbers"])
    (d_plain : DefAt K mg "plain" st_plain ["four"])
    (d_size : DefAt K mg "size" st_size ["four"])
    (d_rows_of : DefAt K mg "rows_of" st_rows_of ["four"])
    (d_row_less : DefAt K mg "row_less" st_row_less ["row", "other", "many"])
    {cL TL : Addr} (hem : h.get? TL = some (PySem.W.tabObj #[])) (hnt : K.lookup TL = none) (d_gathered : DefL K mg "gathered" st_gathered ["rows"] cL TL)
    (d_bound_by : DefAt K mg "bound_by" st_bound_by ["rows", "line", "bottom"])
    (d_parted_at : DefAt K mg "parted_at" st_parted_at ["rows", "at"])
    (d_lower : DefAt K mg "lower" st_lower ["rows"])
    (d_kept_rows : DefAt K mg "kept_rows" st_kept_rows ["fours"])
    (d_l_at : DefAt K mg "_law_at" st_l_at ["_law_script", "_law_k"])
    (d_l_wholes : DefAt K mg "_law_wholes" st_l_wholes ["_law_found", "_law_many"])
    (d_l_mixed : DefAt K mg "_law_mixed" st_l_mixed ["_law_cell", "_law_k"])
    (d_l_purse : DefAt K mg "_law_purse" st_l_purse ["_law_script", "_law_at_here"])
    (d_l_draw : DefAt K mg "_law_draw" st_l_draw ["_law_purse_here", "_law_out_of"])
    (d_l_small : DefAt K mg "_law_small" st_l_small ["_law_purse_here", "_law_most"])
    (d_l_four : DefAt K mg "_law_four" st_l_four ["_law_purse_here", "_law_most"])
    (d_l_sum : DefAt K mg "_law_sum" st_l_sum ["_law_one", "_law_other"])
    (d_l_rows : DefAt K mg "_law_rows" st_l_rows ["_law_four_here"])
    (d_l_divisor : DefAt K mg "_law_divisor" st_l_divisor ["_law_numbers"])
    (d_l_shrunk : DefAt K mg "_law_shrunk" st_l_shrunk ["_law_numbers"])
    (d_l_plain : DefAt K mg "_law_plain" st_l_plain ["_law_four_here"])
    (d_l_kept : DefAt K mg "_law_kept" st_l_kept ["_law_fours", "_law_point"])
    (d_l_form : DefAt K mg "_law_form" st_l_form ["_law_rows_here"])
    (d_l_in : DefAt K mg "_law_in" st_l_in ["_law_rows_here", "_law_point"])
    (d_l_points : DefAt K mg "_law_points" st_l_points ["_law_purse_here", "_law_rows_here"])
    (hb_abs : mg "abs" = none)
    (hb_bool : mg "bool" = none)
    (hb_int : mg "int" = none)
    (hb_isinstance : mg "isinstance" = none)
    (hb_len : mg "len" = none)
    (hb_list : mg "list" = none)
    (hb_max : mg "max" = none)
    (hb_min : mg "min" = none)
    (hb_range : mg "range" = none)
    (hb_sorted : mg "sorted" = none)
    (hb_sum : mg "sum" = none)
    (hb_tuple : mg "tuple" = none)
    (hb_zip : mg "zip" = none)
    : ∃ (c T : Addr) (fd : FuncData), h.get? T = some (PySem.W.tabObj #[]) ∧ K.lookup T = none ∧ PySem.W.codeHdIn K c T = true ∧ (∀ T2, LamTab K T2 → T2 = T) ∧ (∀ (s : Shared) (v : Value), BindsTo s fd ⟨[v], []⟩ [("_law_script", v)]) ∧ ∀ base : Heap, K.In base → base.Ns mainGlobals mg → LamX.TabB base mg c T → FnOk l.prog w K mg base CX0 6 fa fd ["_law_script"] (liftSp K 1 sp_law) := by
  have e := hfa.symm.trans (PySem.W.mg_of X G aL)
  cases e
  have FL := fun_mk (st := st_law) lL cL0 kL
  refine ⟨cL, TL, PySem.W.fnOf "law" "law" (defArgs st_law) (defBody st_law) (defScope st_law) .none kVL dcL pmL anL cdL ctL, hem, hnt, d_gathered.hd, d_gathered.uniq, fun s v => .of_eq rfl, fun base _ _ tbL => ?_⟩
  have F_divisor : FnZ l.prog w K mg base 1 "divisor" 2 sp_divisor := d_divisor.fn sc_divisor (fun f => tm_divisor (f := f) hb_abs) rd_divisor
  have F_size : FnZ l.prog w K mg base 1 "size" 1 sp_size := d_size.fn sc_size (fun f => tm_size (f := f) hb_sum) rd_size
  have F_rows_of : FnZ l.prog w K mg base 1 "rows_of" 1 sp_rows_of := d_rows_of.fn sc_rows_of (fun f => tm_rows_of (f := f)) rd_rows_of
  have F_row_less : FnZ l.prog w K mg base 1 "row_less" 3 sp_row_less := d_row_less.fn sc_row_less (fun f => tm_row_less (f := f) hb_zip hb_tuple) rd_row_less
  have F_l_at : FnZ l.prog w K mg base 1 "_law_at" 2 sp_l_at := d_l_at.fn sc_l_at (fun f => tm_l_at (f := f) hb_len) rd_l_at
  have F_l_wholes : FnZ l.prog w K mg base 1 "_law_wholes" 2 sp_l_wholes := d_l_wholes.fn sc_l_wholes (fun f => tm_l_wholes (f := f) hb_isinstance hb_tuple hb_len hb_int hb_bool) rd_l_wholes
  have F_l_mixed : FnZ l.prog w K mg base 1 "_law_mixed" 2 sp_l_mixed := d_l_mixed.fn sc_l_mixed (fun f => tm_l_mixed (f := f)) rd_l_mixed
  have F_l_sum : FnZ l.prog w K mg base 1 "_law_sum" 2 sp_l_sum := d_l_sum.fn sc_l_sum (fun f => tm_l_sum (f := f) hb_zip hb_sum) rd_l_sum
  have F_l_rows : FnZ l.prog w K mg base 1 "_law_rows" 1 sp_l_rows := d_l_rows.fn sc_l_rows (fun f => tm_l_rows (f := f)) rd_l_rows
  have F_l_divisor : FnZ l.prog w K mg base 1 "_law_divisor" 1 sp_l_divisor := d_l_divisor.fn sc_l_divisor (fun f => tm_l_divisor (f := f) hb_abs) rd_l_divisor
  have F_l_in : FnZ l.prog w K mg base 1 "_law_in" 2 sp_l_in := d_l_in.fn sc_l_in (fun f => tm_l_in (f := f) hb_range hb_tuple) rd_l_in
  have F_divisor_of : FnZ l.prog w K mg base 2 "divisor_of" 1 sp_divisor_of := d_divisor_of.fn sc_divisor_of (fun f => tm_divisor_of (f := f) (F_divisor.mono (by decide))) rd_divisor_of
  have F_gathered : FnZ l.prog w K mg base 2 "gathered" 1 sp_gathered := d_gathered.fn sc_gathered (fun f => tm_gathered (f := f) tbL d_gathered.lam (F_row_less.mono (by decide)) hb_len hb_sorted hb_abs) rd_gathered
  have F_l_purse : FnZ l.prog w K mg base 2 "_law_purse" 2 sp_l_purse := d_l_purse.fn sc_l_purse (fun f => tm_l_purse (f := f) (F_l_at.mono (by decide)) hb_max) rd_l_purse
  have F_l_draw : FnZ l.prog w K mg base 2 "_law_draw" 2 sp_l_draw := d_l_draw.fn sc_l_draw (fun f => tm_l_draw (f := f) (F_l_mixed.mono (by decide)) hb_int hb_range) rd_l_draw
  have F_l_shrunk : FnZ l.prog w K mg base 2 "_law_shrunk" 1 sp_l_shrunk := d_l_shrunk.fn sc_l_shrunk (fun f => tm_l_shrunk (f := f) (F_l_divisor.mono (by decide)) hb_tuple) rd_l_shrunk
  have F_l_form : FnZ l.prog w K mg base 2 "_law_form" 1 sp_l_form := d_l_form.fn sc_l_form (fun f => tm_l_form (f := f) (F_l_wholes.mono (by decide)) hb_isinstance hb_tuple hb_len hb_min) rd_l_form
  have F_plain_row : FnZ l.prog w K mg base 3 "plain_row" 1 sp_plain_row := d_plain_row.fn sc_plain_row (fun f => tm_plain_row (f := f) (F_divisor_of.mono (by decide)) hb_tuple) rd_plain_row
  have F_bound_by : FnZ l.prog w K mg base 3 "bound_by" 3 sp_bound_by := d_bound_by.fn sc_bound_by (fun f => tm_bound_by (f := f) (F_gathered.mono (by decide)) (F_divisor.mono (by decide)) hb_zip hb_sum hb_tuple) rd_bound_by
  have F_parted_at : FnZ l.prog w K mg base 3 "parted_at" 2 sp_parted_at := d_parted_at.fn sc_parted_at (fun f => tm_parted_at (f := f) (F_gathered.mono (by decide)) hb_tuple) rd_parted_at
  have F_l_small : FnZ l.prog w K mg base 3 "_law_small" 2 sp_l_small := d_l_small.fn sc_l_small (fun f => tm_l_small (f := f) (F_l_draw.mono (by decide))) rd_l_small
  have F_l_plain : FnZ l.prog w K mg base 3 "_law_plain" 1 sp_l_plain := d_l_plain.fn sc_l_plain (fun f => tm_l_plain (f := f) (F_l_shrunk.mono (by decide)) hb_int hb_tuple) rd_l_plain
  have F_plain : FnZ l.prog w K mg base 4 "plain" 1 sp_plain := d_plain.fn sc_plain (fun f => tm_plain (f := f) (F_plain_row.mono (by decide)) hb_tuple) rd_plain
  have F_lower : FnZ l.prog w K mg base 4 "lower" 1 sp_lower := d_lower.fn sc_lower (fun f => tm_lower (f := f) (F_parted_at.mono (by decide)) (F_row_less.mono (by decide))) rd_lower
  have F_l_four : FnZ l.prog w K mg base 4 "_law_four" 2 sp_l_four := d_l_four.fn sc_l_four (fun f => tm_l_four (f := f) (F_l_small.mono (by decide)) hb_range hb_tuple) rd_l_four
  have F_l_kept : FnZ l.prog w K mg base 4 "_law_kept" 2 sp_l_kept := d_l_kept.fn sc_l_kept (fun f => tm_l_kept (f := f) (F_l_plain.mono (by decide)) (F_l_sum.mono (by decide)) (F_l_rows.mono (by decide))) rd_l_kept
  have F_l_points : FnZ l.prog w K mg base 4 "_law_points" 2 sp_l_points := d_l_points.fn sc_l_points (fun f => tm_l_points (f := f) (F_l_draw.mono (by decide)) (F_l_small.mono (by decide)) hb_range hb_sum) rd_l_points
  have F_kept_rows : FnZ l.prog w K mg base 5 "kept_rows" 1 sp_kept_rows := d_kept_rows.fn sc_kept_rows (fun f => tm_kept_rows (f := f) (F_plain.mono (by decide)) (F_rows_of.mono (by decide)) (F_lower.mono (by decide)) (F_bound_by.mono (by decide)) (F_size.mono (by decide))) rd_kept_rows
  exact fn_ok FL sc_law (tm_law (F_l_purse.mono (by decide)) (F_l_draw.mono (by decide)) (F_l_four.mono (by decide)) (F_kept_rows.mono (by decide)) (F_l_form.mono (by decide)) (F_l_kept.mono (by decide)) (F_l_points.mono (by decide)) (F_l_in.mono (by decide)) hb_range hb_list hb_len) rd_law
end Z
open PySem PySem.W PyProof.Rows
set_option maxHeartbeats 0 in
theorem PySem.Challenge.cw_hangrings_k72_points_of_several_turns_holds : PySem.Challenge.rw_hangrings_k72_points_of_several_turns.Holds := by
  w_on; o_law; k_head; (case hw => w_witness2)
  k_fill
  refine Z.walk_ofT (l := PySem.Challenge.rw_hangrings_k72_points_of_several_turns) (n := 63) (k := 6) (x := "_law_script") (CX := fun _ => L2.CX0) (sp := fun w => Z.liftSp _ 1 Z.sp_law) rfl (by decide) rfl ⟨rfl, by decide, by decide⟩ (fun w h Y => PySem.W.km_in_of Y) ?F (fun _ _ _ _ ns hl hb hO uq hS => Z.law_startT hl hb hO uq hS) (fun _ _ _ _ _ h => h)
  case F =>
    intro w mg fa h Y KX G hmg
    refine' Z.all_mk KX G hmg ?aL ?lL ?cL ?kL ?d_divisor ?d_divisor_of ?d_plain_row ?d_plain ?d_size ?d_rows_of ?d_row_less ?hem ?hnt ?d_gathered ?d_bound_by ?d_parted_at ?d_lower ?d_kept_rows ?d_l_at ?d_l_wholes ?d_l_mixed ?d_l_purse ?d_l_draw ?d_l_small ?d_l_four ?d_l_sum ?d_l_rows ?d_l_divisor ?d_l_shrunk ?d_l_plain ?d_l_kept ?d_l_form ?d_l_in ?d_l_points ?hb_abs ?hb_bool ?hb_int ?hb_isinstance ?hb_len ?hb_list ?hb_max ?hb_min ?hb_range ?hb_sorted ?hb_sum ?hb_tuple ?hb_zip
    (case aL => k_is)
    (case lL => k_is)
    (case cL => k_is)
    (case kL => k_is)
    (case hem => exact PySem.W.km_tabs_of Y _ (List.mem_cons_self ..))
    (case hnt => kernel_rfl)
    (case d_divisor => refine' Z.DefAt.mk' KX G ?a ?l ?c ?k (fun _ _ _ _ _ _ us hl => match us, hl with | [_, _], _ => rfl); (case a => k_is); (case l => k_is); (case c => k_is); (case k => k_is))
    (case d_divisor_of => refine' Z.DefAt.mk' KX G ?a ?l ?c ?k (fun _ _ _ _ _ _ us hl => match us, hl with | [_], _ => rfl); (case a => k_is); (case l => k_is); (case c => k_is); (case k => k_is))
    (case d_plain_row => refine' Z.DefAt.mk' KX G ?a ?l ?c ?k (fun _ _ _ _ _ _ us hl => match us, hl with | [_], _ => rfl); (case a => k_is); (case l => k_is); (case c => k_is); (case k => k_is))
    (case d_plain => refine' Z.DefAt.mk' KX G ?a ?l ?c ?k (fun _ _ _ _ _ _ us hl => match us, hl with | [_], _ => rfl); (case a => k_is); (case l => k_is); (case c => k_is); (case k => k_is))
    (case d_size => refine' Z.DefAt.mk' KX G ?a ?l ?c ?k (fun _ _ _ _ _ _ us hl => match us, hl with | [_], _ => rfl); (case a => k_is); (case l => k_is); (case c => k_is); (case k => k_is))
    (case d_rows_of => refine' Z.DefAt.mk' KX G ?a ?l ?c ?k (fun _ _ _ _ _ _ us hl => match us, hl with | [_], _ => rfl); (case a => k_is); (case l => k_is); (case c => k_is); (case k => k_is))
    (case d_row_less => refine' Z.DefAt.mk' KX G ?a ?l ?c ?k (fun _ _ _ _ _ _ us hl => match us, hl with | [_, _, _], _ => rfl); (case a => k_is); (case l => k_is); (case c => k_is); (case k => k_is))
    (case d_gathered => refine' Z.DefL.mk' KX G ?a ?l ?c ?k ?t (fun _ _ _ _ _ _ us hl => match us, hl with | [_], _ => rfl); (case a => k_is); (case l => k_is); (case c => k_is); (case k => k_is); (case t => kernel_rfl))
    (case d_bound_by => refine' Z.DefAt.mk' KX G ?a ?l ?c ?k (fun _ _ _ _ _ _ us hl => match us, hl with | [_, _, _], _ => rfl); (case a => k_is); (case l => k_is); (case c => k_is); (case k => k_is))
    (case d_parted_at => refine' Z.DefAt.mk' KX G ?a ?l ?c ?k (fun _ _ _ _ _ _ us hl => match us, hl with | [_, _], _ => rfl); (case a => k_is); (case l => k_is); (case c => k_is); (case k => k_is))
    (case d_lower => refine' Z.DefAt.mk' KX G ?a ?l ?c ?k (fun _ _ _ _ _ _ us hl => match us, hl with | [_], _ => rfl); (case a => k_is); (case l => k_is); (case c => k_is); (case k => k_is))
    (case d_kept_rows => refine' Z.DefAt.mk' KX G ?a ?l ?c ?k (fun _ _ _ _ _ _ us hl => match us, hl with | [_], _ => rfl); (case a => k_is); (case l => k_is); (case c => k_is); (case k => k_is))
    (case d_l_at => refine' Z.DefAt.mk' KX G ?a ?l ?c ?k (fun _ _ _ _ _ _ us hl => match us, hl with | [_, _], _ => rfl); (case a => k_is); (case l => k_is); (case c => k_is); (case k => k_is))
    (case d_l_wholes => refine' Z.DefAt.mk' KX G ?a ?l ?c ?k (fun _ _ _ _ _ _ us hl => match us, hl with | [_, _], _ => rfl); (case a => k_is); (case l => k_is); (case c => k_is); (case k => k_is))
    (case d_l_mixed => refine' Z.DefAt.mk' KX G ?a ?l ?c ?k (fun _ _ _ _ _ _ us hl => match us, hl with | [_, _], _ => rfl); (case a => k_is); (case l => k_is); (case c => k_is); (case k => k_is))
    (case d_l_purse => refine' Z.DefAt.mk' KX G ?a ?l ?c ?k (fun _ _ _ _ _ _ us hl => match us, hl with | [_, _], _ => rfl); (case a => k_is); (case l => k_is); (case c => k_is); (case k => k_is))
    (case d_l_draw => refine' Z.DefAt.mk' KX G ?a ?l ?c ?k (fun _ _ _ _ _ _ us hl => match us, hl with | [_, _], _ => rfl); (case a => k_is); (case l => k_is); (case c => k_is); (case k => k_is))
    (case d_l_small => refine' Z.DefAt.mk' KX G ?a ?l ?c ?k (fun _ _ _ _ _ _ us hl => match us, hl with | [_, _], _ => rfl); (case a => k_is); (case l => k_is); (case c => k_is); (case k => k_is))
    (case d_l_four => refine' Z.DefAt.mk' KX G ?a ?l ?c ?k (fun _ _ _ _ _ _ us hl => match us, hl with | [_, _], _ => rfl); (case a => k_is); (case l => k_is); (case c => k_is); (case k => k_is))
    (case d_l_sum => refine' Z.DefAt.mk' KX G ?a ?l ?c ?k (fun _ _ _ _ _ _ us hl => match us, hl with | [_, _], _ => rfl); (case a => k_is); (case l => k_is); (case c => k_is); (case k => k_is))
    (case d_l_rows => refine' Z.DefAt.mk' KX G ?a ?l ?c ?k (fun _ _ _ _ _ _ us hl => match us, hl with | [_], _ => rfl); (case a => k_is); (case l => k_is); (case c => k_is); (case k => k_is))
    (case d_l_divisor => refine' Z.DefAt.mk' KX G ?a ?l ?c ?k (fun _ _ _ _ _ _ us hl => match us, hl with | [_], _ => rfl); (case a => k_is); (case l => k_is); (case c => k_is); (case k => k_is))
    (case d_l_shrunk => refine' Z.DefAt.mk' KX G ?a ?l ?c ?k (fun _ _ _ _ _ _ us hl => match us, hl with | [_], _ => rfl); (case a => k_is); (case l => k_is); (case c => k_is); (case k => k_is))
    (case d_l_plain => refine' Z.DefAt.mk' KX G ?a ?l ?c ?k (fun _ _ _ _ _ _ us hl => match us, hl with | [_], _ => rfl); (case a => k_is); (case l => k_is); (case c => k_is); (case k => k_is))
    (case d_l_kept => refine' Z.DefAt.mk' KX G ?a ?l ?c ?k (fun _ _ _ _ _ _ us hl => match us, hl with | [_, _], _ => rfl); (case a => k_is); (case l => k_is); (case c => k_is); (case k => k_is))
    (case d_l_form => refine' Z.DefAt.mk' KX G ?a ?l ?c ?k (fun _ _ _ _ _ _ us hl => match us, hl with | [_], _ => rfl); (case a => k_is); (case l => k_is); (case c => k_is); (case k => k_is))
    (case d_l_in => refine' Z.DefAt.mk' KX G ?a ?l ?c ?k (fun _ _ _ _ _ _ us hl => match us, hl with | [_, _], _ => rfl); (case a => k_is); (case l => k_is); (case c => k_is); (case k => k_is))
    (case d_l_points => refine' Z.DefAt.mk' KX G ?a ?l ?c ?k (fun _ _ _ _ _ _ us hl => match us, hl with | [_, _], _ => rfl); (case a => k_is); (case l => k_is); (case c => k_is); (case k => k_is))
    (case hb_abs => exact PySem.W.mg_none_of KX G (by k_is))
    (case hb_bool => exact PySem.W.mg_none_of KX G (by k_is))
    (case hb_int => exact PySem.W.mg_none_of KX G (by k_is))
    (case hb_isinstance => exact PySem.W.mg_none_of KX G (by k_is))
    (case hb_len => exact PySem.W.mg_none_of KX G (by k_is))
    (case hb_list => exact PySem.W.mg_none_of KX G (by k_is))
    (case hb_max => exact PySem.W.mg_none_of KX G (by k_is))
    (case hb_min => exact PySem.W.mg_none_of KX G (by k_is))
    (case hb_range => exact PySem.W.mg_none_of KX G (by k_is))
    (case hb_sorted => exact PySem.W.mg_none_of KX G (by k_is))
    (case hb_sum => exact PySem.W.mg_none_of KX G (by k_is))
    (case hb_tuple => exact PySem.W.mg_none_of KX G (by k_is))
    (case hb_zip => exact PySem.W.mg_none_of KX G (by k_is))
