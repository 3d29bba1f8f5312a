import PyProof.Rows.All
import Wide.All
import OpenK.AllK
import Wide.FinOn
import HandS.ForMost
import HandS.Wide
import HandS.WideBits
import HandS.EndBits
import HandS.IsInst
import HandS.TupAny
import HandS.TupMul
import HandS.Conv
import HandS.Walk
import HandS.Zip
import HandS.Flow
import HandS.Exc
import HandS.ExcOwn
import HandS.ExcIs
import HandS.WordsExc
import HandS.Lambda
import KE.DataEq
import KE.KDictKeyed
import HandS.NoneIn
import HandS.Rev
import HandS.Replace
import PyProof.Draws
import PyProof.StrWalks
import HandS.Text
import KE.KDictDisplayH
import KE.SortKeyed
import KE.DataCmp
import KE.DataMinMax
import HandS.Style
import HandS.TupLen
import KE.SortData
import KE.KDictCopyH
import KE.KDictSum
import HandS.SetFor
import HandS.DictTup
import PyProof.Rows.SeqGen
import HandS.TupSets
import PySem.Challenge.RW_hangrings_k39_turns_that_keep_points
set_option compiler.extract_closed false
set_option Elab.async false
set_option linter.all false
set_option maxRecDepth 100000
/-! Z1: data as trees, lists in a store by number; what it is to be represented over the hand layer's heap. -/
namespace Z
open PySem PySem.Spec PyProof.Rows L2
/-- data: never changes -/
inductive D where
  | non | bl (b : Bool) | int (i : Int) | str (x : Str) | tup (xs : List D) | lst (xs : List D)
/-- a value: data; a list of the store; a list that nobody writes; a tuple of values -/
inductive R where
  | d (x : D) | loc (n : Nat) | ro (xs : List D) | tr (xs : List R) | ex (x : Str)
  /-- a thing at a known place -/
  | ad (a : Addr)
/-- what stands in the store -/
inductive O where
  | lst (xs : List D)
  /-- a dict whose keys are tuples (of ints, None and such tuples); how often it was written -/
  | dct (ep : Nat) (kvs : List (D × D))
  /-- a dict whose keys are ints and texts -/
  | dk (kvs : List (Key × D))
  /-- a list at a known place, of any values -/
  | la (a : Addr) (xs : List R)
  /-- a dict at a known place, of ints and texts -/
  | da (a : Addr) (kvs : List (Key × R))
  /-- an instance of an own class at a known place -/
  | ob (a : Addr) (C : Str) (fs : List (Str × R))
abbrev Rho := List (Option R)
abbrev Sto := List O
/-- a caught exception of the class at C, kept at a -/
def XO (C : Addr) (a : Addr) : HO := .ext fun h => ∃ (oe : Obj), h.get? a = some oe ∧ Zc (.ref C) none oe ∧ ∃ vs, oe.data = .fields vs
/-- the dict at a, its entries -/
def DX (a : Addr) (ep : Nat) (es : List DictEntry) : HO := .ext fun h => ∃ (o : Obj), h.get? a = some o ∧ o.ExactDict ∧ o.data = .dict es.toArray ep
theorem xo_dx {C a : Addr} {ep : Nat} {es : List DictEntry} (e : XO C a = DX a ep es) : False := by
  have e1 := congrFun (HO.ext.inj e) { objs := Array.replicate (a + 1) { cls := .type "dict", data := .dict es.toArray ep } }
  have g : Heap.get? { objs := Array.replicate (a + 1) { cls := .type "dict", data := .dict es.toArray ep } } a = some { cls := .type "dict", data := .dict es.toArray ep } := by
    unfold Heap.get?
    simp [Array.getElem?_replicate]
  obtain ⟨oe, g1, _, vs, d⟩ := e1.mpr ⟨_, g, ⟨rfl, rfl, rfl⟩, rfl⟩
  rw [g] at g1; cases g1
  cases d
mutual
/-- data as a key -/
def keyN : D → Option NestedKey
  | .non => some .none
  | .int i => some (.num i)
  | .tup xs => match keysN xs with
    | some ks => some (.tup ks)
    | none => none
  | _ => none
def keysN : List D → Option (List NestedKey)
  | [] => some []
  | x :: xs => match keyN x, keysN xs with
    | some k, some ks => some (k :: ks)
    | _, _ => none
end
section
variable (K : PySem.W.Frag)
/-- a list that stays as it is -/
def Fz (H : Hp) (a : Addr) (vs : List V) : Prop :=
  (∃ o, H a = some (.frz o (.lst vs))) ∨
    ∃ (o : Obj) (its : Array Value) (n : Nat), K.lookup a = some o ∧ o.cls = .type "list" ∧ o.dict = none ∧ o.data = .seq its n ∧ its.size ≤ sizeLine ∧ Vals vs its.toList
mutual
def RepD (H : Hp) : D → V → Prop
  | .non, v => v = .non
  | .bl b, v => v = .bl b
  | .int i, v => v = .int i
  | .str x, v => v = .str x
  | .tup xs, v => ∃ a vs, v = .ref a ∧ SqT K H a vs ∧ RepDs H xs vs
  | .lst xs, v => ∃ a vs, v = .ref a ∧ Fz K H a vs ∧ RepDs H xs vs
def RepDs (H : Hp) : List D → List V → Prop
  | [], vs => vs = []
  | x :: xs, vs => ∃ v r, vs = v :: r ∧ RepD H x v ∧ RepDs H xs r
end
mutual
def RepR (m : List Addr) (H : Hp) : R → V → Prop
  | .d x, v => RepD K H x v
  | .loc n, v => ∃ a, m[n]? = some a ∧ v = .ref a
  | .ro xs, v => ∃ a vs, v = .ref a ∧ Fz K H a vs ∧ RepDs K H xs vs
  | .tr xs, v => ∃ a vs, v = .ref a ∧ SqT K H a vs ∧ RepRs m H xs vs
  | .ex x, v => ∃ a C, v = .ref a ∧ PySem.W.nsIn K mainGlobals x = some (some (.ref C)) ∧ H a = some (XO C a)
  | .ad a, v => v = .ref a
def RepRs (m : List Addr) (H : Hp) : List R → List V → Prop
  | [], vs => vs = []
  | x :: xs, vs => ∃ v r, vs = v :: r ∧ RepR m H x v ∧ RepRs m H xs r
end
def RepEn (H : Hp) (p : D × D) (e : DictEntry) : Prop := ∃ (b : Addr) (k : NestedKey), e.key = .ref b ∧ keyN p.1 = some k ∧ k.depth ≤ 8 ∧ (∀ w, e.hash = k.hash w) ∧ RepD K H p.1 (.ref b) ∧ ∃ v, RelV v e.val ∧ RepD K H p.2 v
def RepO (H : Hp) (a : Addr) : O → Prop
  | .lst xs => ∃ vs, H a = some (.lst vs) ∧ RepDs K H xs vs
  | .dct ep kvs => ∃ es, H a = some (DX a ep es) ∧ (a == sysModules) = false ∧ kvs.length ≤ sizeLine ∧ Paired (RepEn K H) kvs es ∧ (kvs.map fun p => keyN p.1).Nodup
  | .dk kvs => ∃ ks : List (Key × V), H a = some (.dK ks) ∧ Paired (fun (p : Key × D) (q : Key × V) => q.1 = p.1 ∧ RepD K H p.2 q.2) kvs ks
  | .la b xs => b = a ∧ ∃ vs, H a = some (.lst vs) ∧ RepRs K [] H xs vs
  | .da b kvs => b = a ∧ ∃ ks : List (Key × V), H a = some (.dK ks) ∧ Paired (fun (p : Key × R) (q : Key × V) => q.1 = p.1 ∧ RepR K [] H p.2 q.2) kvs ks
  | .ob b C fs => b = a ∧ ∃ (Ca dx : Addr) (vs : List (Str × V)), PySem.W.nsIn K mainGlobals C = some (some (.ref Ca)) ∧ H a = some (.ins Ca dx vs) ∧ Paired (fun (p : Str × R) (q : Str × V) => q.1 = p.1 ∧ RepR K [] H p.2 q.2) fs vs
def lamQ : Str := "gathered.<locals>.<lambda>"
/-- the table of the code of the def gathered -/
def LamTab (P : Addr) : Prop := ∃ (f c : Addr) (oc : Obj) (fd : FuncData), PySem.W.nsIn K mainGlobals ("gathered" : Str) = some (some (.ref f)) ∧ K.lookup f = some oc ∧ oc.data = .func fd ∧ fd.code = .ref c ∧ PySem.W.codeHdIn K c P = true
structure RepS (m : List Addr) (H : Hp) (S : Sto) : Prop where
  nd : m.Nodup
  len : m.length = S.length
  at_ : ∀ (n : Nat) (o : O), S[n]? = some o → ∃ a, m[n]? = some a ∧ RepO K H a o
  tab : ∀ P, LamTab K P → LamX.TabS H P lamQ
structure RepE (m : List Addr) (H : Hp) (r : Rho) (s : L2.St) : Prop where
  len : s.length = r.length
  at_ : ∀ (i : Nat) (x : R), r[i]? = some (some x) → ∃ v, s[i]? = some (some v) ∧ RepR K m H x v
end
/-- tables of code objects stay such -/
structure TbK (H H' : Hp) : Prop where
  tab : ∀ P, LamX.TabS H P lamQ → LamX.TabS H' P lamQ
  tbl : ∀ b ps, H b = some (.tbl ps) → ∃ ps', H' b = some (.tbl ps')
theorem TbK.refl {H : Hp} : TbK H H := ⟨fun _ h => h, fun _ ps h => ⟨ps, h⟩⟩
theorem TbK.trans {H H1 H2 : Hp} (a : TbK H H1) (b : TbK H1 H2) : TbK H H2 := ⟨fun P h => b.tab P (a.tab P h), fun c ps h => by
  obtain ⟨p1, h1⟩ := a.tbl c ps h
  exact b.tbl c p1 h1⟩
theorem TbK.ext {H H1 : Hp} (h : ∀ b o, H b = some o → H1 b = some o) : TbK H H1 := ⟨fun _ t => t.ext h, fun b ps e => ⟨ps, h b _ e⟩⟩
theorem TbK.none {H : Hp} {p : Addr} {o : HO} (h : H p = none) : TbK H (upd H p o) := TbK.ext fun b u e => by rw [upd_ne (ne_of_none e h)]; exact e
theorem TbK.write {H : Hp} {p : Addr} {u u' : HO} (e : H p = some u) (h1 : ∀ ps, u ≠ .tbl ps) (h2 : ∀ q, u ≠ LamX.CodeO p q) : TbK H (upd H p u') := by
  have n1 : ∀ b ps, H b = some (.tbl ps) → b ≠ p := fun b ps h q => by subst q; rw [e] at h; exact h1 ps (Option.some.inj h)
  refine ⟨fun P ⟨ps, a1, a2, a3⟩ => ⟨ps, by rw [upd_ne (n1 P ps a1)]; exact a1, a2, fun pos cv hc => ?_⟩, fun b ps h => ⟨ps, by rw [upd_ne (n1 b ps h)]; exact h⟩⟩
  obtain ⟨c, e1, e2⟩ := a3 pos cv hc
  refine ⟨c, e1, ?_⟩
  rw [upd_ne fun z => by subst z; rw [e] at e2; exact h2 _ (Option.some.inj e2)]
  exact e2
theorem dx_code {a : Addr} {ep : Nat} {es : List DictEntry} {q : Str} (e : DX a ep es = LamX.CodeO a q) : False := by
  have e1 := congrFun (HO.ext.inj e) { objs := Array.replicate (a + 1) { cls := .type "dict", data := .dict es.toArray ep } }
  have g : Heap.get? { objs := Array.replicate (a + 1) { cls := .type "dict", data := .dict es.toArray ep } } a = some { cls := .type "dict", data := .dict es.toArray ep } := by
    unfold Heap.get?
    simp [Array.getElem?_replicate]
  obtain ⟨oe, vs, t, g1, d, _⟩ := e1.mp ⟨_, g, ⟨rfl, rfl, rfl⟩, rfl⟩
  rw [g] at g1; cases g1; cases d
structure Grow (m : List Addr) (H : Hp) (m' : List Addr) (H' : Hp) : Prop where
  pre : ∀ (n : Nat) a, m[n]? = some a → m'[n]? = some a
  tup : ∀ b xs, H b = some (.tup xs) → H' b = some (.tup xs)
  frz : ∀ b o u, H b = some (.frz o u) → H' b = some (.frz o u)
  xt : ∀ b C, H b = some (XO C b) → H' b = some (XO C b)
  frame : ∀ b o, H b = some o → b ∉ m → (∀ ps, o ≠ .tbl ps) → H' b = some o
  new : ∀ b, b ∈ m' → b ∉ m → H b = none
  tb : TbK H H'
section
variable {K : PySem.W.Frag} {m m1 m2 : List Addr} {H H1 H2 : Hp} {S S1 : Sto} {a b p : Addr} {o : HO}
theorem Grow.refl : Grow m H m H := ⟨fun _ _ h => h, fun _ _ h => h, fun _ _ _ h => h, fun _ _ h => h, fun _ _ h _ _ => h, fun _ h n => absurd h n, TbK.refl⟩
theorem mem_of_pre (h : ∀ (n : Nat) a, m[n]? = some a → m1[n]? = some a) : ∀ a, a ∈ m → a ∈ m1 := fun a ha => by
  obtain ⟨n, hn⟩ := List.getElem?_of_mem ha
  exact List.mem_of_getElem? (h n a hn)
theorem Grow.trans (g : Grow m H m1 H1) (k : Grow m1 H1 m2 H2) : Grow m H m2 H2 := by
  refine ⟨fun n a h => k.pre n a (g.pre n a h), fun b xs h => k.tup b xs (g.tup b xs h), fun b o u h => k.frz b o u (g.frz b o u h), fun b o h => k.xt b o (g.xt b o h), fun b o h hb hn => ?_, fun b hb hm => ?_, g.tb.trans k.tb⟩
  · refine k.frame b o (g.frame b o h hb hn) (fun hm => ?_) hn
    rw [g.new b hm hb] at h; cases h
  · by_cases h1 : b ∈ m1
    · exact g.new b h1 hm
    · cases e : H b with
      | none => rfl
      | some o =>
        by_cases z : ∃ ps, o = .tbl ps
        · obtain ⟨ps, rfl⟩ := z
          obtain ⟨ps', q⟩ := g.tb.tbl b ps e
          rw [k.new b hb h1] at q; cases q
        · have q := g.frame b o e hm (fun ps w => z ⟨ps, w⟩); rw [k.new b hb h1] at q; cases q
theorem rd_tup (g : Grow m H m1 H1) {xs : List V} (h : SqT K H a xs) : SqT K H1 a xs := by
  rcases h with (h | ⟨o, h⟩) | h
  · exact .inl (.inl (g.tup _ _ h))
  · exact .inl (.inr ⟨o, g.frz _ _ _ h⟩)
  · exact .inr h
theorem Fz.grow (g : Grow m H m1 H1) {xs : List V} (h : Fz K H a xs) : Fz K H1 a xs := by
  rcases h with ⟨o, h⟩ | h
  · exact .inl ⟨o, g.frz _ _ _ h⟩
  · exact .inr h
theorem Fz.sq {xs : List V} (h : Fz K H a xs) : SqL K H a xs := by
  rcases h with ⟨o, h⟩ | h
  · exact .inl (.inr ⟨o, h⟩)
  · exact .inr h
mutual
theorem RepD.grow (g : Grow m H m1 H1) : ∀ (x : D) (v : V), RepD K H x v → RepD K H1 x v
  | .non, _, h => h
  | .bl _, _, h => h
  | .int _, _, h => h
  | .str _, _, h => h
  | .tup xs, _, ⟨a, vs, e, h, r⟩ => ⟨a, vs, e, rd_tup g h, RepDs.grow g xs vs r⟩
  | .lst xs, _, ⟨a, vs, e, h, r⟩ => ⟨a, vs, e, h.grow g, RepDs.grow g xs vs r⟩
theorem RepDs.grow (g : Grow m H m1 H1) : ∀ (xs : List D) (vs : List V), RepDs K H xs vs → RepDs K H1 xs vs
  | [], _, h => h
  | x :: xs, _, ⟨v, r, e, h, t⟩ => ⟨v, r, e, RepD.grow g x v h, RepDs.grow g xs r t⟩
end
mutual
theorem RepR.grow (g : Grow m H m1 H1) : ∀ (x : R) (v : V), RepR K m H x v → RepR K m1 H1 x v
  | .d x, v, h => RepD.grow g x v h
  | .loc n, v, ⟨a, h, e⟩ => ⟨a, g.pre n a h, e⟩
  | .ro xs, v, ⟨a, vs, e, h, r⟩ => ⟨a, vs, e, h.grow g, RepDs.grow g xs vs r⟩
  | .tr xs, v, ⟨a, vs, e, h, r⟩ => ⟨a, vs, e, rd_tup g h, RepRs.grow g xs vs r⟩
  | .ex x, v, ⟨a, C, e, n, h⟩ => ⟨a, C, e, n, g.xt _ _ h⟩
  | .ad _, _, h => h
theorem RepRs.grow (g : Grow m H m1 H1) : ∀ (xs : List R) (vs : List V), RepRs K m H xs vs → RepRs K m1 H1 xs vs
  | [], _, h => h
  | x :: xs, _, ⟨v, r, e, h, t⟩ => ⟨v, r, e, RepR.grow g x v h, RepRs.grow g xs r t⟩
end
mutual
theorem RepR.conv (pre : ∀ (n : Nat) a, m[n]? = some a → m1[n]? = some a) (kd : ∀ x v, RepD K H x v → RepD K H1 x v) (kt : ∀ b xs, H b = some (.tup xs) → H1 b = some (.tup xs)) (kf : ∀ b o u, H b = some (.frz o u) → H1 b = some (.frz o u)) (kx : ∀ b C, H b = some (XO C b) → H1 b = some (XO C b)) : ∀ (x : R) (v : V), RepR K m H x v → RepR K m1 H1 x v
  | .d x, v, h => kd x v h
  | .loc n, v, ⟨a, h, e⟩ => ⟨a, pre n a h, e⟩
  | .ro xs, v, ⟨a, vs, e, h, r⟩ => by
    obtain ⟨a2, vs2, e2, h2, r2⟩ := kd (.lst xs) v ⟨a, vs, e, h, r⟩
    exact ⟨a2, vs2, e2, h2, r2⟩
  | .tr xs, v, ⟨a, vs, e, h, r⟩ => ⟨a, vs, e, (by
    rcases h with (h | ⟨o, h⟩) | h
    · exact .inl (.inl (kt _ _ h))
    · exact .inl (.inr ⟨o, kf _ _ _ h⟩)
    · exact .inr h), RepRs.conv pre kd kt kf kx xs vs r⟩
  | .ex x, v, ⟨a, C, e, n, h⟩ => ⟨a, C, e, n, kx _ _ h⟩
  | .ad _, _, h => h
theorem RepRs.conv (pre : ∀ (n : Nat) a, m[n]? = some a → m1[n]? = some a) (kd : ∀ x v, RepD K H x v → RepD K H1 x v) (kt : ∀ b xs, H b = some (.tup xs) → H1 b = some (.tup xs)) (kf : ∀ b o u, H b = some (.frz o u) → H1 b = some (.frz o u)) (kx : ∀ b C, H b = some (XO C b) → H1 b = some (XO C b)) : ∀ (xs : List R) (vs : List V), RepRs K m H xs vs → RepRs K m1 H1 xs vs
  | [], _, h => h
  | x :: xs, _, ⟨v, r, e, h, t⟩ => ⟨v, r, e, RepR.conv pre kd kt kf kx x v h, RepRs.conv pre kd kt kf kx xs r t⟩
end
theorem RepR.grow0 (g : Grow m H m1 H1) (x : R) (v : V) (h : RepR K [] H x v) : RepR K [] H1 x v := RepR.conv (fun _ _ h => h) (fun x v => RepD.grow g x v) g.tup g.frz g.xt x v h
theorem RepE.grow (g : Grow m H m1 H1) {r : Rho} {s : L2.St} (h : RepE K m H r s) : RepE K m1 H1 r s :=
  ⟨h.len, fun i x e => let ⟨v, e1, q⟩ := h.at_ i x e; ⟨v, e1, RepR.grow g x v q⟩⟩
theorem RepDs.len : ∀ {xs : List D} {vs : List V}, RepDs K H xs vs → vs.length = xs.length
  | [], _, h => by cases h; rfl
  | x :: xs, _, ⟨v, r, e, _, t⟩ => by subst e; simp [RepDs.len t]
theorem RepRs.len : ∀ {xs : List R} {vs : List V}, RepRs K m H xs vs → vs.length = xs.length
  | [], _, h => by cases h; rfl
  | x :: xs, _, ⟨v, r, e, _, t⟩ => by subst e; simp [RepRs.len t]
theorem RepDs.get : ∀ {xs : List D} {vs : List V} {i : Nat} {x : D}, RepDs K H xs vs → xs[i]? = some x → ∃ v, vs[i]? = some v ∧ RepD K H x v
  | [], _, _, _, _, e => by simp at e
  | x :: xs, _, 0, _, ⟨v, r, e, h, t⟩, q => by subst e; simp at q; subst q; exact ⟨v, rfl, h⟩
  | x :: xs, _, i + 1, y, ⟨v, r, e, h, t⟩, q => by
    subst e
    obtain ⟨u, h1, h2⟩ := RepDs.get (i := i) (x := y) t (by simpa using q)
    exact ⟨u, by simpa using h1, h2⟩
theorem RepRs.get : ∀ {xs : List R} {vs : List V} {i : Nat} {x : R}, RepRs K m H xs vs → xs[i]? = some x → ∃ v, vs[i]? = some v ∧ RepR K m H x v
  | [], _, _, _, _, e => by simp at e
  | x :: xs, _, 0, _, ⟨v, r, e, h, t⟩, q => by subst e; simp at q; subst q; exact ⟨v, rfl, h⟩
  | x :: xs, _, i + 1, y, ⟨v, r, e, h, t⟩, q => by
    subst e
    obtain ⟨u, h1, h2⟩ := RepRs.get (i := i) (x := y) t (by simpa using q)
    exact ⟨u, by simpa using h1, h2⟩
theorem RepDs.app : ∀ {xs ys : List D} {vs us : List V}, RepDs K H xs vs → RepDs K H ys us → RepDs K H (xs ++ ys) (vs ++ us)
  | [], _, _, _, h, k => by cases h; exact k
  | x :: xs, _, _, _, ⟨v, r, e, h, t⟩, k => by subst e; exact ⟨v, r ++ _, rfl, h, RepDs.app t k⟩
theorem RepDs.take : ∀ {xs : List D} {vs : List V} (n : Nat), RepDs K H xs vs → RepDs K H (xs.take n) (vs.take n)
  | _, _, 0, h => by simp [RepDs]
  | [], _, n + 1, h => by cases h; simp [RepDs]
  | x :: xs, _, n + 1, ⟨v, r, e, h, t⟩ => by subst e; exact ⟨v, r.take n, rfl, h, RepDs.take n t⟩
theorem RepDs.drop : ∀ {xs : List D} {vs : List V} (n : Nat), RepDs K H xs vs → RepDs K H (xs.drop n) (vs.drop n)
  | _, _, 0, h => by simpa using h
  | [], _, n + 1, h => by cases h; simp [RepDs]
  | x :: xs, _, n + 1, ⟨v, r, e, h, t⟩ => by subst e; simpa using RepDs.drop n t
theorem RepDs.set : ∀ {xs : List D} {vs : List V} {y : D} {u : V} (n : Nat), RepDs K H xs vs → RepD K H y u → RepDs K H (xs.set n y) (vs.set n u)
  | [], _, _, _, n, h, k => by cases h; simp [RepDs]
  | x :: xs, _, _, _, 0, ⟨v, r, e, h, t⟩, k => by subst e; exact ⟨_, r, rfl, k, t⟩
  | x :: xs, _, _, _, n + 1, ⟨v, r, e, h, t⟩, k => by subst e; exact ⟨v, _, rfl, h, RepDs.set n t k⟩
theorem RepDs.one {x : D} {v : V} (h : RepD K H x v) : RepDs K H [x] [v] := ⟨v, [], rfl, h, rfl⟩
theorem RepO.some {o : O} (h : RepO K H a o) : ∃ u, H a = some u := by
  cases o with
  | lst xs => obtain ⟨vs, e, _⟩ := h; exact ⟨_, e⟩
  | dct ep kvs => obtain ⟨vs, e, _⟩ := h; exact ⟨_, e⟩
  | dk kvs => obtain ⟨vs, e, _⟩ := h; exact ⟨_, e⟩
  | la b xs => obtain ⟨_, vs, e, _⟩ := h; exact ⟨_, e⟩
  | da b xs => obtain ⟨_, vs, e, _⟩ := h; exact ⟨_, e⟩
  | ob b C xs => obtain ⟨_, _, _, vs, _, e, _⟩ := h; exact ⟨_, e⟩
theorem RepO.ntbl {o : O} {u : HO} (h : RepO K H a o) (e : H a = Option.some u) : ∀ ps, u ≠ .tbl ps := fun ps z => by
  subst z
  cases o with
  | lst xs => obtain ⟨vs, e1, _⟩ := h; rw [e] at e1; cases e1
  | dct ep kvs => obtain ⟨vs, e1, _⟩ := h; rw [e] at e1; exact (nomatch (Option.some.inj e1))
  | dk kvs => obtain ⟨vs, e1, _⟩ := h; rw [e] at e1; cases e1
  | la b xs => obtain ⟨_, vs, e1, _⟩ := h; rw [e] at e1; cases e1
  | da b xs => obtain ⟨_, vs, e1, _⟩ := h; rw [e] at e1; cases e1
  | ob b C xs => obtain ⟨_, _, _, vs, _, e1, _⟩ := h; rw [e] at e1; cases e1
theorem RepS.tracked (r : RepS K m H S) (h : a ∈ m) : ∃ (n : Nat) (o : O), m[n]? = some a ∧ S[n]? = some o ∧ RepO K H a o := by
  obtain ⟨n, hn⟩ := List.getElem?_of_mem h
  have hl : n < m.length := (List.getElem?_eq_some_iff.mp hn).1
  have hs : n < S.length := by rw [← r.len]; exact hl
  obtain ⟨a', h1, h2⟩ := r.at_ n S[n] (List.getElem?_eq_getElem hs)
  rw [hn] at h1; cases h1
  exact ⟨n, _, hn, List.getElem?_eq_getElem hs, h2⟩
theorem RepS.notmem (r : RepS K m H S) (h : H p = none) : p ∉ m := fun hp => by
  obtain ⟨n, o, _, _, q⟩ := r.tracked hp
  obtain ⟨u, e⟩ := q.some
  rw [e] at h; cases h
theorem Grow.alloc (h : H p = none) : Grow m H m (upd H p o) :=
  ⟨fun _ _ e => e, fun b xs e => by rw [upd_ne (ne_of_none e h)]; exact e, fun b ob u e => by rw [upd_ne (ne_of_none e h)]; exact e, fun b u e => by rw [upd_ne (ne_of_none e h)]; exact e, fun b u e _ _ => by rw [upd_ne (ne_of_none e h)]; exact e, fun _ h n => absurd h n, TbK.none h⟩
theorem RepDs.via (f : ∀ x v, RepD K H x v → RepD K H1 x v) : ∀ (xs : List D) (vs : List V), RepDs K H xs vs → RepDs K H1 xs vs
  | [], _, h => h
  | x :: xs, _, ⟨v, r, e, h, t⟩ => ⟨v, r, e, f x v h, RepDs.via f xs r t⟩
theorem RepEn.via (f : ∀ x v, RepD K H x v → RepD K H1 x v) {p : D × D} {e : DictEntry} (h : RepEn K H p e) : RepEn K H1 p e := by
  obtain ⟨b, k, h1, h2, h3, h4, h5, v, h6, h7⟩ := h
  exact ⟨b, k, h1, h2, h3, h4, f _ _ h5, v, h6, f _ _ h7⟩
/-- what stands at an address, where all data stays -/
theorem RepRs.via (f : ∀ x v, RepR K m H x v → RepR K m1 H1 x v) : ∀ (xs : List R) (vs : List V), RepRs K m H xs vs → RepRs K m1 H1 xs vs
  | [], _, h => h
  | x :: xs, _, ⟨v, r, e, h, t⟩ => ⟨v, r, e, f x v h, RepRs.via f xs r t⟩
theorem RepO.via {o : O} (f0 : ∀ x v, RepR K [] H x v → RepR K [] H1 x v) (h : RepO K H a o) (e : H1 a = H a) : RepO K H1 a o := by
  have f : ∀ x v, RepD K H x v → RepD K H1 x v := fun x v h => f0 (.d x) v h
  cases o with
  | la b xs => obtain ⟨h0, vs, e1, r⟩ := h; exact ⟨h0, vs, by rw [e]; exact e1, RepRs.via f0 xs vs r⟩
  | da b kvs => obtain ⟨h0, ks, e1, r⟩ := h; exact ⟨h0, ks, by rw [e]; exact e1, Paired.mapP r fun _ _ z => ⟨z.1, f0 _ _ z.2⟩⟩
  | ob b C fs => obtain ⟨h0, Ca, dx, vs, n, e1, r⟩ := h; exact ⟨h0, Ca, dx, vs, n, by rw [e]; exact e1, Paired.mapP r fun _ _ z => ⟨z.1, f0 _ _ z.2⟩⟩
  | lst xs => obtain ⟨vs, e1, r⟩ := h; exact ⟨vs, by rw [e]; exact e1, RepDs.via f xs vs r⟩
  | dct ep kvs => obtain ⟨es, e1, h2, h3, r, h4⟩ := h; exact ⟨es, by rw [e]; exact e1, h2, h3, Paired.mapP r fun _ _ z => z.via f, h4⟩
  | dk kvs => obtain ⟨ks, e1, r⟩ := h; exact ⟨ks, by rw [e]; exact e1, Paired.mapP r fun _ _ z => ⟨z.1, f _ _ z.2⟩⟩
theorem RepO.grow {o : O} (g : Grow m H m1 H1) (h : RepO K H a o) (e : H1 a = H a) : RepO K H1 a o := h.via (fun x v => RepR.grow0 g x v) e
theorem RepS.alloc (r : RepS K m H S) (h : H p = none) : RepS K m (upd H p o) S :=
  ⟨r.nd, r.len, fun n ob e => by
    obtain ⟨a, h1, h2⟩ := r.at_ n ob e
    obtain ⟨u, e2⟩ := h2.some
    exact ⟨a, h1, h2.grow (Grow.alloc (m := m) h) (upd_ne (ne_of_none e2 h))⟩, fun P hP => (TbK.none h).tab P (r.tab P hP)⟩
/-- what stands at an address of no number yet is given the next number -/
theorem RepS.pushO (r : RepS K m H S) (hp : p ∉ m) {o : O} (h : RepO K H p o) : RepS K (m ++ [p]) H (S ++ [o]) := by
  refine ⟨?_, by simp [r.len], fun n ob e1 => ?_, r.tab⟩
  · rw [List.nodup_append]
    exact ⟨r.nd, by simp, fun a ha b hb => by simp at hb; subst hb; exact fun q => hp (q ▸ ha)⟩
  · by_cases hn : n < S.length
    · rw [List.getElem?_append_left hn] at e1
      obtain ⟨a, h1, h2⟩ := r.at_ n ob e1
      exact ⟨a, by rw [List.getElem?_append_left (by rw [r.len]; exact hn)]; exact h1, h2⟩
    · rw [List.getElem?_append_right (by omega)] at e1
      by_cases h0 : n = S.length
      · subst h0
        simp at e1
        subst e1
        exact ⟨p, by rw [← r.len]; simp, h⟩
      · have : 0 < n - S.length := by omega
        rw [List.getElem?_eq_none (by simp; omega)] at e1; cases e1
theorem RepS.push (r : RepS K m H S) (hp : p ∉ m) {xs : List D} {vs : List V} (e : H p = some (.lst vs)) (h : RepDs K H xs vs) : RepS K (m ++ [p]) H (S ++ [.lst xs]) := r.pushO hp ⟨vs, e, h⟩
theorem Grow.push (h : H p = none) (g : Grow m H m1 H1) : Grow m H (m1 ++ [p]) H1 :=
  ⟨fun n a e => by rw [List.getElem?_append_left (List.getElem?_eq_some_iff.mp (g.pre n a e)).1]; exact g.pre n a e, g.tup, g.frz, g.xt, g.frame, fun b hb hn => by
    rcases List.mem_append.mp hb with q | q
    · exact g.new b q hn
    · simp at q; subst q; exact h, g.tb⟩
/-- what can be written: it is no tuple, nothing locked, no exception -/
def Wr (p : Addr) (u : HO) : Prop := (∀ xs, u ≠ .tup xs) ∧ (∀ o v, u ≠ .frz o v) ∧ (∀ C, u ≠ XO C p) ∧ (∀ ps, u ≠ .tbl ps) ∧ ∀ q, u ≠ LamX.CodeO p q
theorem wr_lst {vs : List V} : Wr p (.lst vs) := ⟨fun _ => (nomatch ·), fun _ _ => (nomatch ·), fun _ => (nomatch ·), fun _ => (nomatch ·), fun _ => (nomatch ·)⟩
theorem wr_dx {ep : Nat} {es : List DictEntry} : Wr p (DX p ep es) := ⟨fun _ => (nomatch ·), fun _ _ => (nomatch ·), fun _ e => xo_dx e.symm, fun _ => (nomatch ·), fun _ e => dx_code e⟩
theorem Grow.writeO {n : Nat} {u u' : HO} (hn : m[n]? = some p) (e : H p = some u) (w : Wr p u) : Grow m H m (upd H p u') := by
  obtain ⟨w1, w2, w3, w4, w5⟩ := w
  refine ⟨fun _ _ e => e, fun b xs e1 => ?_, fun b ob v e1 => ?_, fun b C e1 => ?_, fun b v e1 hb _ => by rw [upd_ne (fun q => hb (by rw [show b = p from q]; exact List.mem_of_getElem? hn))]; exact e1, fun _ h n => absurd h n, TbK.write e w4 w5⟩
  · rw [upd_ne (ne_of e1 e (w1 xs).symm)]; exact e1
  · rw [upd_ne (ne_of e1 e (w2 ob v).symm)]; exact e1
  · by_cases hb : b = p
    · subst hb; rw [e] at e1; exact absurd (Option.some.inj e1) (w3 C)
    · rw [upd_ne hb]; exact e1
theorem RepS.writeO (r : RepS K m H S) {n : Nat} {u u' : HO} {o : O} (hn : m[n]? = some p) (e : H p = some u) (w : Wr p u) (h : RepO K (upd H p u') p o) : RepS K m (upd H p u') (S.set n o) := by
  have g : Grow m H m (upd H p u') := Grow.writeO hn e w
  refine ⟨r.nd, by simp [r.len], fun k ob e1 => ?_, fun P hP => g.tb.tab P (r.tab P hP)⟩
  by_cases hk : n = k
  · subst hk
    have hl : n < S.length := by rw [← r.len]; exact (List.getElem?_eq_some_iff.mp hn).1
    rw [List.getElem?_set_self hl] at e1
    cases e1
    exact ⟨p, hn, h⟩
  · rw [List.getElem?_set_ne hk] at e1
    obtain ⟨a, h1, h2⟩ := r.at_ k ob e1
    refine ⟨a, h1, h2.grow g (upd_ne fun q => ?_)⟩
    subst q
    obtain ⟨l1, e2⟩ := List.getElem?_eq_some_iff.mp hn
    obtain ⟨l2, e3⟩ := List.getElem?_eq_some_iff.mp h1
    exact hk ((List.getElem_inj r.nd).mp (e2.trans e3.symm))
theorem Grow.write {n : Nat} {vs vs' : List V} (hn : m[n]? = some p) (e : H p = some (.lst vs)) : Grow m H m (upd H p (.lst vs')) := Grow.writeO hn e wr_lst
theorem RepS.write (r : RepS K m H S) {n : Nat} {vs vs' : List V} {xs : List D} (hn : m[n]? = some p) (e : H p = some (.lst vs)) (h : RepDs K H xs vs') : RepS K m (upd H p (.lst vs')) (S.set n (.lst xs)) :=
  r.writeO hn e wr_lst ⟨vs', upd_same, RepDs.grow (Grow.writeO (m := m) hn e wr_lst) xs vs' h⟩
theorem Grow.fresh (g : Grow m H m1 H1) (r : RepS K m1 H1 S) (h : H1 p = none) : H p = none := by
  cases e : H p with
  | none => rfl
  | some u =>
    have n1 : p ∉ m1 := r.notmem h
    by_cases z : ∃ ps, u = .tbl ps
    · obtain ⟨ps, rfl⟩ := z
      obtain ⟨ps', q⟩ := g.tb.tbl p ps e
      rw [h] at q; cases q
    have := g.frame p u e (fun hp => n1 (mem_of_pre g.pre p hp)) (fun ps w => z ⟨ps, w⟩)
    rw [h] at this; cases this
/-! ### a new list that nobody will write -/
mutual
theorem RepD.keep (kt : ∀ b xs, H b = some (.tup xs) → H1 b = some (.tup xs)) (kf : ∀ b o u, H b = some (.frz o u) → H1 b = some (.frz o u)) : ∀ (x : D) (v : V), RepD K H x v → RepD K H1 x v
  | .non, _, h => h
  | .bl _, _, h => h
  | .int _, _, h => h
  | .str _, _, h => h
  | .tup xs, _, ⟨a, vs, e, h, r⟩ => ⟨a, vs, e, (by
    rcases h with (h | ⟨o, h⟩) | h
    · exact .inl (.inl (kt _ _ h))
    · exact .inl (.inr ⟨o, kf _ _ _ h⟩)
    · exact .inr h), RepDs.keep kt kf xs vs r⟩
  | .lst xs, _, ⟨a, vs, e, h, r⟩ => ⟨a, vs, e, (by
    rcases h with ⟨o, h⟩ | h
    · exact .inl ⟨o, kf _ _ _ h⟩
    · exact .inr h), RepDs.keep kt kf xs vs r⟩
theorem RepDs.keep (kt : ∀ b xs, H b = some (.tup xs) → H1 b = some (.tup xs)) (kf : ∀ b o u, H b = some (.frz o u) → H1 b = some (.frz o u)) : ∀ (xs : List D) (vs : List V), RepDs K H xs vs → RepDs K H1 xs vs
  | [], _, h => h
  | x :: xs, _, ⟨v, r, e, h, t⟩ => ⟨v, r, e, RepD.keep kt kf x v h, RepDs.keep kt kf xs r t⟩
end
theorem kt_fz {vs : List V} {od : Obj} (e : H a = some (.lst vs)) : ∀ b xs, H b = some (.tup xs) → upd H a (.frz od (.lst vs)) b = some (.tup xs) := fun b xs h => by
  rw [upd_ne (ne_of h e (fun q => nomatch q))]; exact h
theorem kf_fz {vs : List V} {od : Obj} (e : H a = some (.lst vs)) : ∀ b o u, H b = some (.frz o u) → upd H a (.frz od (.lst vs)) b = some (.frz o u) := fun b o u h => by
  rw [upd_ne (ne_of h e (fun q => nomatch q))]; exact h
theorem RepS.frz (r : RepS K m H S) {vs : List V} {od : Obj} (ha : a ∉ m) (e : H a = some (.lst vs)) : RepS K m (upd H a (.frz od (.lst vs))) S :=
  ⟨r.nd, r.len, fun n ob e1 => by
    obtain ⟨b, h1, h2⟩ := r.at_ n ob e1
    refine ⟨b, h1, ?_⟩
    have hb : b ≠ a := fun q => ha (q ▸ List.mem_of_getElem? h1)
    exact h2.via (fun x v => RepR.conv (fun _ _ h => h) (fun x v => RepD.keep (kt_fz e) (kf_fz e) x v) (kt_fz e) (kf_fz e) (fun b C h => by rw [upd_ne (ne_of h e (fun q => nomatch q))]; exact h) x v) (upd_ne hb), fun P hP => (TbK.write e (fun _ => (nomatch ·)) (fun _ => (nomatch ·))).tab P (r.tab P hP)⟩
theorem Grow.frz_new (g : Grow m H m1 H1) {vs : List V} {od : Obj} (h0 : H a = none) (e : H1 a = some (.lst vs)) : Grow m H m1 (upd H1 a (.frz od (.lst vs))) :=
  ⟨g.pre, fun b xs h => kt_fz e b xs (g.tup b xs h), fun b o u h => kf_fz e b o u (g.frz b o u h), fun b φ h => by rw [upd_ne (ne_of (g.xt b φ h) e (fun q => nomatch q))]; exact g.xt b φ h, fun b o h hb hn => by rw [upd_ne (ne_of_none h h0)]; exact g.frame b o h hb hn, g.new, g.tb.trans (TbK.write e (fun _ => (nomatch ·)) (fun _ => (nomatch ·)))⟩
end
end Z
set_option Elab.async false
set_option linter.all false
set_option maxRecDepth 100000
/-! Z2: expressions over trees and a store; each rule is the hand layer's own, read there. -/
namespace Z
open PySem PySem.Spec PyProof.Rows L2
/-- what an expression hands on: a value, or a new list that stands at no number yet -/
inductive SV where
  | r (x : R) | f (xs : List D)
abbrev PK1 := SV → Sto → Prop
abbrev PE1 := Rho → Sto → PK1 → Prop
abbrev PT1 := Rho → Sto → (Bool → Sto → Prop) → Prop
abbrev PA1 := Rho → Sto → (List SV → Sto → Prop) → Prop
def RepV (K : PySem.W.Frag) (m : List Addr) (H H0 : Hp) : SV → V → Prop
  | .r x, v => RepR K m H x v
  | .f xs, v => ∃ a vs, v = .ref a ∧ H a = some (.lst vs) ∧ a ∉ m ∧ H0 a = none ∧ RepDs K H xs vs
def RepVs (K : PySem.W.Frag) (m : List Addr) (H H0 : Hp) : List SV → List V → Prop
  | [], vs => vs = []
  | x :: xs, vs => ∃ v r, vs = v :: r ∧ RepV K m H H0 x v ∧ RepVs K m H H0 xs r
section
variable {K : PySem.W.Frag} {m m1 m2 : List Addr} {H H0 H1 H2 : Hp} {S S1 S2 : Sto} {W : PK1} {Q : VK}
theorem RepV.grow (g : Grow m H m1 H1) {x : SV} {v : V} (h : RepV K m H H0 x v) : RepV K m1 H1 H0 x v := by
  cases x with
  | r x => exact RepR.grow g x v h
  | f xs =>
    obtain ⟨a, vs, e, h1, h2, h3, h4⟩ := h
    exact ⟨a, vs, e, g.frame a _ h1 h2 (fun _ => (nomatch ·)), fun q => (by rw [g.new a q h2] at h1; cases h1), h3, RepDs.grow g xs vs h4⟩
theorem RepVs.grow (g : Grow m H m1 H1) : ∀ {xs : List SV} {vs : List V}, RepVs K m H H0 xs vs → RepVs K m1 H1 H0 xs vs
  | [], _, h => h
  | x :: xs, _, ⟨v, r, e, h, t⟩ => ⟨v, r, e, h.grow g, RepVs.grow g t⟩
/-- a fresh thing of a later start is one of the first start -/
theorem RepV.back (g : Grow m H m1 H1) (r : RepS K m1 H1 S) {x : SV} {v : V} (h : RepV K m2 H2 H1 x v) : RepV K m2 H2 H x v := by
  cases x with
  | r x => exact h
  | f xs => obtain ⟨a, vs, e, h1, h2, h3, h4⟩ := h; exact ⟨a, vs, e, h1, h2, g.fresh r h3, h4⟩
/-- what is wanted behind -/
def Fin (K : PySem.W.Frag) (m : List Addr) (H : Hp) (W : PK1) (Q : VK) : Prop :=
  ∀ x S' v m' H', W x S' → Grow m H m' H' → RepS K m' H' S' → RepV K m' H' H x v → Q v H'
theorem Fin.later (f : Fin K m H W Q) (g : Grow m H m1 H1) (r : RepS K m1 H1 S1) : Fin K m1 H1 W Q :=
  fun x S' v m' H' w g' r' q => f x S' v m' H' w (g.trans g') r' (q.back g r)
theorem Fin.here (f : Fin K m H W Q) (r : RepS K m H S) {x : SV} {v : V} (q : RepV K m H H x v) (w : W x S) : Q v H := f x S v m H w Grow.refl r q
/-- a new tuple -/
theorem Fin.tup (f : Fin K m H W Q) (r : RepS K m H S) {xs : List D} {vs : List V} (h : RepDs K H xs vs) (w : W (.r (.d (.tup xs))) S) : ∀ p, H p = none → Q (.ref p) (upd H p (.tup vs)) := fun p hp =>
  f _ S _ m _ w (Grow.alloc hp) (r.alloc hp) ⟨p, vs, rfl, .inl (.inl upd_same), RepDs.grow (m := m) (m1 := m) (Grow.alloc hp) xs vs h⟩
/-- a new list -/
theorem Fin.lst (f : Fin K m H W Q) (r : RepS K m H S) {xs : List D} {vs : List V} (h : RepDs K H xs vs) (w : W (.f xs) S) : ∀ p, H p = none → Q (.ref p) (upd H p (.lst vs)) := fun p hp =>
  f _ S _ m _ w (Grow.alloc hp) (r.alloc hp) ⟨p, vs, rfl, upd_same, r.notmem hp, hp, RepDs.grow (m := m) (m1 := m) (Grow.alloc hp) xs vs h⟩
end
def up (K : PySem.W.Frag) (w : PE1) : TE := fun s H Q => ∃ m r S W, RepE K m H r s ∧ RepS K m H S ∧ w r S W ∧ Fin K m H W Q
def upT (K : PySem.W.Frag) (w : PT1) : TT := fun s H Q => ∃ m r S W, RepE K m H r s ∧ RepS K m H S ∧ w r S W ∧ ∀ b S' m' H', W b S' → Grow m H m' H' → RepS K m' H' S' → Q b H'
def upA (K : PySem.W.Frag) (w : PA1) : TA := fun s H Q => ∃ m r S W, RepE K m H r s ∧ RepS K m H S ∧ w r S W ∧ ∀ xs S' vs m' H', W xs S' → Grow m H m' H' → RepS K m' H' S' → RepVs K m' H' H xs vs → Q vs H'
structure WE (X : Cx) (e : Expr) (w : PE1) : Prop where
  pe : PE X e (up X.K w)
structure WT (X : Cx) (e : Expr) (w : PT1) : Prop where
  pt : PT X e (upT X.K w)
structure WA (X : Cx) (es : List Expr) (w : PA1) : Prop where
  pa : PA X es (upA X.K w)
section
variable {X : Cx} {e a b c : Expr} {es : List Expr} {pos : Pos} {wa wb wc : PE1} {was : PA1}
theorem peImp {t t' : TE} (h : PE X e t) (k : ∀ s H Q, t' s H Q → t s H Q) : PE X e t' := ⟨fun pins s z H Q I q => h.run pins s z H Q I (k _ _ _ q)⟩
theorem ptImp {t t' : TT} (h : PT X e t) (k : ∀ s H Q, t' s H Q → t s H Q) : PT X e t' := ⟨fun pins s z H Q I q => h.run pins s z H Q I (k _ _ _ q)⟩
theorem paImp {t t' : TA} (h : PA X es t) (k : ∀ s H Q, t' s H Q → t s H Q) : PA X es t' := ⟨fun pos pins s z H Q I q => h.run pos pins s z H Q I (k _ _ _ q)⟩
/-! ### names, constants -/
abbrev wVar (i : Nat) : PE1 := fun r S W => match r[i]? with
  | some (some x) => W (.r x) S
  | _ => False
abbrev wC (x : D) : PE1 := fun _ S W => W (.r (.d x)) S
theorem we_var (i : Nat) {x : Str} {pos : Pos} (h : PE X (.Name x pos) (tVar i)) : WE X (.Name x pos) (wVar i) := ⟨peImp h fun s H Q ⟨m, r, S, W, hE, hS, hw, hf⟩ => by
  unfold wVar at hw
  split at hw
  · rename_i x e
    obtain ⟨v, e1, q⟩ := hE.at_ i x e
    exact ⟨v, e1, hf.here hS (x := .r x) q hw⟩
  · exact hw.elim⟩
theorem we_c {v : V} {x : D} (h : PE X e (tC v)) (k : ∀ H, RepD X.K H x v) : WE X e (wC x) := ⟨peImp h fun s H Q ⟨m, r, S, W, hE, hS, hw, hf⟩ => hf.here hS (x := .r (.d x)) (k H) hw⟩
theorem we_int {i : Int} {k pos} : WE X (.Constant (.int i) k pos) (wC (.int i)) := we_c pe_int fun _ => rfl
theorem we_bl {b k pos} : WE X (.Constant (.bool b) k pos) (wC (.bl b)) := we_c pe_bl fun _ => rfl
theorem we_non {k pos} : WE X (.Constant .none k pos) (wC .non) := we_c pe_non fun _ => rfl
theorem we_str {x k pos} : WE X (.Constant (.str x) k pos) (wC (.str x)) := we_c pe_str fun _ => rfl
/-! ### operators of two values -/
abbrev P2 := SV → SV → Sto → PK1 → Prop
def OpP (X : Cx) (f : Value → Value → Sem Value) (rp : P2) : Prop :=
  ∃ r : R2, OpR X f r ∧ ∀ x y S W v u m H H0 Q, RepS X.K m H S → RepV X.K m H H0 x v → RepV X.K m H H0 y u → rp x y S W → Fin X.K m H W Q → r v u H Q
theorem OpP.or {f : Value → Value → Sem Value} {p q : P2} (h : OpP X f p) (k : OpP X f q) : OpP X f (fun x y S W => p x y S W ∨ q x y S W) := by
  obtain ⟨r, h1, h2⟩ := h
  obtain ⟨t, k1, k2⟩ := k
  refine ⟨_, h1.or k1, fun x y S W v u m H H0 Q a b c d e => ?_⟩
  rcases d with d | d
  · exact .inl (h2 x y S W v u m H H0 Q a b c d e)
  · exact .inr (k2 x y S W v u m H H0 Q a b c d e)
theorem OpP.imp {f : Value → Value → Sem Value} {p q : P2} (h : OpP X f p) (k : ∀ x y S W, q x y S W → p x y S W) : OpP X f q := by
  obtain ⟨r, h1, h2⟩ := h
  exact ⟨r, h1, fun x y S W v u m H H0 Q a b c d e => h2 x y S W v u m H H0 Q a b c (k _ _ _ _ d) e⟩
abbrev wBin (rp : P2) (wa wb : PE1) : PE1 := fun r S W => wa r S fun x S1 => wb r S1 fun y S2 => rp x y S2 W
/-- two expressions in a row -/
theorem up2 {K : PySem.W.Frag} {s : L2.St} {H : Hp} {R : V → V → Hp → Prop} {m : List Addr} {r : Rho} {S : Sto} {Z : SV → SV → Sto → Prop} (hE : RepE K m H r s) (hS : RepS K m H S)
    (hw : wa r S fun x S1 => wb r S1 fun y S2 => Z x y S2)
    (h : ∀ x y S2 v u m2 H2, Z x y S2 → Grow m H m2 H2 → RepS K m2 H2 S2 → RepV K m2 H2 H x v → RepV K m2 H2 H y u → R v u H2) :
    up K wa s H fun v H1 => up K wb s H1 fun u H2 => R v u H2 :=
  ⟨m, r, S, _, hE, hS, hw, fun x S1 v m1 H1 h1 g1 r1 q1 => ⟨m1, r, S1, _, hE.grow g1, r1, h1, fun y S2 u m2 H2 h2 g2 r2 q2 => h x y S2 v u m2 H2 h2 (g1.trans g2) r2 (q1.grow g2) (q2.back g1 r1)⟩⟩
theorem op2 {f : Value → Value → Sem Value} {rp : P2} (ho : OpP X f rp) : ∃ r : R2, OpR X f r ∧ ∀ s H Q, up X.K (wBin rp wa wb) s H Q → tOp r (up X.K wa) (up X.K wb) s H Q := by
  obtain ⟨r, h1, h2⟩ := ho
  refine ⟨r, h1, fun s H Q ⟨m, ρ, S, W, hE, hS, hw, hf⟩ => up2 hE hS hw fun x y S2 v u m2 H2 z g2 r2 qx qy => ?_⟩
  exact h2 x y S2 W v u m2 H2 H Q r2 qx qy z (hf.later g2 r2)
theorem we_bin {op : Operator} {rp : P2} (ho : OpP X (binaryOp op) rp) (ha : WE X a wa) (hb : WE X b wb) : WE X (.BinOp a op b pos) (wBin rp wa wb) := by
  obtain ⟨r, h1, h2⟩ := op2 (wa := wa) (wb := wb) ho
  exact ⟨peImp (pe_op h1 ha.pe hb.pe) h2⟩
theorem we_cmp {op : CmpOp} {rp : P2} (ho : OpP X (compareOp op) rp) (ha : WE X a wa) (hb : WE X b wb) (hm : behindInMarks op b = false) : WE X (.Compare a [op] [b] pos) (wBin rp wa wb) := by
  obtain ⟨r, h1, h2⟩ := op2 (wa := wa) (wb := wb) ho
  exact ⟨peImp (pe_cmpR h1 ha.pe hb.pe hm) h2⟩
/-- a value that is a truth, as a test -/
abbrev wTest (w : PE1) : PT1 := fun r S W => w r S fun x S1 => match x with
  | .r (.d (.bl b)) => W b S1
  | _ => False
theorem upT_of {K : PySem.W.Frag} {w : PE1} {t : TE} (h : ∀ s H Q, up K w s H Q → t s H Q) : ∀ s H Q, upT K (wTest w) s H Q → tTest t s H Q := fun s H Q ⟨m, r, S, W, hE, hS, hw, hf⟩ => by
  refine h s H _ ⟨m, r, S, _, hE, hS, hw, fun x S' v m' H' hx g r' q => ?_⟩
  split at hx
  · rename_i b
    exact ⟨b, q, hf b S' m' H' hx g r'⟩
  · exact hx.elim
theorem wt_cmp {op : CmpOp} {rp : P2} (ho : OpP X (compareOp op) rp) (ha : WE X a wa) (hb : WE X b wb) (hm : behindInMarks op b = false) : WT X (.Compare a [op] [b] pos) (wTest (wBin rp wa wb)) := by
  obtain ⟨r, h1, h2⟩ := op2 (wa := wa) (wb := wb) ho
  exact ⟨ptImp (pt_cmpR h1 ha.pe hb.pe hm) (upT_of h2)⟩
theorem wt_val (ha : WE X a wa) (he : ∀ whole, isTrue a X.env whole = (do let v ← whole; standAt a.pos; holding [v] (truthy v)) := by intro _; rfl) : WT X a (wTest wa) :=
  ⟨ptImp (pt_val ha.pe he) (upT_of fun _ _ _ h => h)⟩
/-- the operators of one value -/
abbrev P1 := SV → Sto → PK1 → Prop
def UnP (X : Cx) (f : Value → Sem Value) (rp : P1) : Prop :=
  ∃ r : V → Hp → VK → Prop, UnR X f r ∧ ∀ x S W v m H H0 Q, RepS X.K m H S → RepV X.K m H H0 x v → rp x S W → Fin X.K m H W Q → r v H Q
abbrev wUn (rp : P1) (wa : PE1) : PE1 := fun r S W => wa r S fun x S1 => rp x S1 W
theorem up1 {K : PySem.W.Frag} {s : L2.St} {H : Hp} {R : V → Hp → Prop} {m : List Addr} {r : Rho} {S : Sto} {Z : SV → Sto → Prop} (hE : RepE K m H r s) (hS : RepS K m H S)
    (hw : wa r S fun x S1 => Z x S1) (h : ∀ x S2 v m2 H2, Z x S2 → Grow m H m2 H2 → RepS K m2 H2 S2 → RepV K m2 H2 H x v → R v H2) : up K wa s H fun v H1 => R v H1 :=
  ⟨m, r, S, _, hE, hS, hw, fun x S1 v m1 H1 h1 g1 r1 q1 => h x S1 v m1 H1 h1 g1 r1 q1⟩
theorem we_un {op : UnaryOp} {rp : P1} (ho : UnP X (unaryOp op) rp) (ha : WE X a wa) : WE X (.UnaryOp op a pos) (wUn rp wa) := by
  obtain ⟨r, h1, h2⟩ := ho
  exact ⟨peImp (pe_un h1 ha.pe) fun s H Q ⟨m, ρ, S, W, hE, hS, hw, hf⟩ => up1 hE hS hw fun x S2 v m2 H2 z g2 r2 qx => h2 x S2 W v m2 H2 H Q r2 qx z (hf.later g2 r2)⟩
/-! ### and, or, not -/
abbrev wAndT (t u : PT1) : PT1 := fun r S W => t r S fun b S1 => if b = true then u r S1 W else W false S1
abbrev wOrT (t u : PT1) : PT1 := fun r S W => t r S fun b S1 => if b = true then W true S1 else u r S1 W
abbrev wNotT (t : PT1) : PT1 := fun r S W => t r S fun b S1 => W (!b) S1
structure WW (X : Cx) (e : Expr) (w : PT1) : Prop where
  pw : PW X e (upT X.K w)
theorem pwImp {t t' : TT} (h : PW X e t) (k : ∀ s H Q, t' s H Q → t s H Q) : PW X e t' := ⟨fun wh pins s z H Q I q => h.run wh pins s z H Q I (k _ _ _ q)⟩
theorem WW.wt {w : PT1} (h : WW X e w) : WT X e w := ⟨h.pw.pt⟩
variable {ta tb : PT1} {rest : List Expr}
theorem ww_and1 (ha : WT X a ta) : WW X (.BoolOp .And [a] pos) ta := ⟨pw_and1 ha.pt⟩
theorem ww_or1 (ha : WT X a ta) : WW X (.BoolOp .Or [a] pos) ta := ⟨pw_or1 ha.pt⟩
theorem ww_and (ha : WT X a ta) (hb : WW X (.BoolOp .And (b :: rest) pos) tb) : WW X (.BoolOp .And (a :: b :: rest) pos) (wAndT ta tb) :=
  ⟨pwImp (pw_and ha.pt hb.pw) fun s H Q ⟨m, r, S, W, hE, hS, hw, hf⟩ => ⟨m, r, S, _, hE, hS, hw, fun b S1 m1 H1 h1 g1 r1 => by
    cases b with
    | true => exact ⟨m1, r, S1, W, hE.grow g1, r1, h1, fun b S2 m2 H2 h2 g2 r2 => hf b S2 m2 H2 h2 (g1.trans g2) r2⟩
    | false => exact hf false S1 m1 H1 h1 g1 r1⟩⟩
theorem ww_or (ha : WT X a ta) (hb : WW X (.BoolOp .Or (b :: rest) pos) tb) : WW X (.BoolOp .Or (a :: b :: rest) pos) (wOrT ta tb) :=
  ⟨pwImp (pw_or ha.pt hb.pw) fun s H Q ⟨m, r, S, W, hE, hS, hw, hf⟩ => ⟨m, r, S, _, hE, hS, hw, fun b S1 m1 H1 h1 g1 r1 => by
    cases b with
    | false => exact ⟨m1, r, S1, W, hE.grow g1, r1, h1, fun b S2 m2 H2 h2 g2 r2 => hf b S2 m2 H2 h2 (g1.trans g2) r2⟩
    | true => exact hf true S1 m1 H1 h1 g1 r1⟩⟩
theorem wt_not (ha : WT X a ta) : WT X (.UnaryOp .Not a pos) (wNotT ta) :=
  ⟨ptImp (pt_not ha.pt) fun s H Q ⟨m, r, S, W, hE, hS, hw, hf⟩ => ⟨m, r, S, _, hE, hS, hw, fun b S1 m1 H1 h1 g1 r1 => hf _ S1 m1 H1 h1 g1 r1⟩⟩
/-- .. as values -/
abbrev wAndV (wa wb : PE1) : PE1 := fun r S W => wa r S fun x S1 => match x with
  | .r (.d (.bl b)) => if b = true then wb r S1 W else W (.r (.d (.bl false))) S1
  | _ => False
abbrev wOrV (wa wb : PE1) : PE1 := fun r S W => wa r S fun x S1 => match x with
  | .r (.d (.bl b)) => if b = true then W (.r (.d (.bl true))) S1 else wb r S1 W
  | _ => False
abbrev wNotV (wa : PE1) : PE1 := fun r S W => wa r S fun x S1 => match x with
  | .r (.d (.bl b)) => W (.r (.d (.bl (!b)))) S1
  | _ => False
theorem we_one {op} (h : WE X a wa) : WE X (.BoolOp op [a] pos) wa := ⟨pe_one h.pe⟩
theorem we_and (ha : WE X a wa) (hb : WE X (.BoolOp .And (b :: rest) pos) wb) : WE X (.BoolOp .And (a :: b :: rest) pos) (wAndV wa wb) :=
  ⟨peImp (pe_and ha.pe hb.pe) fun s H Q ⟨m, r, S, W, hE, hS, hw, hf⟩ => up1 hE hS hw fun x S1 v m1 H1 h1 g1 r1 q1 => by
    split at h1
    · rename_i b
      refine ⟨b, q1, ?_⟩
      cases b with
      | true => exact ⟨m1, r, S1, W, hE.grow g1, r1, h1, hf.later g1 r1⟩
      | false => exact hf _ S1 _ m1 H1 h1 g1 r1 rfl
    · exact h1.elim⟩
theorem we_not (ha : WE X a wa) : WE X (.UnaryOp .Not a pos) (wNotV wa) :=
  ⟨peImp (pe_not ha.pe) fun s H Q ⟨m, r, S, W, hE, hS, hw, hf⟩ => up1 hE hS hw fun x S1 v m1 H1 h1 g1 r1 q1 => by
    split at h1
    · rename_i b
      exact ⟨b, q1, hf _ S1 _ m1 H1 h1 g1 r1 rfl⟩
    · exact h1.elim⟩
/-- a if t else b -/
abbrev wIfE (t : PT1) (wa wb : PE1) : PE1 := fun r S W => t r S fun b S1 => if b = true then wa r S1 W else wb r S1 W
/-! ### rows of expressions, tuples, lists -/
abbrev wNil : PA1 := fun _ S W => W [] S
abbrev wCons (wa : PE1) (ws : PA1) : PA1 := fun r S W => wa r S fun x S1 => ws r S1 fun xs S2 => W (x :: xs) S2
theorem wa_nil : WA X [] wNil := ⟨paImp pa_nil fun s H Q ⟨m, r, S, W, hE, hS, hw, hf⟩ => hf [] S [] m H hw Grow.refl hS rfl⟩
theorem wa_cons (ha : WE X e wa) (hr : WA X es was) (hs : starEach (e :: es) X.env = (false, eval e X.env) :: starEach es X.env := by rfl) : WA X (e :: es) (wCons wa was) :=
  ⟨paImp (pa_cons ha.pe hr.pa hs) fun s H Q ⟨m, r, S, W, hE, hS, hw, hf⟩ => up1 hE hS hw fun x S1 v m1 H1 h1 g1 r1 q1 =>
    ⟨m1, r, S1, _, hE.grow g1, r1, h1, fun xs S2 vs m2 H2 h2 g2 r2 q2 => hf _ S2 _ m2 H2 h2 (g1.trans g2) r2 ⟨v, vs, rfl, q1.grow g2, (by
      have back : ∀ {xs : List SV} {vs : List V}, RepVs X.K m2 H2 H1 xs vs → RepVs X.K m2 H2 H xs vs := by
        intro xs
        induction xs with
        | nil => intro vs h; exact h
        | cons y ys ih => intro vs ⟨v, r, e, h, t⟩; exact ⟨v, r, e, h.back g1 r1, ih t⟩
      exact back q2)⟩⟩⟩
/-- a row of values, none of them a new list -/
def rsOf : List SV → Option (List R)
  | [] => some []
  | .r x :: xs => (rsOf xs).map (x :: ·)
  | .f _ :: _ => none
/-- a new list in a row (one at most) is given a number -/
def bindVs : List SV → Sto → (List R → Sto → Prop) → Prop
  | [], S, W => W [] S
  | .r x :: xs, S, W => bindVs xs S fun rs S1 => W (x :: rs) S1
  | .f l :: xs, S, W => match rsOf xs with
    | some rs => W (.loc S.length :: rs) (S ++ [.lst l])
    | none => False
abbrev dataOf : List SV → Option (List D)
  | [] => some []
  | .r (.d x) :: r => (dataOf r).map (x :: ·)
  | _ :: _ => none
theorem RepVs.data {K : PySem.W.Frag} {m : List Addr} {H H0 : Hp} : ∀ {xs : List SV} {vs : List V} {ds : List D}, RepVs K m H H0 xs vs → dataOf xs = some ds → RepDs K H ds vs
  | [], _, _, h, e => by simp [dataOf] at e; subst e; exact h
  | .r (.d x) :: xs, _, ds, ⟨v, r, e1, h, t⟩, e => by
    simp only [dataOf, Option.map_eq_some_iff] at e
    obtain ⟨ds', e2, rfl⟩ := e
    exact ⟨v, r, e1, h, RepVs.data t e2⟩
  | .r (.loc _) :: _, _, _, _, e => by cases e
  | .r (.ro _) :: _, _, _, _, e => by cases e
  | .r (.tr _) :: _, _, _, _, e => by cases e
  | .r (.ex _) :: _, _, _, _, e => by cases e
  | .r (.ad _) :: _, _, _, _, e => by cases e
  | .f _ :: _, _, _, _, e => by cases e
theorem RepVs.len {K : PySem.W.Frag} {m : List Addr} {H H0 : Hp} : ∀ {xs : List SV} {vs : List V}, RepVs K m H H0 xs vs → vs.length = xs.length
  | [], _, h => by cases h; rfl
  | x :: xs, _, ⟨v, r, e, _, t⟩ => by subst e; simp [RepVs.len t]
abbrev wTup (ws : PA1) : PE1 := fun r S W => ws r S fun xs S1 => match dataOf xs with
  | some ds => ds.length ≤ 16777216 ∧ W (.r (.d (.tup ds))) S1
  | none => False
abbrev wLst (ws : PA1) : PE1 := fun r S W => ws r S fun xs S1 => match dataOf xs with
  | some ds => ds.length ≤ 16777216 ∧ W (.f ds) S1
  | none => False
theorem we_tup {x1} (h : WA X es was) : WE X (.Tuple es x1 pos) (wTup was) :=
  ⟨peImp (pe_tup h.pa) fun s H Q ⟨m, r, S, W, hE, hS, hw, hf⟩ => ⟨m, r, S, _, hE, hS, hw, fun xs S1 vs m1 H1 h1 g1 r1 q1 => by
    split at h1
    · rename_i ds e
      have q := q1.data e
      exact ⟨by rw [q.len, sizeLine_eq]; exact h1.1, (hf.later g1 r1).tup r1 q h1.2⟩
    · exact h1.elim⟩⟩
theorem we_lst (h : WA X es was) : WE X (.List es pos) (wLst was) :=
  ⟨peImp (pe_lst h.pa) fun s H Q ⟨m, r, S, W, hE, hS, hw, hf⟩ => ⟨m, r, S, _, hE, hS, hw, fun xs S1 vs m1 H1 h1 g1 r1 q1 => by
    split at h1
    · rename_i ds e
      have q := q1.data e
      exact ⟨by rw [q.len, sizeLine_eq]; exact h1.1, (hf.later g1 r1).lst r1 q h1.2⟩
    · exact h1.elim⟩⟩
/-! ### what a value holds in a row -/
/-- is it a list of the store? -/
abbrev isLo (S : Sto) (n : Nat) : Bool := match S[n]? with
  | some (.lst _) => true
  | _ => false
theorem isLo_get {S : Sto} {n : Nat} (h : isLo S n = true) : ∃ xs, S[n]? = some (.lst xs) := by
  unfold isLo at h
  split at h
  · rename_i xs e; exact ⟨xs, e⟩
  · cases h
/-- the items of a list or a tuple -/
abbrev seqOf (S : Sto) : SV → Option (List D)
  | .r (.d (.tup xs)) => some xs
  | .r (.d (.lst xs)) => some xs
  | .r (.loc n) => match S[n]? with
    | some (.lst xs) => some xs
    | _ => none
  | .r (.ro xs) => some xs
  | .f xs => some xs
  | _ => none
/-- is it a list (no tuple)? -/
def isLst : SV → Bool
  | .r (.loc _) | .r (.ro _) | .f _ | .r (.d (.lst _)) => true
  | _ => false
theorem RepV.seq {K : PySem.W.Frag} {m : List Addr} {H H0 : Hp} {S : Sto} {x : SV} {v : V} {xs : List D} (h : RepV K m H H0 x v) (r : RepS K m H S) (e : seqOf S x = some xs) :
    ∃ a vs, v = .ref a ∧ RepDs K H xs vs ∧ if isLst x = true then SqL K H a vs else SqT K H a vs := by
  cases x with
  | f ys =>
    obtain ⟨a, vs, e1, h1, _, _, h4⟩ := h
    simp only [seqOf, Option.some.injEq] at e; subst e
    exact ⟨a, vs, e1, h4, .inl (.inl h1)⟩
  | r y =>
    cases y with
    | loc n =>
      obtain ⟨a, h1, e1⟩ := h
      simp only [seqOf] at e
      split at e
      · rename_i ys e2
        cases e
        obtain ⟨a', h1', vs, h2, h3⟩ := r.at_ n _ e2
        rw [h1] at h1'; cases h1'
        exact ⟨a, vs, e1, h3, .inl (.inl h2)⟩
      · cases e
    | ro ys =>
      obtain ⟨a, vs, e1, h1, h2⟩ := h
      simp only [seqOf, Option.some.injEq] at e; subst e
      exact ⟨a, vs, e1, h2, h1.sq⟩
    | tr ys => cases e
    | ex z => cases e
    | ad z => cases e
    | d y =>
      cases y with
      | tup ys =>
        obtain ⟨a, vs, e1, h1, h2⟩ := h
        simp only [seqOf, Option.some.injEq] at e; subst e
        exact ⟨a, vs, e1, h2, h1⟩
      | lst ys =>
        obtain ⟨a, vs, e1, h1, h2⟩ := h
        simp only [seqOf, Option.some.injEq] at e; subst e
        exact ⟨a, vs, e1, h2, h1.sq⟩
      | non => cases e
      | bl _ => cases e
      | int _ => cases e
      | str _ => cases e
/-- a list that may be added to: one of the store, or a new one -/
theorem RepV.lst {K : PySem.W.Frag} {m : List Addr} {H H0 : Hp} {S : Sto} {x : SV} {v : V} {xs : List D} (h : RepV K m H H0 x v) (r : RepS K m H S) (e : seqOf S x = some xs) (hl : isLst x = true) (ho : (∀ ys, x ≠ .r (.ro ys)) ∧ ∀ ys, x ≠ .r (.d (.lst ys))) :
    ∃ a vs, v = .ref a ∧ RepDs K H xs vs ∧ H a = some (.lst vs) := by
  cases x with
  | f ys =>
    obtain ⟨a, vs, e1, h1, _, _, h4⟩ := h
    simp only [seqOf, Option.some.injEq] at e; subst e
    exact ⟨a, vs, e1, h4, h1⟩
  | r y =>
    cases y with
    | loc n =>
      obtain ⟨a, h1, e1⟩ := h
      simp only [seqOf] at e
      split at e
      · rename_i ys e2
        cases e
        obtain ⟨a', h1', vs, h2, h3⟩ := r.at_ n _ e2
        rw [h1] at h1'; cases h1'
        exact ⟨a, vs, e1, h3, h2⟩
      · cases e
    | ro ys => exact absurd rfl (ho.1 ys)
    | tr ys => cases e
    | ex z => cases e
    | ad z => cases e
    | d y =>
      cases y with
      | lst ys => exact absurd rfl (ho.2 ys)
      | _ => cases hl
end
end Z
set_option Elab.async false
set_option linter.all false
set_option maxRecDepth 100000
/-! Z3: the operators and built-ins. -/
namespace Z
open PySem PySem.Spec PyProof.Rows L2
section
variable {X : Cx}
/-! ### ints -/
abbrev svi (i : Int) : SV := .r (.d (.int i))
abbrev svb (b : Bool) : SV := .r (.d (.bl b))
abbrev svt (xs : List D) : SV := .r (.d (.tup xs))
abbrev pInt (C : Int → Int → Prop) (g : Int → Int → Int) : P2 := fun x y S W => match x, y with
  | .r (.d (.int i)), .r (.d (.int j)) => C i j ∧ W (.r (.d (.int (g i j)))) S
  | _, _ => False
theorem opp_int {f : Value → Value → Sem Value} {C C' : Int → Int → Prop} {g : Int → Int → Int} (h : OpR X f (rI C' fun i j => .int (g i j))) (hc : ∀ i j, C i j → C' i j) : OpP X f (pInt C g) := by
  refine ⟨_, h, fun x y S W v u m H H0 Q r qx qy w f => ?_⟩
  unfold pInt at w
  split at w
  · rename_i i j
    exact ⟨i, j, qx, qy, hc i j w.1, f.here r (x := svi (g i j)) rfl w.2⟩
  · exact w.elim
structure CDv (i j : Int) : Prop where
  ne : j ≠ 0
  lt : j.natAbs < 2 ^ 9000 ∨ i.natAbs < 2 ^ 13500
theorem noPy_big {x y : Int} (h : x.natAbs.log2 < 13500) : Builtin.divisionGoesByPylong x y = false := by
  have kx : (if x == 0 then 0 else x.natAbs.log2 / 30 + 1) ≤ 450 := by
    by_cases hy : (x == 0) = true
    · rw [if_pos hy]; exact Nat.zero_le _
    · rw [if_neg hy]; omega
  show (decide ((if y == 0 then 0 else y.natAbs.log2 / 30 + 1) > 300) && decide ((if x == 0 then 0 else x.natAbs.log2 / 30 + 1) > (if y == 0 then 0 else y.natAbs.log2 / 30 + 1) + 150)) = false
  generalize (if y == 0 then 0 else y.natAbs.log2 / 30 + 1) = a at *
  generalize (if x == 0 then 0 else x.natAbs.log2 / 30 + 1) = b at *
  rw [Bool.and_eq_false_iff]
  by_cases c : a > 300
  · exact .inr (decide_eq_false (by omega))
  · exact .inl (decide_eq_false c)
/-- sealed: the kernel must not look inside -/
structure MulOk (i j : Int) : Prop where
  ok : IntMulOk i j
def CPw (i j : Int) : Prop := 0 ≤ j ∧ j ≤ 1000000 ∧ (i.natAbs < 2 ^ 64 ∨ (j ≤ 16 ∧ i.natAbs < 2 ^ 60000))
theorem CPw.sz {i j : Int} (h : CPw i j) : (Builtin.Int.intBits i : Int) * j ≤ 2 ^ 27 := by
  obtain ⟨h0, h1, h2 | ⟨h3, h4⟩⟩ := h
  · exact bits_mul_le h2 h0 h1
  · have hb := intBits_le h4
    have : (Builtin.Int.intBits i : Int) * j ≤ 60000 * j := Int.mul_le_mul_of_nonneg_right (by omega) h0
    omega
def CSh (i j : Int) : Prop := 0 ≤ j ∧ (Builtin.Int.intBits i : Int) + j ≤ 2 ^ 27
abbrev pSub : P2 := pInt (fun _ _ => True) fun i j => i - j
abbrev pDiv : P2 := pInt CDv fun i j => i.fdiv j
abbrev pMod : P2 := pInt (fun _ j => j ≠ 0) fun i j => i.fmod j
abbrev pPow : P2 := pInt CPw fun i j => i ^ j.toNat
abbrev pShl : P2 := pInt CSh fun i j => i * 2 ^ j.toNat
theorem op_mulI : OpR X (binaryOp .Mult) (rI MulOk fun i j => .int (i * j)) := opI fun _ _ _ _ _ _ _ hc q => mul_int q hc.ok
theorem op_divI : OpR X (binaryOp .FloorDiv) (rI CDv fun i j => .int (i.fdiv j)) := opI fun _ _ _ _ _ _ _ hc q => floordiv_int hc.1 q (.inl (hc.2.elim (fun h => PyProof.noPylong_of_log2 (PySem.Flt.log2_lt_of (by decide) h)) (fun h => noPy_big (PySem.Flt.log2_lt_of (by decide) h))))
theorem op_shlI : OpR X (binaryOp .LShift) (rI CSh fun i j => .int (i * 2 ^ j.toNat)) := opI fun _ _ _ _ _ _ _ hc q => lshift_int hc.1 hc.2 q
theorem rI0_I {g : Int → Int → V} {f : Value → Value → Sem Value} (h : OpR X f (rI0 g)) : OpR X f (rI (fun _ _ => True) g) := by
  intro pins s σ H x y v u Q I rx ry q
  obtain ⟨i, j, e1, e2, _, q⟩ := q
  exact h pins s σ H x y v u Q I rx ry ⟨i, j, e1, e2, q⟩
theorem o_sub : OpP X (binaryOp .Sub) pSub := opp_int (rI0_I op_sub) fun _ _ h => h
theorem o_div : OpP X (binaryOp .FloorDiv) pDiv := opp_int op_divI fun _ _ h => h
theorem o_mod : OpP X (binaryOp .Mod) pMod := opp_int op_modN fun _ _ h => h
theorem op_powX : OpR X (binaryOp .Pow) (rI CPw fun i j => .int (i ^ j.toNat)) := opI fun _ _ _ _ _ _ _ hc q => pow_int hc.1 hc.sz q
theorem o_pow : OpP X (binaryOp .Pow) pPow := opp_int op_powX fun _ _ h => h
theorem o_shl : OpP X (binaryOp .LShift) pShl := opp_int op_shlI fun _ _ h => h
/-- comparisons of ints -/
abbrev pCmp (g : Int → Int → Bool) : P2 := fun x y S W => match x, y with
  | .r (.d (.int i)), .r (.d (.int j)) => W (.r (.d (.bl (g i j)))) S
  | _, _ => False
theorem opp_cmp {f : Value → Value → Sem Value} {g : Int → Int → Bool} (h : OpR X f (rI0 fun i j => .bl (g i j))) : OpP X f (pCmp g) := by
  refine ⟨_, h, fun x y S W v u m H H0 Q r qx qy w f => ?_⟩
  unfold pCmp at w
  split at w
  · rename_i i j
    exact ⟨i, j, qx, qy, f.here r (x := svb (g i j)) rfl w⟩
  · exact w.elim
abbrev pLt : P2 := pCmp fun i j => decide (i < j)
abbrev pLe : P2 := pCmp fun i j => decide (i ≤ j)
abbrev pGt : P2 := pCmp fun i j => decide (j < i)
abbrev pGe : P2 := pCmp fun i j => decide (j ≤ i)
theorem o_lt : OpP X (compareOp .Lt) pLt := opp_cmp op_lt
theorem o_gt : OpP X (compareOp .Gt) pGt := opp_cmp op_gt
theorem o_ge : OpP X (compareOp .GtE) pGe := opp_cmp op_ge
abbrev pNeg : P1 := fun x S W => match x with
  | .r (.d (.int i)) => W (.r (.d (.int (-i)))) S
  | _ => False
theorem u_neg : UnP X (unaryOp .USub) pNeg := by
  refine ⟨_, un_neg, fun x S W v m H H0 Q r qx w f => ?_⟩
  unfold pNeg at w
  split at w
  · rename_i i
    exact ⟨i, qx, f.here r (x := svi (-i)) rfl w⟩
  · exact w.elim
/-! ### + and * also of rows -/
def wrL : SV → Bool
  | .r (.loc _) | .f _ => true
  | _ => false
theorem wrL_of {x : SV} (h : wrL x = true) : isLst x = true ∧ (∀ ys, x ≠ .r (.ro ys)) ∧ ∀ ys, x ≠ .r (.d (.lst ys)) := by
  cases x with
  | f xs => exact ⟨rfl, (fun _ q => nomatch q), fun _ q => nomatch q⟩
  | r y => cases y with
    | loc n => exact ⟨rfl, (fun _ q => nomatch q), fun _ q => nomatch q⟩
    | d _ => cases h
    | ro _ => cases h
    | tr _ => cases h
    | ex _ => cases h
    | ad _ => cases h
abbrev pAddI : P2 := fun x y S W => match x, y with
  | .r (.d (.int i)), .r (.d (.int j)) => W (.r (.d (.int (i + j)))) S
  | .r (.d (.tup xs)), .r (.d (.tup ys)) => xs.length + ys.length ≤ 16777216 ∧ W (.r (.d (.tup (xs ++ ys)))) S
  | _, _ => False
/-- two lists -/
abbrev pCat : P2 := fun x y S W => match wrL x && wrL y, seqOf S x, seqOf S y with
  | true, some xs, some ys => xs.length + ys.length ≤ 16777216 ∧ W (.f (xs ++ ys)) S
  | _, _, _ => False
theorem o_cat : OpP X (binaryOp .Add) pCat := by
  refine ⟨_, op_cat, fun x y S W v u m H H0 Q r qx qy w f => ?_⟩
  unfold pCat at w
  split at w
  · rename_i xs ys e0 e1 e2
    rw [Bool.and_eq_true] at e0
    obtain ⟨a, vs, rfl, h1, h2⟩ := qx.lst r e1 (wrL_of e0.1).1 (wrL_of e0.1).2
    obtain ⟨b, us, rfl, h3, h4⟩ := qy.lst r e2 (wrL_of e0.2).1 (wrL_of e0.2).2
    exact ⟨a, b, vs, us, rfl, rfl, h2, h4, by rw [h1.len, h3.len, sizeLine_eq]; exact w.1, f.lst r (h1.app h3) w.2⟩
  · exact w.elim
theorem o_addI : OpP X (binaryOp .Add) pAddI := by
  have a1 : OpP X (binaryOp .Add) (pInt (fun _ _ => True) fun i j => i + j) := opp_int (rI0_I op_add) fun _ _ h => h
  have a2 : OpP X (binaryOp .Add) (fun x y S W => ∃ xs ys, x = svt xs ∧ y = svt ys ∧ xs.length + ys.length ≤ 16777216 ∧ W (svt (xs ++ ys)) S) := by
    refine ⟨_, op_catA, fun x y S W v u m H H0 Q r qx qy w f => ?_⟩
    obtain ⟨xs, ys, rfl, rfl, hl, w⟩ := w
    obtain ⟨a, vs, rfl, h1, h2⟩ := qx
    obtain ⟨b, us, rfl, h3, h4⟩ := qy
    refine ⟨a, b, vs, us, rfl, rfl, h1, h3, by rw [RepDs.len h2, RepDs.len h4, sizeLine_eq]; exact hl, fun e => ?_, fun e1 e2 => ?_, fun _ _ => f.tup r (RepDs.app h2 h4) w⟩
    · subst e
      have : xs = [] := by have := RepDs.len h2; simpa using this.symm
      subst this
      exact f.here r (x := svt ys) ⟨b, us, rfl, h3, h4⟩ (by simpa using w)
    · subst e2
      have : ys = [] := by have := RepDs.len h4; simpa using this.symm
      subst this
      exact f.here r (x := svt xs) ⟨a, vs, rfl, h1, h2⟩ (by simpa using w)
  refine (a1.or a2).imp fun x y S W w => ?_
  unfold pAddI at w
  split at w
  · exact .inl ⟨trivial, w⟩
  · exact .inr ⟨_, _, rfl, rfl, w⟩
  · exact w.elim
abbrev pMulI : P2 := fun x y S W => match x, y with
  | .r (.d (.int i)), .r (.d (.int j)) => MulOk i j ∧ W (.r (.d (.int (i * j)))) S
  | .r (.d (.tup xs)), .r (.d (.int k)) => xs ≠ [] ∧ 2 ≤ k ∧ k ≤ 1000 ∧ xs.length ≤ 1000 ∧ W (.r (.d (.tup (List.replicate k.toNat xs).flatten))) S
  | _, _ => False
theorem RepDs.rep {K : PySem.W.Frag} {H : Hp} {xs : List D} {vs : List V} (h : RepDs K H xs vs) : ∀ k : Nat, RepDs K H (List.replicate k xs).flatten (List.replicate k vs).flatten
  | 0 => by simp [RepDs]
  | k + 1 => by
    rw [List.replicate_succ, List.replicate_succ, List.flatten_cons, List.flatten_cons]
    exact h.app (RepDs.rep h k)
theorem o_mulI : OpP X (binaryOp .Mult) pMulI := by
  have a1 : OpP X (binaryOp .Mult) (pInt MulOk fun i j => i * j) := opp_int op_mulI fun _ _ h => h
  have a2 : OpP X (binaryOp .Mult) (fun x y S W => ∃ xs k, x = svt xs ∧ y = svi k ∧ xs ≠ [] ∧ 2 ≤ k ∧ k ≤ 1000 ∧ xs.length ≤ 1000 ∧ W (svt (List.replicate k.toNat xs).flatten) S) := by
    refine ⟨_, op_repT, fun x y S W v u m H H0 Q r qx qy w f => ?_⟩
    obtain ⟨xs, k, rfl, rfl, hne, h1, h2, hl, w⟩ := w
    obtain ⟨a, vs, rfl, h3, h4⟩ := qx
    have hlen := RepDs.len h4
    refine ⟨a, k, vs, rfl, qy, h3, fun e => hne ?_, h1, h2, by rw [hlen]; exact hl, f.tup r (RepDs.rep h4 _) w⟩
    subst e
    simpa using hlen.symm
  refine (a1.or a2).imp fun x y S W w => ?_
  unfold pMulI at w
  split at w
  · exact .inl w
  · exact .inr ⟨_, _, rfl, rfl, w⟩
  · exact w.elim
/-! ### equality -/
mutual
def py : D → PyData
  | .non => .none
  | .bl b => .bool b
  | .int i => .int i
  | .str x => .str x
  | .tup xs => .tuple (pys xs)
  | .lst xs => .list (pys xs)
def pys : List D → List PyData
  | [] => []
  | x :: xs => py x :: pys xs
end
theorem py_plains : ∀ xs : List D, PyData.plainAll (pys xs) = true := by
  have h : (∀ x : D, PyData.plain (py x) = true) ∧ ∀ xs : List D, PyData.plainAll (pys xs) = true := by
    constructor
    · intro x
      exact D.rec (motive_1 := fun x => PyData.plain (py x) = true) (motive_2 := fun xs => PyData.plainAll (pys xs) = true) rfl (fun _ => rfl) (fun _ => rfl) (fun _ => rfl) (fun xs h => by simpa [py, PyData.plain] using h) (fun xs h => by simpa [py, PyData.plain] using h) rfl (fun x xs h1 h2 => by simp [pys, PyData.plainAll, h1, h2]) x
    · intro xs
      exact D.rec_1 (motive_1 := fun x => PyData.plain (py x) = true) (motive_2 := fun xs => PyData.plainAll (pys xs) = true) rfl (fun _ => rfl) (fun _ => rfl) (fun _ => rfl) (fun xs h => by simpa [py, PyData.plain] using h) (fun xs h => by simpa [py, PyData.plain] using h) rfl (fun x xs h1 h2 => by simp [pys, PyData.plainAll, h1, h2]) xs
  exact h.2
theorem py_plain (x : D) : PyData.plain (py x) = true := by
  have := py_plains [x]
  simpa [pys, PyData.plainAll] using this
mutual
theorem RepD.dp {K : PySem.W.Frag} {H : Hp} : ∀ (x : D) (v : V), RepD K H x v → Dp K H v (py x)
  | .non, v, h => by cases h; exact .non
  | .bl b, v, h => by cases h; exact .bl b
  | .int i, v, h => by cases h; exact .int i
  | .str x, v, h => by cases h; exact .str x
  | .tup xs, v, ⟨a, vs, e, h, r⟩ => by subst e; exact .tup h (RepDs.dp xs vs r)
  | .lst xs, v, ⟨a, vs, e, h, r⟩ => by subst e; exact .lst h.sq (RepDs.dp xs vs r)
theorem RepDs.dp {K : PySem.W.Frag} {H : Hp} : ∀ (xs : List D) (vs : List V), RepDs K H xs vs → DpAll K H vs (pys xs)
  | [], v, h => by cases h; exact .nil
  | x :: xs, _, ⟨v, r, e, h, t⟩ => by subst e; exact .cons (RepD.dp x v h) (RepDs.dp xs r t)
end
/-- what the items of a tuple of values read as -/
def pyTr (S : Sto) : List R → Option (List PyData)
  | [] => some []
  | .d x :: r => (pyTr S r).map (py x :: ·)
  | .loc n :: r => match S[n]? with
    | some (.lst xs) => (pyTr S r).map (.list (pys xs) :: ·)
    | _ => none
  | _ :: _ => none
theorem RepRs.pyT {K : PySem.W.Frag} {m : List Addr} {H : Hp} {S : Sto} (r : RepS K m H S) : ∀ {xs : List R} {vs : List V} {ds : List PyData}, RepRs K m H xs vs → pyTr S xs = some ds → DpAll K H vs ds ∧ PyData.plainAll ds = true
  | [], vs, ds, h, e => by cases h; simp only [pyTr, Option.some.injEq] at e; subst e; exact ⟨.nil, rfl⟩
  | .d x :: xs, _, ds, ⟨v, t, e1, h, q⟩, e => by
    subst e1
    simp only [pyTr, Option.map_eq_some_iff] at e
    obtain ⟨ds', e2, rfl⟩ := e
    obtain ⟨h1, h2⟩ := RepRs.pyT r q e2
    exact ⟨.cons (RepD.dp x v h) h1, by simp [PyData.plainAll, py_plain, h2]⟩
  | .loc n :: xs, _, ds, ⟨v, t, e1, ⟨a, h, e0⟩, q⟩, e => by
    subst e1 e0
    simp only [pyTr] at e
    split at e
    · rename_i ys e3
      rw [Option.map_eq_some_iff] at e
      obtain ⟨ds', e2, rfl⟩ := e
      obtain ⟨h1, h2⟩ := RepRs.pyT r q e2
      obtain ⟨a', h', vs, k1, k2⟩ := r.at_ n _ e3
      rw [h] at h'; cases h'
      exact ⟨.cons (.lst (.inl (.inl k1)) (RepDs.dp ys vs k2)) h1, by simp [PyData.plainAll, PyData.plain, py_plains, h2]⟩
    · cases e
  | .ro _ :: _, _, _, _, e => by cases e
  | .ex _ :: _, _, _, _, e => by cases e
  | .ad _ :: _, _, _, _, e => by cases e
  | .tr _ :: _, _, _, _, e => by cases e
/-- what a value reads as -/
def pyOf (S : Sto) : SV → Option PyData
  | .r (.d x) => some (py x)
  | .r (.loc n) => match S[n]? with
    | some (.lst xs) => some (.list (pys xs))
    | _ => none
  | .r (.ro xs) => some (.list (pys xs))
  | .f xs => some (.list (pys xs))
  | .r (.tr xs) => (pyTr S xs).map PyData.tuple
  | .r (.ex _) => none
  | .r (.ad _) => none
theorem RepV.py {K : PySem.W.Frag} {m : List Addr} {H H0 : Hp} {S : Sto} {x : SV} {v : V} {d : PyData} (h : RepV K m H H0 x v) (r : RepS K m H S) (e : pyOf S x = some d) : Dp K H v d ∧ PyData.plain d = true := by
  cases x with
  | f ys =>
    obtain ⟨a, vs, rfl, h1, _, _, h4⟩ := h
    simp only [pyOf, Option.some.injEq] at e; subst e
    exact ⟨.lst (.inl (.inl h1)) (RepDs.dp ys vs h4), by simp [PyData.plain, py_plains]⟩
  | r y =>
    cases y with
    | d y => simp only [pyOf, Option.some.injEq] at e; subst e; exact ⟨RepD.dp y v h, py_plain y⟩
    | tr ys =>
      obtain ⟨a, vs, rfl, h1, h2⟩ := h
      simp only [pyOf, Option.map_eq_some_iff] at e
      obtain ⟨ds, e1, rfl⟩ := e
      obtain ⟨k1, k2⟩ := RepRs.pyT r h2 e1
      exact ⟨.tup h1 k1, by simpa [PyData.plain] using k2⟩
    | ex ys => cases e
    | ad ys => cases e
    | ro ys =>
      obtain ⟨a, vs, rfl, h1, h2⟩ := h
      simp only [pyOf, Option.some.injEq] at e; subst e
      exact ⟨.lst h1.sq (RepDs.dp ys vs h2), by simp [PyData.plain, py_plains]⟩
    | loc n =>
      obtain ⟨a, h1, rfl⟩ := h
      simp only [pyOf] at e
      split at e
      · rename_i ys e2
        cases e
        obtain ⟨a', h1', vs, h2, h3⟩ := r.at_ n _ e2
        rw [h1] at h1'; cases h1'
        exact ⟨.lst (.inl (.inl h2)) (RepDs.dp ys vs h3), by simp [PyData.plain, py_plains]⟩
      · cases e
abbrev pEqB (neg : Bool) : P2 := fun x y S W => match pyOf S x, pyOf S y with
  | some d, some e => min d.depth e.depth ≤ 64 ∧ W (.r (.d (.bl (if neg then !PyData.eqv d e else PyData.eqv d e)))) S
  | _, _ => False
abbrev pEq : P2 := pEqB false
abbrev pNe : P2 := pEqB true
theorem o_eq (hu : X.A.units + 64 < cLine) : OpP X (compareOp .Eq) pEq := by
  refine ⟨fun x y H Q => ∃ d e, Dp X.K H x d ∧ Dp X.K H y e ∧ d.plain = true ∧ e.plain = true ∧ min d.depth e.depth ≤ 64 ∧ Q (.bl (PyData.eqv d e)) H, ?_, fun x y S W v u m H H0 Q r qx qy w f => ?_⟩
  · intro pins s σ H x y v u Q I rx ry h
    obtain ⟨d, e, hd, he, sd, se, hm, q⟩ := h
    obtain ⟨as, r1⟩ := Dp.reads I d x v hd rx
    obtain ⟨bs, r2⟩ := Dp.reads I e y u he ry
    exact SeqAt.eq_plain r1 r2 sd se (by omega) ⟨.bl _, H, I, rfl, q⟩
  · simp only [pEq, pNe, pEqB] at w
    split at w
    · rename_i d e e1 e2
      obtain ⟨h1, h2⟩ := qx.py r e1
      obtain ⟨h3, h4⟩ := qy.py r e2
      exact ⟨d, e, h1, h3, h2, h4, w.1, f.here r (x := svb _) rfl w.2⟩
    · exact w.elim
theorem o_ne (hu : X.A.units + 64 < cLine) : OpP X (compareOp .NotEq) pNe := by
  refine ⟨fun x y H Q => ∃ d e, Dp X.K H x d ∧ Dp X.K H y e ∧ d.plain = true ∧ e.plain = true ∧ min d.depth e.depth ≤ 64 ∧ Q (.bl (!PyData.eqv d e)) H, ?_, fun x y S W v u m H H0 Q r qx qy w f => ?_⟩
  · intro pins s σ H x y v u Q I rx ry h
    obtain ⟨d, e, hd, he, sd, se, hm, q⟩ := h
    obtain ⟨as, r1⟩ := Dp.reads I d x v hd rx
    obtain ⟨bs, r2⟩ := Dp.reads I e y u he ry
    exact SeqAt.ne_plain r1 r2 sd se (by omega) ⟨.bl _, H, I, rfl, q⟩
  · simp only [pEq, pNe, pEqB] at w
    split at w
    · rename_i d e e1 e2
      obtain ⟨h1, h2⟩ := qx.py r e1
      obtain ⟨h3, h4⟩ := qy.py r e2
      exact ⟨d, e, h1, h3, h2, h4, w.1, f.here r (x := svb _) rfl w.2⟩
    · exact w.elim
/-- in, not in: an item of a row -/
abbrev pInB (neg : Bool) : P2 := fun x y S W => match pyOf S x, seqOf S y with
  | some d, some ys => d.depth ≤ 60 ∧ W (.r (.d (.bl (if neg then !((pys ys).any fun z => PyData.eqv z d) else (pys ys).any fun z => PyData.eqv z d)))) S
  | _, _ => False
theorem RepV.reads {K : PySem.W.Frag} {m : List Addr} {H H0 : Hp} {S : Sto} {y : SV} {v : V} {ys : List D} (h : RepV K m H H0 y v) (r : RepS K m H S) (e : seqOf S y = some ys) : Dp K H v (if isLst y = true then .list (pys ys) else .tuple (pys ys)) := by
  obtain ⟨a, vs, rfl, h1, h2⟩ := h.seq r e
  split at h2 <;> rename_i hl
  · rw [if_pos hl]; exact .lst h2 (RepDs.dp ys vs h1)
  · rw [if_neg hl]; exact .tup h2 (RepDs.dp ys vs h1)
theorem o_in (hu : X.A.units + 64 < cLine) : OpP X (compareOp .In) (pInB false) := by
  refine ⟨fun x y H Q => ∃ d ys b, Dp X.K H x d ∧ Dp X.K H y (if b = true then .list ys else .tuple ys) ∧ d.plain = true ∧ PyData.plainAll ys = true ∧ d.depth ≤ 60 ∧ Q (.bl (ys.any fun z => PyData.eqv z d)) H, ?_, fun x y S W v u m H H0 Q r qx qy w f => ?_⟩
  · intro pins s σ H x y v u Q I rx ry h
    obtain ⟨d, ys, b, hd, he, sd, se, hm, q⟩ := h
    obtain ⟨as, r1⟩ := Dp.reads I d x v hd rx
    obtain ⟨bs, r2⟩ := Dp.reads I _ y u he ry
    cases b with
    | true => exact SeqAt.in_list_data r2 r1 se sd (by omega) ⟨.bl _, H, I, rfl, q⟩
    | false => exact SeqAt.in_tuple_data r2 r1 se sd (by omega) ⟨.bl _, H, I, rfl, q⟩
  · unfold pInB at w
    split at w
    · rename_i d ys e1 e2
      obtain ⟨h1, h2⟩ := qx.py r e1
      exact ⟨d, pys ys, isLst y, h1, qy.reads r e2, h2, py_plains ys, w.1, f.here r (x := svb _) rfl w.2⟩
    · exact w.elim
theorem o_nin (hu : X.A.units + 64 < cLine) : OpP X (compareOp .NotIn) (pInB true) := by
  refine ⟨fun x y H Q => ∃ d ys b, Dp X.K H x d ∧ Dp X.K H y (if b = true then .list ys else .tuple ys) ∧ d.plain = true ∧ PyData.plainAll ys = true ∧ d.depth ≤ 60 ∧ Q (.bl (!(ys.any fun z => PyData.eqv z d))) H, ?_, fun x y S W v u m H H0 Q r qx qy w f => ?_⟩
  · intro pins s σ H x y v u Q I rx ry h
    obtain ⟨d, ys, b, hd, he, sd, se, hm, q⟩ := h
    obtain ⟨as, r1⟩ := Dp.reads I d x v hd rx
    obtain ⟨bs, r2⟩ := Dp.reads I _ y u he ry
    cases b with
    | true => exact SeqAt.notIn_list_data r2 r1 se sd (by omega) ⟨.bl _, H, I, rfl, q⟩
    | false => exact SeqAt.notIn_tuple_data r2 r1 se sd (by omega) ⟨.bl _, H, I, rfl, q⟩
  · unfold pInB at w
    split at w
    · rename_i d ys e1 e2
      obtain ⟨h1, h2⟩ := qx.py r e1
      exact ⟨d, pys ys, isLst y, h1, qy.reads r e2, h2, py_plains ys, w.1, f.here r (x := svb _) rfl w.2⟩
    · exact w.elim
/-- is None, is not None -/
def isNon : SV → Bool
  | .r (.d .non) => true
  | _ => false
abbrev pIsN (neg : Bool) : P2 := fun x y S W => match y with
  | .r (.d .non) => W (.r (.d (.bl (if neg then !isNon x else isNon x)))) S
  | _ => False
theorem isNon_of {K : PySem.W.Frag} {m : List Addr} {H H0 : Hp} {x : SV} {v : V} (h : RepV K m H H0 x v) : decide (v = V.non) = isNon x := by
  cases x with
  | f ys => obtain ⟨a, vs, rfl, _⟩ := h; rfl
  | r y =>
    cases y with
    | loc n => obtain ⟨a, _, rfl⟩ := h; rfl
    | ro n => obtain ⟨a, _, rfl, _⟩ := h; rfl
    | tr n => obtain ⟨a, _, rfl, _⟩ := h; rfl
    | ex n => obtain ⟨a, _, rfl, _⟩ := h; rfl
    | ad n => cases h; rfl
    | d y =>
      cases y with
      | non => cases h; rfl
      | bl _ => cases h; rfl
      | int _ => cases h; rfl
      | str _ => cases h; rfl
      | tup _ => obtain ⟨a, _, rfl, _⟩ := h; rfl
      | lst _ => obtain ⟨a, _, rfl, _⟩ := h; rfl
theorem o_isN : OpP X (compareOp .Is) (pIsN false) := by
  refine ⟨_, op_isN, fun x y S W v u m H H0 Q r qx qy w f => ?_⟩
  unfold pIsN at w
  split at w
  · exact ⟨qy, by rw [isNon_of qx]; exact f.here r (x := svb _) rfl w⟩
  · exact w.elim
end
/-! ### items, slices -/
section
variable {X : Cx} {e a b : Expr} {es : List Expr} {pos p2 : Pos} {wa wb wl wh : PE1} {was : PA1}
def getI (xs : List D) (k : Int) : Option D := if 0 ≤ k then xs[k.toNat]? else if -(xs.length : Int) ≤ k then xs[(k + xs.length).toNat]? else none
abbrev pIx : P2 := fun x y S W => match seqOf S x, y with
  | some xs, .r (.d (.int k)) => match getI xs k with
    | some z => W (.r (.d z)) S
    | none => False
  | _, _ => False
theorem RepDs.atI {K : PySem.W.Frag} {H : Hp} {xs : List D} {vs : List V} {k : Int} {z : D} (h : RepDs K H xs vs) (e : getI xs k = some z) : ∃ v, L2.atI vs k = some v ∧ RepD K H z v := by
  unfold getI at e
  unfold L2.atI ixN
  have hl := RepDs.len h
  rw [hl]
  by_cases h0 : 0 ≤ k
  · rw [if_pos h0] at e
    obtain ⟨v, h1, h2⟩ := RepDs.get h e
    have : k.toNat < vs.length := (List.getElem?_eq_some_iff.mp h1).1
    rw [if_pos h0, if_pos (by omega)]
    exact ⟨v, h1, h2⟩
  · rw [if_neg h0] at e
    split at e
    · rename_i h1
      obtain ⟨v, h2, h3⟩ := RepDs.get h e
      rw [if_neg h0, if_pos h1]
      exact ⟨v, h2, h3⟩
    · cases e
theorem we_ix (ha : WE X a wa) (hb : WE X b wb) (hs : PlainIx b) : WE X (.Subscript a b pos) (wBin pIx wa wb) := by
  refine ⟨peImp (pe_ix (ix_list.or ix_tup) ha.pe hb.pe hs) fun s H Q ⟨m, ρ, S, W, hE, hS, hw, hf⟩ => up2 hE hS hw fun x y S2 v u m2 H2 z g2 r2 qx qy => ?_⟩
  unfold pIx at z
  split at z
  · rename_i xs k e1
    split at z
    · rename_i d e2
      obtain ⟨p, vs, rfl, h1, h2⟩ := qx.seq r2 e1
      obtain ⟨w, h3, h4⟩ := RepDs.atI h1 e2
      have fin := hf.later g2 r2
      split at h2
      · exact .inl ⟨p, vs, k, w, rfl, qy, h2, h3, fin.here r2 (x := .r (.d d)) h4 z⟩
      · exact .inr ⟨p, vs, k, w, rfl, qy, h2, h3, fin.here r2 (x := .r (.d d)) h4 z⟩
    · exact z.elim
  · exact z.elim
/-- a slice's bound -/
structure WO (X : Cx) (e : Option Expr) (w : Rho → Sto → (Option Int → Sto → Prop) → Prop) : Prop where
  po : PO X e (fun s H Q => ∃ m r S W, RepE X.K m H r s ∧ RepS X.K m H S ∧ w r S W ∧ ∀ o S' m' H', W o S' → Grow m H m' H' → RepS X.K m' H' S' → Q o H')
abbrev wNo : Rho → Sto → (Option Int → Sto → Prop) → Prop := fun _ S W => W none S
abbrev wSome (w : PE1) : Rho → Sto → (Option Int → Sto → Prop) → Prop := fun r S W => w r S fun x S1 => match x with
  | .r (.d (.int i)) => W (some i) S1
  | _ => False
theorem wo_none : WO X none wNo := ⟨⟨fun pins s z H Q I ⟨m, r, S, W, hE, hS, hw, hf⟩ => (po_none (X := X)).run pins s z H Q I (hf none S m H hw Grow.refl hS)⟩⟩
theorem wo_some (h : WE X e wa) : WO X (some e) (wSome wa) := ⟨⟨fun pins s z H Q I ⟨m, r, S, W, hE, hS, hw, hf⟩ => (po_some h.pe).run pins s z H Q I (up1 hE hS hw fun x S1 v m1 H1 h1 g1 r1 q1 => by
    split at h1
    · rename_i i
      exact ⟨i, q1, hf _ S1 m1 H1 h1 g1 r1⟩
    · exact h1.elim)⟩⟩
def cutD (xs : List D) (lo hi : Option Int) : List D := (xs.drop (HT.sIx xs.length 0 lo)).take (HT.sIx xs.length xs.length hi - HT.sIx xs.length 0 lo)
abbrev wSl (wa : PE1) (wl wh : Rho → Sto → (Option Int → Sto → Prop) → Prop) : PE1 := fun r S W => wa r S fun x S1 => wl r S1 fun lo S2 => wh r S2 fun hi S3 => match seqOf S3 x with
  | some xs => W (if isLst x then .f (cutD xs lo hi) else .r (.d (.tup (cutD xs lo hi)))) S3
  | none => False
theorem RepDs.cut {K : PySem.W.Frag} {H : Hp} {xs : List D} {vs : List V} (h : RepDs K H xs vs) (lo hi : Option Int) : RepDs K H (cutD xs lo hi) (cutV vs lo hi) := by
  unfold cutD cutV
  rw [RepDs.len h]
  exact (h.drop _).take _
theorem cut_whole {xs : List D} {lo hi : Option Int} (h : HT.sIx xs.length 0 lo = 0 ∧ HT.sIx xs.length xs.length hi = xs.length) : cutD xs lo hi = xs := by
  unfold cutD
  rw [h.1, h.2]; simp
theorem we_slice {lo hi : Option Expr} {wl wh : Rho → Sto → (Option Int → Sto → Prop) → Prop} (ha : WE X a wa) (hl : WO X lo wl) (hh : WO X hi wh) : WE X (.Subscript a (.Slice lo hi none p2) pos) (wSl wa wl wh) := by
  refine ⟨peImp (pe_slice (sl_list.or sl_tupA) ha.pe hl.po hh.po) fun s H Q ⟨m, ρ, S, W, hE, hS, hw, hf⟩ => up1 hE hS hw fun x S1 v m1 H1 h1 g1 r1 q1 => ?_⟩
  refine ⟨m1, ρ, S1, _, hE.grow g1, r1, h1, fun lo S2 m2 H2 h2 g2 r2 => ⟨m2, ρ, S2, _, (hE.grow g1).grow g2, r2, h2, fun hi S3 m3 H3 h3 g3 r3 => ?_⟩⟩
  split at h3
  · rename_i xs e
    have g13 := g2.trans g3
    obtain ⟨p, vs, rfl, k1, k2⟩ := (q1.grow g13).seq r3 e
    have fin := hf.later (g1.trans g13) r3
    have hc := k1.cut lo hi
    split at k2 <;> rename_i hl
    · rw [if_pos hl] at h3
      exact .inl ⟨p, vs, rfl, k2, fin.lst r3 hc h3⟩
    · rw [if_neg hl] at h3
      refine .inr ⟨p, vs, rfl, k2, fun hw => ?_, fun _ => fin.tup r3 hc h3⟩
      rw [RepDs.len k1] at hw
      rw [cut_whole hw] at h3
      exact fin.here r3 (x := svt xs) ⟨p, vs, rfl, k2, k1⟩ h3
  · exact h3.elim
/-! ### built-in functions -/
abbrev PF := List SV → Sto → PK1 → Prop
def FnP (X : Cx) (f : Value) (rp : PF) : Prop :=
  ∃ r : List V → Hp → VK → Prop, CallR X f r ∧ ∀ xs S W vs m H H0 Q, RepS X.K m H S → RepVs X.K m H H0 xs vs → rp xs S W → Fin X.K m H W Q → r vs H Q
abbrev wFn (rp : PF) (ws : PA1) : PE1 := fun r S W => ws r S fun xs S1 => rp xs S1 W
theorem we_blt {id : String} {x : Str} {p : Pos} {rp : PF} (hc : FnP X (.builtin id) rp) (hg : Gl X x) (hm : X.mg x = none) (hv : bootBuiltins x = some (.builtin id)) (ha : WA X (e :: es) was) (hn : x ≠ "__name__" := by decide) (hdb : (x == ("__debug__" : Str)) = false := by decide)
    (he : starEach (e :: es) X.env = (false, eval e X.env) :: starEach es X.env := by rfl) (hpl : (backTo pos (starEach es X.env)).any (·.1) = false := by rfl) : WE X (.Call (.Name x p) (e :: es) [] pos) (wFn rp was) := by
  obtain ⟨r, h1, h2⟩ := hc
  exact ⟨peImp (pe_callB h1 hg hm hv ha.pa hn hdb he hpl) fun s H Q ⟨m, ρ, S, W, hE, hS, hw, hf⟩ => ⟨m, ρ, S, _, hE, hS, hw, fun xs S1 vs m1 H1 k1 g1 r1 q1 => h2 xs S1 W vs m1 H1 H Q r1 q1 k1 (hf.later g1 r1)⟩⟩
theorem we_ty {T : String} {x : Str} {p : Pos} {rp : PF} (hc : FnP X (.type T) rp) (hg : Gl X x) (hm : X.mg x = none) (hv : bootBuiltins x = some (.type T)) (ha : WA X (e :: es) was) (hn : x ≠ "__name__" := by decide) (hdb : (x == ("__debug__" : Str)) = false := by decide)
    (he : starEach (e :: es) X.env = (false, eval e X.env) :: starEach es X.env := by rfl) (hpl : (backTo pos (starEach es X.env)).any (·.1) = false := by rfl) : WE X (.Call (.Name x p) (e :: es) [] pos) (wFn rp was) := by
  obtain ⟨r, h1, h2⟩ := hc
  exact ⟨peImp (pe_callTy h1 hg hm hv ha.pa hn hdb he hpl) fun s H Q ⟨m, ρ, S, W, hE, hS, hw, hf⟩ => ⟨m, ρ, S, _, hE, hS, hw, fun xs S1 vs m1 H1 k1 g1 r1 q1 => h2 xs S1 W vs m1 H1 H Q r1 q1 k1 (hf.later g1 r1)⟩⟩
theorem RepVs.one {K : PySem.W.Frag} {m : List Addr} {H H0 : Hp} {x : SV} {vs : List V} (h : RepVs K m H H0 [x] vs) : ∃ v, vs = [v] ∧ RepV K m H H0 x v := by
  obtain ⟨v, r, e, h1, h2⟩ := h; cases h2; exact ⟨v, e, h1⟩
theorem RepVs.two {K : PySem.W.Frag} {m : List Addr} {H H0 : Hp} {x y : SV} {vs : List V} (h : RepVs K m H H0 [x, y] vs) : ∃ v u, vs = [v, u] ∧ RepV K m H H0 x v ∧ RepV K m H H0 y u := by
  obtain ⟨v, r, rfl, h1, h2⟩ := h
  obtain ⟨u, rfl, h3⟩ := RepVs.one h2
  exact ⟨v, u, rfl, h1, h3⟩
abbrev fLen : PF := fun xs S W => match xs with
  | [x] => match seqOf S x with
    | some ys => W (.r (.d (.int ys.length))) S
    | none => False
  | _ => False
theorem f_len : FnP X (.builtin "len") fLen := by
  refine ⟨_, call_len_seq, fun xs S W vs m H H0 Q r q w f => ?_⟩
  unfold fLen at w
  split at w
  · rename_i x
    obtain ⟨v, rfl, q1⟩ := q.one
    split at w
    · rename_i ys e
      obtain ⟨p, us, rfl, h1, h2⟩ := q1.seq r e
      refine ⟨p, us, rfl, ?_, ?_⟩
      · split at h2
        · exact .inl h2
        · exact .inr h2
      · rw [RepDs.len h1]; exact f.here r (x := svi _) rfl w
    · exact w.elim
  · exact w.elim
abbrev fTup : PF := fun xs S W => match xs with
  | [x] => match seqOf S x with
    | some ys => W (.r (.d (.tup ys))) S
    | none => False
  | _ => False
theorem f_tup : FnP X (.type "tuple") fTup := by
  refine ⟨_, call_tuple_of, fun xs S W vs m H H0 Q r q w f => ?_⟩
  unfold fTup at w
  split at w
  · rename_i x
    obtain ⟨v, rfl, q1⟩ := q.one
    split at w
    · rename_i ys e
      obtain ⟨p, us, rfl, h1, h2⟩ := q1.seq r e
      refine ⟨p, us, rfl, ?_⟩
      split at h2
      · exact .inl ⟨h2, f.tup r h1 w⟩
      · exact .inr ⟨h2, f.here r (x := svt ys) ⟨p, us, rfl, h2, h1⟩ w⟩
    · exact w.elim
  · exact w.elim
abbrev fList : PF := fun xs S W => match xs with
  | [x] => match seqOf S x with
    | some ys => W (.f ys) S
    | none => False
  | _ => False
theorem f_list : FnP X (.type "list") fList := by
  refine ⟨_, call_list_of, fun xs S W vs m H H0 Q r q w f => ?_⟩
  unfold fList at w
  split at w
  · rename_i x
    obtain ⟨v, rfl, q1⟩ := q.one
    split at w
    · rename_i ys e
      obtain ⟨p, us, rfl, h1, h2⟩ := q1.seq r e
      refine ⟨p, us, rfl, ?_, f.lst r h1 w⟩
      split at h2
      · exact .inl h2
      · exact .inr h2
    · exact w.elim
  · exact w.elim
/-- the ints of a row -/
def intsOf : List D → Option (List Int)
  | [] => some []
  | .int i :: r => (intsOf r).map (i :: ·)
  | _ :: _ => none
theorem intsOf_map : ∀ ns : List Int, intsOf (ns.map D.int) = some ns
  | [] => rfl
  | n :: ns => by simp [intsOf, intsOf_map ns]
theorem ints_eq : ∀ {xs : List D} {ns : List Int}, intsOf xs = some ns → xs = ns.map D.int
  | [], ns, h => by simp [intsOf] at h; subst h; rfl
  | .int i :: xs, ns, h => by
    simp only [intsOf, Option.map_eq_some_iff] at h
    obtain ⟨r, h1, rfl⟩ := h
    rw [ints_eq h1]; rfl
  | .non :: _, _, h => by cases h
  | .bl _ :: _, _, h => by cases h
  | .str _ :: _, _, h => by cases h
  | .tup _ :: _, _, h => by cases h
  | .lst _ :: _, _, h => by cases h
theorem RepDs.toInts {K : PySem.W.Frag} {H : Hp} : ∀ {ns : List Int} {vs : List V}, RepDs K H (ns.map D.int) vs → vs = ns.map V.int
  | [], _, h => h
  | n :: ns, _, ⟨v, r, e, h, t⟩ => by subst e; rw [RepDs.toInts t, show v = V.int n from h]; rfl
theorem repInts {K : PySem.W.Frag} {H : Hp} : ∀ ns : List Int, RepDs K H (ns.map D.int) (ns.map V.int)
  | [] => rfl
  | n :: ns => ⟨_, _, rfl, rfl, repInts ns⟩
abbrev fSum : PF := fun xs S W => match xs with
  | [x] => match isLst x, (seqOf S x).bind intsOf with
    | true, some ns => W (.r (.d (.int ns.sum))) S
    | _, _ => False
  | _ => False
theorem f_sum (hc : X.calm = true) : FnP X (.builtin "sum") fSum := by
  refine ⟨_, cr_sum hc, fun xs S W vs m H H0 Q r q w f => ?_⟩
  unfold fSum at w
  split at w
  · rename_i x
    obtain ⟨v, rfl, q1⟩ := q.one
    split at w
    · rename_i ns hl e
      rw [Option.bind_eq_some_iff] at e
      obtain ⟨ys, e1, e2⟩ := e
      rw [ints_eq e2] at e1
      obtain ⟨p, us, rfl, h1, h2⟩ := q1.seq r e1
      rw [if_pos hl] at h2
      rw [RepDs.toInts h1] at h2
      exact ⟨p, ns, rfl, h2, f.here r (x := svi _) rfl w⟩
    · exact w.elim
  · exact w.elim
abbrev fAbs : PF := fun xs S W => match xs with
  | [.r (.d (.int i))] => W (.r (.d (.int i.natAbs))) S
  | _ => False
theorem f_abs : FnP X (.builtin "abs") fAbs := by
  refine ⟨_, call_abs, fun xs S W vs m H H0 Q r q w f => ?_⟩
  unfold fAbs at w
  split at w
  · rename_i i
    obtain ⟨v, rfl, q1⟩ := q.one
    obtain rfl : v = V.int i := q1
    refine ⟨i, rfl, ?_⟩
    have e : (if i < 0 then -i else i) = (i.natAbs : Int) := by split <;> omega
    rw [e]
    exact f.here r (x := svi _) rfl w
  · exact w.elim
abbrev fMax2 : PF := fun xs S W => match xs with
  | [.r (.d (.int i)), .r (.d (.int j))] => W (.r (.d (.int (max i j)))) S
  | _ => False
abbrev fMin2 : PF := fun xs S W => match xs with
  | [.r (.d (.int i)), .r (.d (.int j))] => W (.r (.d (.int (min i j)))) S
  | _ => False
abbrev fInt : PF := fun xs S W => match xs with
  | [.r (.d (.int i))] => W (.r (.d (.int i))) S
  | [.r (.d (.bl b))] => W (.r (.d (.int (if b = true then 1 else 0)))) S
  | _ => False
theorem f_int : FnP X (.type "int") fInt := by
  refine ⟨_, call_int1, fun xs S W vs m H H0 Q r q w f => ?_⟩
  unfold fInt at w
  split at w
  · rename_i i
    obtain ⟨v, rfl, q1⟩ := q.one
    obtain rfl : v = V.int i := q1
    exact .inl ⟨i, rfl, f.here r (x := svi _) rfl w⟩
  · rename_i b
    obtain ⟨v, rfl, q1⟩ := q.one
    obtain rfl : v = V.bl b := q1
    exact .inr ⟨b, rfl, f.here r (x := svi _) rfl w⟩
  · exact w.elim
/-! ### isinstance with a built-in type -/
def tyN : SV → String
  | .r (.d .non) => "NoneType"
  | .r (.d (.bl _)) => "bool"
  | .r (.d (.int _)) => "int"
  | .r (.d (.str _)) => "str"
  | .r (.d (.tup _)) => "tuple"
  | .r (.d (.lst _)) => "list"
  | .r (.tr _) => "tuple"
  | .r (.loc _) => "list"
  | .r (.ro _) => "list"
  | .r (.ex _) => "list"
  | .r (.ad _) => "list"
  | .f _ => "list"
/-- is it one of the type T? -/
def isT (T : String) (x : SV) : Bool := tyN x == T || (tyN x == "bool" && T == "int")
theorem kit_tys : ∀ a ∈ ["NoneType", "bool", "int", "str", "tuple", "list"], ∀ b ∈ ["bool", "int", "str", "tuple", "list"], kitB a b = some (a == b || (a == "bool" && b == "int")) := by decide +kernel
theorem tyN_mem (x : SV) : tyN x ∈ ["NoneType", "bool", "int", "str", "tuple", "list"] := by
  cases x with
  | f _ => simp [tyN]
  | r y => cases y with
    | d y => cases y <;> simp [tyN]
    | loc _ => simp [tyN]
    | ro _ => simp [tyN]
    | tr _ => simp [tyN]
    | ex _ => simp [tyN]
    | ad _ => simp [tyN]
theorem tyx_tup {K : PySem.W.Frag} {H : Hp} {a : Addr} {vs : List V} (h : SqT K H a vs) : TyX K H (.ref a) (.type "tuple") := by
  rcases h with (h | ⟨o, h⟩) | ⟨o, its, n, h, hc, _⟩
  · exact .base (.tup h)
  · exact .fTuple h
  · exact .kTuple h hc
theorem RepV.ty {K : PySem.W.Frag} {m : List Addr} {H H0 : Hp} {S : Sto} {x : SV} {v : V} (h : RepV K m H H0 x v) (r : RepS K m H S) (hl : ∀ n, x = .r (.loc n) → isLo S n = true) (hx : (∀ z, x ≠ .r (.ex z)) ∧ ∀ z, x ≠ .r (.ad z)) : TyX K H v (.type (tyN x)) := by
  cases x with
  | f ys => obtain ⟨a, vs, rfl, h1, _⟩ := h; exact .base (.lst h1)
  | r y =>
    cases y with
    | loc n =>
      obtain ⟨a, h1, rfl⟩ := h
      obtain ⟨xs, e⟩ := isLo_get (hl n rfl)
      obtain ⟨a', h2, vs, h4, _⟩ := r.at_ n _ e
      rw [h1] at h2; cases h2
      exact .base (.lst h4)
    | ro ys =>
      obtain ⟨a, vs, rfl, h1, h2⟩ := h
      rcases h1 with ⟨o, h1⟩ | ⟨o, its, n, h1, hc, _⟩
      · exact .base (.frz h1)
      · exact .kList h1 hc
    | tr ys => obtain ⟨a, vs, rfl, h1, h2⟩ := h; exact tyx_tup h1
    | ex z => exact absurd rfl (hx.1 z)
    | ad z => exact absurd rfl (hx.2 z)
    | d y =>
      cases y with
      | non => cases h; exact .base .non
      | bl b => cases h; exact .base (.bl b)
      | int i => cases h; exact .base (.int i)
      | str i => cases h; exact .base (.str i)
      | tup ys => obtain ⟨a, vs, rfl, h1, h2⟩ := h; exact tyx_tup h1
      | lst ys =>
        obtain ⟨a, vs, rfl, h1, h2⟩ := h
        rcases h1 with ⟨o, h1⟩ | ⟨o, its, n, h1, hc, _⟩
        · exact .base (.frz h1)
        · exact .kList h1 hc
abbrev wIsi (T : String) (wa : PE1) : PE1 := fun r S W => wa r S fun x S1 => match x with
  | .r (.ex _) => False
  | .r (.ad _) => False
  | x => (∀ n, x = .r (.loc n) → isLo S1 n = true) ∧ W (.r (.d (.bl (isT T x)))) S1
theorem we_isi {T : String} {x : Str} {p q : Pos} (hT : T ∈ ["bool", "int", "str", "tuple", "list"]) (hg : Gl X "isinstance") (hm : X.mg "isinstance" = none) (hgT : Gl X x) (hmT : X.mg x = none) (hvT : bootBuiltins x = some (.type T)) (ha : WE X a wa)
    (he : starEach (a :: [.Name x q]) X.env = (false, eval a X.env) :: starEach [.Name x q] X.env := by rfl) (he2 : starEach [.Name x q] X.env = (false, eval (.Name x q) X.env) :: starEach [] X.env := by rfl)
    (hpl : (backTo pos (starEach [.Name x q] X.env)).any (·.1) = false := by rfl) (hn : x ≠ "__name__" := by decide) (hd : (x == ("__debug__" : Str)) = false := by decide) : WE X (.Call (.Name "isinstance" p) [a, .Name x q] [] pos) (wIsi T wa) := by
  refine ⟨peImp (pe_callB call_isi hg hm boot_isinstance (pa_cons ha.pe (pa_cons (pe_bltn (v := .ty T) hgT hmT hvT rfl hn hd) pa_nil he2) he) (by decide) (by decide) he hpl) fun s H Q ⟨m, ρ, S, W, hE, hS, hw, hf⟩ => up1 hE hS hw fun x S1 v m1 H1 k1 g1 r1 q1 => ?_⟩
  obtain ⟨hx, hl, w⟩ : ((∀ z, x ≠ .r (.ex z)) ∧ ∀ z, x ≠ .r (.ad z)) ∧ (∀ n, x = .r (.loc n) → isLo S1 n = true) ∧ W (.r (.d (.bl (isT T x)))) S1 := by
    split at k1
    · exact k1.elim
    · exact k1.elim
    · rename_i hn hm
      exact ⟨⟨fun z e => hn z e, fun z e => hm z e⟩, k1⟩
  refine ⟨v, .ty T, .type (tyN x), .type T, isT T x, rfl, .ty T, q1.ty r1 hl hx, kit_ty (kit_tys _ (tyN_mem x) T hT), (hf.later g1 r1).here r1 (x := svb _) rfl w⟩
end
end Z
set_option Elab.async false
set_option linter.all false
set_option maxRecDepth 100000
/-! Z4: statements, targets, loops, comprehensions. -/
namespace Z
open PySem PySem.Spec PyProof.Rows L2
/-- what is wanted behind a statement -/
structure En where
  nx : Rho → Sto → Prop
  rt : R → Sto → Prop
  bk : Rho → Sto → Prop := fun _ _ => False
  ct : Rho → Sto → Prop := fun _ _ => False
abbrev PS1 := En → Rho → Sto → Prop
structure Fins (K : PySem.W.Frag) (m : List Addr) (H : Hp) (N : En) (D : Ends) : Prop where
  nx : ∀ r' S' s' m' H', N.nx r' S' → Grow m H m' H' → RepE K m' H' r' s' → RepS K m' H' S' → D.nx s' H'
  rt : ∀ x S' v m' H', N.rt x S' → Grow m H m' H' → RepS K m' H' S' → RepR K m' H' x v → D.rt v H'
  bk : ∀ r' S' s' m' H', N.bk r' S' → Grow m H m' H' → RepE K m' H' r' s' → RepS K m' H' S' → D.bk s' H'
  ct : ∀ r' S' s' m' H', N.ct r' S' → Grow m H m' H' → RepE K m' H' r' s' → RepS K m' H' S' → D.ct s' H'
def upS (K : PySem.W.Frag) (w : PS1) : TS := fun D s H => ∃ m r S N, RepE K m H r s ∧ RepS K m H S ∧ w N r S ∧ Fins K m H N D
structure WS (X : Cx) (st : Stmt) (w : PS1) : Prop where
  ps : PS X st (upS X.K w)
structure WSs (X : Cx) (st : List Stmt) (w : PS1) : Prop where
  pss : PSs X st (upS X.K w)
section
variable {K : PySem.W.Frag} {m m0 m1 m2 : List Addr} {H H0 H1 H2 : Hp} {S S1 S2 : Sto} {N : En} {D : Ends}
theorem Fins.later (f : Fins K m H N D) (g : Grow m H m1 H1) : Fins K m1 H1 N D :=
  ⟨fun r' S' s' m' H' n g' e r => f.nx r' S' s' m' H' n (g.trans g') e r, fun x S' v m' H' n g' r q => f.rt x S' v m' H' n (g.trans g') r q,
   fun r' S' s' m' H' n g' e r => f.bk r' S' s' m' H' n (g.trans g') e r, fun r' S' s' m' H' n g' e r => f.ct r' S' s' m' H' n (g.trans g') e r⟩
mutual
theorem RepR.pre (g : ∀ (n : Nat) a, m[n]? = some a → m1[n]? = some a) : ∀ (x : R) (v : V), RepR K m H x v → RepR K m1 H x v
  | .d _, _, h => h
  | .loc n, _, ⟨a, h, e⟩ => ⟨a, g n a h, e⟩
  | .ro _, _, h => h
  | .tr xs, _, ⟨a, vs, e, h, r⟩ => ⟨a, vs, e, h, RepRs.pre g xs vs r⟩
  | .ex _, _, h => h
  | .ad _, _, h => h
theorem RepRs.pre (g : ∀ (n : Nat) a, m[n]? = some a → m1[n]? = some a) : ∀ (xs : List R) (vs : List V), RepRs K m H xs vs → RepRs K m1 H xs vs
  | [], _, h => h
  | x :: xs, _, ⟨v, r, e, h, t⟩ => ⟨v, r, e, RepR.pre g x v h, RepRs.pre g xs r t⟩
end
theorem pre_push {p : Addr} : ∀ (n : Nat) a, m[n]? = some a → (m ++ [p])[n]? = some a := fun n a e => by
  rw [List.getElem?_append_left (List.getElem?_eq_some_iff.mp e).1]; exact e
/-- a new list is given a number -/
abbrev bindV (x : SV) (S : Sto) (W : R → Sto → Prop) : Prop := match x with
  | .r y => W y S
  | .f xs => W (.loc S.length) (S ++ [.lst xs])
theorem bindV_ok {x : SV} {v : V} {W : R → Sto → Prop} (g : Grow m0 H0 m H) (r : RepS K m H S) (q : RepV K m H H0 x v) (w : bindV x S W) :
    ∃ y S' m', W y S' ∧ Grow m0 H0 m' H ∧ RepS K m' H S' ∧ RepR K m' H y v ∧ ∀ (n : Nat) a, m[n]? = some a → m'[n]? = some a := by
  cases x with
  | r y => exact ⟨y, S, m, w, g, r, q, fun _ _ h => h⟩
  | f xs =>
    obtain ⟨a, vs, e, h1, h2, h3, h4⟩ := q
    exact ⟨_, _, m ++ [a], w, Grow.push h3 g, r.push h2 h1 h4, ⟨a, by rw [← r.len]; simp, e⟩, pre_push⟩
theorem RepE.set {r : Rho} {s : L2.St} {i : Nat} {x : R} {v : V} (h : RepE K m H r s) (q : RepR K m H x v) : RepE K m H (r.set i (some x)) (s.set i (some v)) := by
  refine ⟨by simp [h.len], fun j y e => ?_⟩
  by_cases hj : i = j
  · subst hj
    have hl : i < r.length := by
      by_cases hl : i < r.length
      · exact hl
      · rw [List.getElem?_eq_none (by simpa using hl)] at e; cases e
    rw [List.getElem?_set_self hl] at e
    cases e
    exact ⟨v, by rw [List.getElem?_set_self (by rw [h.len]; exact hl)], q⟩
  · rw [List.getElem?_set_ne hj] at e
    obtain ⟨u, h1, h2⟩ := h.at_ j y e
    exact ⟨u, by rw [List.getElem?_set_ne hj]; exact h1, h2⟩
end
section
variable {X : Cx} {st : Stmt} {rest : List Stmt} {e a b c : Expr} {pos p2 : Pos} {wa wb we wi : PE1} {ws : PA1} {t u : PS1} {tc : PT1}
theorem psImp {t t' : TS} (h : PS X st t) (k : ∀ D s H, t' D s H → t D s H) : PS X st t' := ⟨fun pins s z H D I q => h.run pins s z H D I (k _ _ _ q)⟩
theorem pssImp {sts : List Stmt} {t t' : TS} (h : PSs X sts t) (k : ∀ D s H, t' D s H → t D s H) : PSs X sts t' := ⟨fun pins s z H D I q => h.run pins s z H D I (k _ _ _ q)⟩
/-! ### small statements -/
abbrev wNext : PS1 := fun N r S => N.nx r S
abbrev wSeq (t u : PS1) : PS1 := fun N r S => t { N with nx := u N } r S
theorem ws_nil : WSs X [] wNext := ⟨pssImp pss_nil fun D s H ⟨m, r, S, N, hE, hS, hw, hf⟩ => hf.nx r S s m H hw Grow.refl hE hS⟩
theorem ws_cons (h1 : WS X st t) (h2 : WSs X rest u) : WSs X (st :: rest) (wSeq t u) :=
  ⟨pssImp (pss_cons h1.ps h2.pss) fun D s H ⟨m, r, S, N, hE, hS, hw, hf⟩ => ⟨m, r, S, _, hE, hS, hw, ⟨fun r' S' s' m' H' n g e q => ⟨m', r', S', N, e, q, n, hf.later g⟩, hf.rt, hf.bk, hf.ct⟩⟩⟩
theorem ws_one (h1 : WS X st t) : WSs X [st] t := ⟨pss_one h1.ps⟩
abbrev wRet (w : PE1) : PS1 := fun N r S => w r S fun x S1 => bindV x S1 N.rt
theorem ws_ret (h : WE X e we) : WS X (.Return (some e) pos) (wRet we) := ⟨psImp (ps_ret h.pe) fun D s H ⟨m, r, S, N, hE, hS, hw, hf⟩ => ⟨m, r, S, _, hE, hS, hw, fun x S1 v m1 H1 h1 g1 r1 q1 => by
  obtain ⟨y, S2, m2, w2, g2, r2, q2, _⟩ := bindV_ok g1 r1 q1 h1
  exact hf.rt y S2 v m2 H1 w2 g2 r2 q2⟩⟩
abbrev wRetN : PS1 := fun N r S => N.rt (.d .non) S
abbrev wDrop (w : PE1) : PS1 := fun N r S => w r S fun _ S1 => N.nx r S1
theorem ws_drop (h : WE X e we) (hs : swapsWith e none pos.line X.env = pure false := by rfl) : WS X (.Expr e pos) (wDrop we) := ⟨psImp (ps_expr h.pe hs) fun D s H ⟨m, r, S, N, hE, hS, hw, hf⟩ => ⟨m, r, S, _, hE, hS, hw, fun x S1 v m1 H1 h1 g1 r1 q1 => hf.nx r S1 s m1 H1 h1 g1 (hE.grow g1) r1⟩⟩
abbrev wIf (c : PT1) (t u : PS1) : PS1 := fun N r S => c r S fun b S1 => if b = true then t N r S1 else u N r S1
theorem ws_if {p q : List Stmt} (hc : WT X c tc) (ha : WSs X p t) (hb : WSs X q u) : WS X (.If c p q pos) (wIf tc t u) := ⟨psImp (ps_if hc.pt ha.pss hb.pss) fun D s H ⟨m, r, S, N, hE, hS, hw, hf⟩ => ⟨m, r, S, _, hE, hS, hw, fun b S1 m1 H1 h1 g1 r1 => by
  cases b with
  | true => exact ⟨m1, r, S1, N, hE.grow g1, r1, h1, hf.later g1⟩
  | false => exact ⟨m1, r, S1, N, hE.grow g1, r1, h1, hf.later g1⟩⟩⟩
/-- name = value -/
abbrev wSet (i : Nat) (w : PE1) : PS1 := fun N r S => w r S fun x S1 => bindV x S1 fun y S2 => N.nx (r.set i (some y)) S2
theorem set_fin {D : Ends} {s : L2.St} {H : Hp} {i : Nat} {te : TE} (h : ∀ Q, up X.K we s H Q → te s H Q) (hw : upS X.K (wSet i we) D s H) : tAsg te (gName i) D s H := by
  obtain ⟨m, r, S, N, hE, hS, hw, hf⟩ := hw
  refine h _ ⟨m, r, S, _, hE, hS, hw, fun x S1 v m1 H1 h1 g1 r1 q1 => ?_⟩
  obtain ⟨y, S2, m2, w2, g2, r2, q2, _⟩ := bindV_ok g1 r1 q1 h1
  exact hf.nx _ S2 _ m2 H1 w2 g2 ((hE.grow g2).set q2) r2
theorem ws_set {i : Nat} {x : Str} {pos' : Pos} (hN : X.N.Nodup) (hi : X.N[i]? = some x) (hx : Loc X.env.scope x) (he : WE X e we) (hs : swapsWith e (some (.Name x pos')) pos.line X.env = pure false := by rfl) (hf : X.fn x = true ∨ X.env.scope.names.lookup x = some .local := by first | exact .inl rfl | exact .inr rfl | assumption) :
    WS X (.Assign [.Name x pos'] e pos) (wSet i we) := ⟨psImp (ps_set hN hi hx he.pe hs hf) fun D s H hw => set_fin (fun _ h => h) hw⟩
/-- a, b = x, y on one line, both plain locals -/
abbrev wPar (i j : Nat) (ws : PA1) : PS1 := fun N r S => ws r S fun xs S1 => match xs with
  | [.r x, .r y] => N.nx ((r.set i (some x)).set j (some y)) S1
  | _ => False
theorem ws_par {i j : Nat} {x y : Str} {px py pt : Pos} {kt k2 pt2} (hc : X.calm = true) (hN : X.N.Nodup) (hi : X.N[i]? = some x) (hj : X.N[j]? = some y) (hij : i ≠ j)
    (hx : X.env.scope.names.lookup x = some .local) (hy : X.env.scope.names.lookup y = some .local) (ha : WA X [a, b] ws)
    (hw : swappedStores [.Tuple [.Name x px, .Name y py] kt pt] (.Tuple [a, b] k2 pt2) X.env = pure (some [x, y]))
    (hs : swapsWithSole [.Tuple [.Name x px, .Name y py] kt pt] (.Tuple [a, b] k2 pt2) pos.line X.env = pure false := by rfl) :
    WS X (.Assign [.Tuple [.Name x px, .Name y py] kt pt] (.Tuple [a, b] k2 pt2) pos) (wPar i j ws) :=
  ⟨psImp (ps_par hc hN hi hj hij hx hy ha.pa hw hs) fun D s H ⟨m, r, S, N, hE, hS, hw, hf⟩ => ⟨m, r, S, _, hE, hS, hw, fun xs S1 vs m1 H1 h1 g1 r1 q1 => by
    split at h1
    · obtain ⟨v, u, rfl, qx, qy⟩ := q1.two
      exact ⟨v, u, rfl, hf.nx _ S1 _ m1 H1 h1 g1 (((hE.grow g1).set qx).set qy) r1⟩
    · exact h1.elim⟩⟩
/-- name op= value, ints -/
abbrev wAug (i : Nat) (g : Int → Int → Int) (w : PE1) : PS1 := fun N r S => match r[i]? with
  | some (some (.d (.int k))) => w r S fun x S1 => match x with
    | .r (.d (.int l)) => N.nx (r.set i (some (.d (.int (g k l))))) S1
    | _ => False
  | _ => False
/-! ### targets of names -/
/-- a target stores at the slots vs, what f tells -/
structure Tgt (K : PySem.W.Frag) (g : TG) (vs : List Nat) (f : R → Rho → Option Rho) : Prop where
  run : ∀ m H x v r r' (s : L2.St), RepR K m H x v → RepE K m H r s → f x r = some r' → ∃ s', (∀ Q : L2.St → Hp → Prop, Q s' H → g v s H Q) ∧ RepE K m H r' s' ∧ (∀ us : List Nat, (∀ i ∈ vs, i ∈ us) → wipe s' us = wipe s us)
theorem wipe_set {s : L2.St} {i : Nat} {o : Option V} : ∀ {us : List Nat}, i ∈ us → wipe (s.set i o) us = wipe s us
  | [], h => nomatch h
  | u :: us, h => by
    unfold wipe
    by_cases hu : i ∈ us
    · rw [wipe_set hu]
    · have e : i = u := by
        rcases List.mem_cons.mp h with e | e
        · exact e
        · exact absurd e hu
      subst e
      have out : ∀ {us : List Nat} {s : L2.St}, i ∉ us → (wipe (s.set i o) us).set i none = (wipe s us).set i none := by
        intro us
        induction us with
        | nil => intro s _; unfold wipe; rw [List.set_set]
        | cons w us ih =>
          intro s hw
          have h1 : w ≠ i := fun e => hw (by simp [e])
          have h2 : i ∉ us := fun e => hw (by simp [e])
          show ((wipe (s.set i o) us).set w none).set i none = ((wipe s us).set w none).set i none
          rw [List.set_comm _ _ h1, ih h2, List.set_comm _ _ h1]
      exact out hu
abbrev fNm (i : Nat) : R → Rho → Option Rho := fun x r => some (r.set i (some x))
theorem tg_name {K : PySem.W.Frag} (i : Nat) : Tgt K (gName i) [i] (fNm i) := ⟨fun m H x v r r' s q hE e => by
  cases e
  exact ⟨s.set i (some v), fun Q h => h, hE.set q, fun us hu => wipe_set (hu i (by simp))⟩⟩
/-- several targets, by the items -/
structure Tgts (K : PySem.W.Frag) (g : TGs) (vs : List Nat) (f : List R → Rho → Option Rho) : Prop where
  run : ∀ m H xs us r r' (s : L2.St), RepRs K m H xs us → RepE K m H r s → f xs r = some r' → ∃ s', (∀ Q : L2.St → Hp → Prop, Q s' H → g us s H Q) ∧ RepE K m H r' s' ∧ (∀ us : List Nat, (∀ i ∈ vs, i ∈ us) → wipe s' us = wipe s us)
abbrev fNil : List R → Rho → Option Rho := fun xs r => match xs with
  | [] => some r
  | _ => none
abbrev fCons (f : R → Rho → Option Rho) (fs : List R → Rho → Option Rho) : List R → Rho → Option Rho := fun xs r => match xs with
  | x :: xs => (f x r).bind fun r1 => fs xs r1
  | [] => none
theorem tgs_nil {K : PySem.W.Frag} : Tgts K gNil [] fNil := ⟨fun m H xs us r r' s q hE e => by
  unfold fNil at e
  split at e
  · cases e; exact ⟨s, fun Q h => ⟨q, h⟩, hE, fun _ _ => rfl⟩
  · cases e⟩
theorem tgs_cons {K : PySem.W.Frag} {g : TG} {gs : TGs} {vs ws : List Nat} {f : R → Rho → Option Rho} {fs : List R → Rho → Option Rho} (h : Tgt K g vs f) (k : Tgts K gs ws fs) : Tgts K (gCons g gs) (vs ++ ws) (fCons f fs) := ⟨fun m H xs us r r' s q hE e => by
  unfold fCons at e
  split at e
  · rename_i x xs
    rw [Option.bind_eq_some_iff] at e
    obtain ⟨r1, e1, e2⟩ := e
    obtain ⟨v, w, e3, q1, q2⟩ := q
    obtain ⟨s1, h1, h2, h3⟩ := h.run m H x v r r1 s q1 hE e1
    obtain ⟨s2, k1, k2, k3⟩ := k.run m H xs w r1 r' s1 q2 h2 e2
    exact ⟨s2, fun Q hq => ⟨v, w, e3, h1 _ (k1 Q hq)⟩, k2, fun us hu => (k3 us fun i hi => hu i (List.mem_append_right _ hi)).trans (h3 us fun i hi => hu i (List.mem_append_left _ hi))⟩
  · cases e⟩
abbrev fTp (n : Nat) (fs : List R → Rho → Option Rho) : R → Rho → Option Rho := fun x r => match x with
  | .d (.tup xs) => if xs.length = n then fs (xs.map R.d) r else none
  | .tr xs => if xs.length = n then fs xs r else none
  | _ => none
theorem repR_map {K : PySem.W.Frag} {m : List Addr} {H : Hp} : ∀ {xs : List D} {vs : List V}, RepDs K H xs vs → RepRs K m H (xs.map R.d) vs
  | [], _, h => h
  | x :: xs, _, ⟨v, r, e, h, t⟩ => ⟨v, r, e, h, repR_map t⟩
theorem tg_tup {K : PySem.W.Frag} {gs : TGs} {ws : List Nat} {n : Nat} {fs : List R → Rho → Option Rho} (k : Tgts K gs ws fs) : Tgt K (gTup K n gs) ws (fTp n fs) := ⟨fun m H x v r r' s q hE e => by
  unfold fTp at e
  split at e
  · split at e
    · rename_i xs hl
      obtain ⟨a, vs, e1, h1, h2⟩ := q
      obtain ⟨s2, k1, k2, k3⟩ := k.run m H _ vs r r' s (repR_map h2) hE e
      exact ⟨s2, fun Q hq => ⟨a, vs, e1, h1, by rw [RepDs.len h2]; exact hl, k1 Q hq⟩, k2, k3⟩
    · cases e
  · split at e
    · rename_i xs hl
      obtain ⟨a, vs, e1, h1, h2⟩ := q
      obtain ⟨s2, k1, k2, k3⟩ := k.run m H _ vs r r' s h2 hE e
      exact ⟨s2, fun Q hq => ⟨a, vs, e1, h1, by rw [RepRs.len h2]; exact hl, k1 Q hq⟩, k2, k3⟩
    · cases e
  · cases e⟩
/-- (a, b, ..) = value -/
abbrev wUnp (f : R → Rho → Option Rho) (w : PE1) : PS1 := fun N r S => w r S fun x S1 => bindV x S1 fun y S2 => match f y r with
  | some r' => N.nx r' S2
  | none => False
theorem ws_unp {tg : Expr} {g : TG} {vs : List Nat} {f : R → Rho → Option Rho} (he : WE X e we) (hg : PG X tg g) (ht : Tgt X.K g vs f) (hs : swapsWithSole [tg] e pos.line X.env = pure false := by rfl) (hw : swappedStores [tg] e X.env = pure none := by rfl)
    (h1 : (assignEach [tg] X.env).map (·.2) = [assign tg X.env] := by rfl) : WS X (.Assign [tg] e pos) (wUnp f we) :=
  ⟨psImp (ps_asg he.pe hg hs hw h1) fun D s H ⟨m, r, S, N, hE, hS, hw, hf⟩ => ⟨m, r, S, _, hE, hS, hw, fun x S1 v m1 H1 h1 g1 r1 q1 => by
    obtain ⟨y, S2, m2, w2, g2, r2, q2, _⟩ := bindV_ok g1 r1 q1 h1
    split at w2
    · rename_i r' e1
      obtain ⟨s', k1, k2, _⟩ := ht.run m2 H1 y v r r' s q2 (hE.grow g2) e1
      exact k1 _ (hf.nx r' S2 s' m2 H1 w2 g2 k2 r2)
    · exact w2.elim⟩⟩
/-- a[i] = value -/
def ixD (n : Nat) (k : Int) : Option Nat := if 0 ≤ k then (if k < n then some k.toNat else none) else if -(n : Int) ≤ k then some (k + n).toNat else none
abbrev wStI (wo wi we : PE1) : PS1 := fun N r S => we r S fun x S1 => wo r S1 fun o S2 => wi r S2 fun k S3 => match o, k, x with
  | .r (.loc n), .r (.d (.int k)), .r (.d z) => match S3[n]? with
    | some (.lst xs) => match ixD xs.length k with
      | some j => N.nx r (S3.set n (.lst (xs.set j z)))
      | none => False
    | _ => False
  | _, _, _ => False
theorem ws_stI {o i : Expr} {wo : PE1} (ho : WE X o wo) (hi : WE X i wi) (he : WE X e we) (hs : swapsWithSole [.Subscript o i p2] e pos.line X.env = pure false := by rfl) (hw : swappedStores [.Subscript o i p2] e X.env = pure none := by rfl)
    (h1 : (assignEach [.Subscript o i p2] X.env).map (·.2) = [assign (.Subscript o i p2) X.env] := by rfl)
    (ha : ∀ v, assign (.Subscript o i p2) X.env v = (do
      let ov ← holding [v] (eval o X.env)
      let iv ← holding [v, ov] (eval i X.env)
      standAt p2
      holding [v, ov, iv] (setItem ov iv v)
      release [v, ov, iv] []) := by intro _; rfl) : WS X (.Assign [.Subscript o i p2] e pos) (wStI wo wi we) :=
  ⟨psImp (ps_asg he.pe (pg_sub ho.pe hi.pe set_list ha) hs hw h1) fun D s H ⟨m, r, S, N, hE, hS, hw, hf⟩ => up1 hE hS hw fun x S1 v m1 H1 h1 g1 r1 q1 => up2 (hE.grow g1) r1 h1 fun y z S3 u w m3 H3 h3 g3 r3 qo qi => by
    split at h3
    · rename_i n k d
      split at h3
      · rename_i xs e1
        split at h3
        · rename_i j e2
          obtain ⟨a, k1, rfl⟩ := qo
          obtain ⟨a', k1', vs, k2, k3⟩ := r3.at_ n _ e1
          rw [k1] at k1'; cases k1'
          have qd : RepD X.K H3 d v := RepD.grow g3 d v q1
          refine ⟨a, vs, k, j, rfl, qi, k2, ?_, ?_⟩
          · rw [RepDs.len k3]; exact e2
          · have gw := Grow.write (m := m3) (vs' := vs.set j v) k1 k2
            exact hf.nx r _ s m3 _ h3 ((g1.trans g3).trans gw) (((hE.grow g1).grow g3).grow gw) (r3.write k1 k2 (k3.set j qd))
        · exact h3.elim
      · exact h3.elim
    · exact h3.elim⟩
end
end Z
set_option Elab.async false
set_option linter.all false
set_option maxRecDepth 100000
/-! Z5: loops, what is walked, comprehensions, list methods. -/
namespace Z
open PySem PySem.Spec PyProof.Rows L2 RZ
/-! ### leaving what is no longer wanted -/
mutual
def noLoc : R → Bool
  | .loc _ => false
  | .tr xs => noLocs xs
  | .d _ => true
  | .ro _ => true
  | .ex _ => true
  | .ad _ => true
def noLocs : List R → Bool
  | [] => true
  | x :: r => noLoc x && noLocs r
end
section
variable {K : PySem.W.Frag} {m m1 : List Addr} {H : Hp}
mutual
theorem RepR.free : ∀ (x : R) (v : V), noLoc x = true → RepR K m H x v → RepR K m1 H x v
  | .d _, _, _, h => h
  | .loc _, _, n, _ => by simp [noLoc] at n
  | .ro _, _, _, h => h
  | .tr xs, _, n, ⟨a, vs, e, h, r⟩ => ⟨a, vs, e, h, RepRs.free xs vs (by simpa [noLoc] using n) r⟩
  | .ex _, _, _, h => h
  | .ad _, _, _, h => h
theorem RepRs.free : ∀ (xs : List R) (vs : List V), noLocs xs = true → RepRs K m H xs vs → RepRs K m1 H xs vs
  | [], _, _, h => h
  | x :: xs, _, n, ⟨v, r, e, h, t⟩ => by
    rw [noLocs, Bool.and_eq_true] at n
    exact ⟨v, r, e, RepR.free x v n.1 h, RepRs.free xs r n.2 t⟩
end
end
def kept (ls : List Nat) : Option R → Option R
  | some (.d x) => some (.d x)
  | some (.ro x) => some (.ro x)
  | some (.ex x) => some (.ex x)
  | some (.ad x) => some (.ad x)
  | some (.tr xs) => if noLocs xs = true then some (.tr xs) else none
  | some (.loc n) => if n ∈ ls then some (.loc (ls.idxOf n)) else none
  | _ => none
/-- the store is what stood at the numbers ls, renumbered in this order; the first k stay -/
def Cut (k : Nat) (r : Rho) (S : Sto) (r' : Rho) (S' : Sto) : Prop :=
  (r' = r ∧ S' = S) ∨ ∃ ls : List Nat, ls.Nodup ∧ ls.take k = List.range k ∧ (∀ n ∈ ls, n < S.length) ∧ r' = r.map (kept ls) ∧ S' = ls.filterMap (S[·]?)
theorem Cut.refl {k : Nat} {r : Rho} {S : Sto} : Cut k r S r S := .inl ⟨rfl, rfl⟩
theorem Cut.to {k n : Nat} {r : Rho} {S : Sto} (h : k ≤ n) (h2 : n ≤ S.length) : Cut k r S (r.map (kept (List.range n))) (S.take n) := by
  refine .inr ⟨List.range n, List.nodup_range, ?_, fun i hi => ?_, rfl, ?_⟩
  · rw [List.take_range, Nat.min_eq_left h]
  · have := List.mem_range.mp hi; omega
  · symm
    clear h
    induction n with
    | zero => simp
    | succ n ih =>
      have hn : n < S.length := by omega
      rw [List.range_succ, List.filterMap_append, ih (by omega), List.take_add_one, List.getElem?_eq_getElem hn, List.filterMap_cons, List.getElem?_eq_getElem hn]
      rfl
section
variable {K : PySem.W.Frag} {m m0 m1 m2 : List Addr} {H H0 H1 H2 : Hp} {S S' S1 S2 : Sto} {r r' : Rho} {N : En} {D : Ends}
theorem filterMap_get {α : Type} {S : List α} : ∀ {ls : List Nat}, (∀ n ∈ ls, n < S.length) → ∀ i : Nat, (ls.filterMap (S[·]?))[i]? = ls[i]?.bind (S[·]?)
  | [], _, i => by simp
  | n :: ls, h, i => by
    have hn := h n (by simp)
    rw [List.filterMap_cons, List.getElem?_eq_getElem hn]
    cases i with
    | zero => simp
    | succ i => simpa using filterMap_get (ls := ls) (fun k hk => h k (by simp [hk])) i
theorem filterMap_len {α : Type} {S : List α} : ∀ {ls : List Nat}, (∀ n ∈ ls, n < S.length) → (ls.filterMap (S[·]?)).length = ls.length
  | [], _ => rfl
  | n :: ls, h => by
    have hn := h n (by simp)
    rw [List.filterMap_cons, List.getElem?_eq_getElem hn]
    simpa using filterMap_len (ls := ls) (fun k hk => h k (by simp [hk]))
theorem Cut.ok {k : Nat} {s : L2.St} (c : Cut k r S r' S') (hk : m0.length = k) (g : Grow m0 H0 m H) (hE : RepE K m H r s) (hS : RepS K m H S) :
    ∃ m', Grow m0 H0 m' H ∧ RepE K m' H r' s ∧ RepS K m' H S' := by
  rcases c with ⟨rfl, rfl⟩ | ⟨ls, nd, pre, lt, rfl, rfl⟩
  · exact ⟨m, g, hE, hS⟩
  · have lt' : ∀ n ∈ ls, n < m.length := fun n hn => by rw [hS.len]; exact lt n hn
    have get : ∀ i : Nat, (ls.filterMap (m[·]?))[i]? = ls[i]?.bind (m[·]?) := filterMap_get lt'
    have sub : ∀ b, b ∈ ls.filterMap (m[·]?) → b ∈ m := fun b hb => by
      obtain ⟨n, _, e⟩ := List.mem_filterMap.mp hb
      exact List.mem_of_getElem? e
    have at_ : ∀ n, n ∈ ls → (ls.filterMap (m[·]?))[ls.idxOf n]? = m[n]? := fun n hn => by
      rw [get, List.getElem?_eq_getElem (List.idxOf_lt_length_iff.mpr hn)]
      simp
    refine ⟨ls.filterMap (m[·]?), ⟨fun n a e => ?_, g.tup, g.frz, g.xt, g.frame, fun b hb hn => g.new b (sub b hb) hn, g.tb⟩, ⟨by simp [hE.len], fun i x e => ?_⟩, ⟨?_, ?_, fun n o e => ?_, hS.tab⟩⟩
    · have hn : n < k := by rw [← hk]; exact (List.getElem?_eq_some_iff.mp e).1
      have : ls[n]? = some n := by
        have h1 : (ls.take k)[n]? = some n := by rw [pre]; simp [hn]
        rw [List.getElem?_take_of_lt hn] at h1
        exact h1
      rw [get, this]
      exact g.pre n a e
    · rw [List.getElem?_map, Option.map_eq_some_iff] at e
      obtain ⟨o, e1, e2⟩ := e
      cases o with
      | none => cases e2
      | some y =>
        obtain ⟨v, h1, h2⟩ := hE.at_ i y e1
        refine ⟨v, h1, ?_⟩
        cases y with
        | d z => cases e2; exact h2
        | ro z => cases e2; exact h2
        | ex z => cases e2; exact h2
        | ad z => cases e2; exact h2
        | tr z =>
          simp only [kept] at e2
          split at e2
          · rename_i hn
            cases e2
            exact RepR.free (.tr z) v (by simpa [noLoc] using hn) h2
          · cases e2
        | loc n =>
          simp only [kept] at e2
          split at e2
          · rename_i hn
            cases e2
            obtain ⟨a, h3, h4⟩ := h2
            exact ⟨a, by rw [at_ n hn]; exact h3, h4⟩
          · cases e2
    · have inj : ∀ {ls : List Nat}, ls.Nodup → (∀ n ∈ ls, n < m.length) → (ls.filterMap (m[·]?)).Nodup := by
        intro ls
        induction ls with
        | nil => intro _ _; simp
        | cons n ls ih =>
          intro h1 h2
          rw [List.filterMap_cons, List.getElem?_eq_getElem (h2 n (by simp))]
          refine List.nodup_cons.mpr ⟨fun hm => ?_, ih (List.nodup_cons.mp h1).2 fun k hk => h2 k (by simp [hk])⟩
          obtain ⟨j, hj, e⟩ := List.mem_filterMap.mp hm
          obtain ⟨l1, e1⟩ := List.getElem?_eq_some_iff.mp e
          have := (List.getElem_inj hS.nd).mp e1
          subst this
          exact (List.nodup_cons.mp h1).1 hj
      exact inj nd lt'
    · rw [filterMap_len lt', filterMap_len lt]
    · rw [filterMap_get lt, Option.bind_eq_some_iff] at e
      obtain ⟨j, e1, e2⟩ := e
      obtain ⟨a, h1, h2⟩ := hS.at_ j o e2
      exact ⟨a, by rw [get, e1]; exact h1, h2⟩
end
section
variable {X : Cx} {st : Stmt} {body : List Stmt} {e a b c iter tg : Expr} {es : List Expr} {pos p2 : Pos} {wa wb we wi : PE1} {ws was : PA1} {t u tb : PS1} {tc tt : PT1}
/-! ### while -/
/-- I: the invariant by a measure that falls -/
abbrev wWhile (t : PT1) (body : PS1) : PS1 := fun N r S => ∃ I : Nat → Rho → Sto → Prop, (∃ n, I n r S) ∧ ∀ n r1 S1, I n r1 S1 →
  t r1 S1 fun b S2 => if b = true then body { nx := fun r2 S3 => ∃ r3 S4, Cut S.length r2 S3 r3 S4 ∧ ∃ k, k < n ∧ I k r3 S4, rt := N.rt, bk := N.nx, ct := fun r2 S3 => ∃ r3 S4, Cut S.length r2 S3 r3 S4 ∧ ∃ k, k < n ∧ I k r3 S4 } r1 S2 else N.nx r1 S2
theorem ws_while (hp : PassesOwn (model X.prog X.w) X.A X.env X.xe) (hc : WT X c tc) (hb : WSs X body tb) : WS X (.While c body [] pos) (wWhile tc tb) :=
  ⟨psImp (ps_while hp hc.pt hb.pss) fun D s H ⟨m, r, S, N, hE, hS, hw, hf⟩ => by
    obtain ⟨I, ⟨n, h0⟩, step⟩ := hw
    refine ⟨fun k s1 H1 => ∃ m1 r1 S1, Grow m H m1 H1 ∧ RepE X.K m1 H1 r1 s1 ∧ RepS X.K m1 H1 S1 ∧ I k r1 S1, ⟨n, m, r, S, Grow.refl, hE, hS, h0⟩, ?_⟩
    rintro k s1 H1 ⟨m1, r1, S1, g1, e1, q1, i1⟩
    refine ⟨m1, r1, S1, _, e1, q1, step k r1 S1 i1, fun b S2 m2 H2 h2 g2 r2 => ?_⟩
    cases b with
    | false =>
      rw [if_neg Bool.false_ne_true]
      exact hf.nx r1 S2 s1 m2 H2 h2 (g1.trans g2) (e1.grow g2) r2
    | true =>
      rw [if_pos rfl] at h2 ⊢
      have again : ∀ r3 S3 s3 m3 H3, (∃ r4 S4, Cut S.length r3 S3 r4 S4 ∧ ∃ j, j < k ∧ I j r4 S4) → Grow m2 H2 m3 H3 → RepE X.K m3 H3 r3 s3 → RepS X.K m3 H3 S3 →
          ∃ m', m' < k ∧ ∃ m1 r1 S1, Grow m H m1 H3 ∧ RepE X.K m1 H3 r1 s3 ∧ RepS X.K m1 H3 S1 ∧ I m' r1 S1 := fun r3 S3 s3 m3 H3 ⟨r4, S4, cu, j, hj, i4⟩ g3 e3 q3 => by
        obtain ⟨m4, g4, e4, q4⟩ := cu.ok hS.len ((g1.trans g2).trans g3) e3 q3
        exact ⟨j, hj, m4, r4, S4, g4, e4, q4, i4⟩
      refine ⟨fun s3 H3 => ∃ m', m' < k ∧ ∃ m1 r1 S1, Grow m H m1 H3 ∧ RepE X.K m1 H3 r1 s3 ∧ RepS X.K m1 H3 S1 ∧ I m' r1 S1, fun s3 H3 h => h, m2, r1, S2, _, e1.grow g2, r2, h2, ⟨again, ?_, ?_, again⟩⟩
      · exact fun x S' v m' H' n g' q' w' => hf.rt x S' v m' H' n ((g1.trans g2).trans g') q' w'
      · exact fun r' S' s' m' H' n g' e' q' => hf.nx r' S' s' m' H' n ((g1.trans g2).trans g') e' q'⟩
/-! ### what is walked -/
structure It1 where
  items : List R
  chk : Sto → Prop := fun _ => True
structure ItOk (K : PySem.W.Frag) (m0 : List Addr) (H0 : Hp) (J : It) (it : It1) : Prop where
  run : ∀ (i : Nat) m H S, Grow m0 H0 m H → RepS K m H S → it.chk S →
    (∀ x, it.items[i]? = some x → J.go i H ∧ ∀ v H', J.yld i H v H' → Grow m H m H' ∧ RepS K m H' S ∧ RepR K m H' x v) ∧ (it.items[i]? = none → J.stop i H)
abbrev PI1 := Rho → Sto → (It1 → Sto → Prop) → Prop
def upI (K : PySem.W.Frag) (w : PI1) : TI := fun s H R => ∃ m r S W, RepE K m H r s ∧ RepS K m H S ∧ w r S W ∧ ∀ it S' m' H' J, W it S' → Grow m H m' H' → RepS K m' H' S' → ItOk K m' H' J it → R J H'
structure WI (X : Cx) (tg iter : Expr) (w : PI1) : Prop where
  pi : PI X tg iter (upI X.K w)
theorem piImp {ti ti' : TI} (h : PI X tg iter ti) (k : ∀ s H R, ti' s H R → ti s H R) : PI X tg iter ti' := ⟨fun pins s z H R I q => h.run pins s z H R I (k _ _ _ q)⟩
/-- the items of a value, and what must stay as it is while they are walked -/
abbrev itOf (S : Sto) (x : SV) : Option It1 := match x with
  | .r (.loc n) => match S[n]? with
    | some (.lst xs) => some ⟨xs.map R.d, fun S => S[n]? = some (.lst xs)⟩
    | _ => none
  | .r (.tr xs) => some { items := xs }
  | x => (seqOf S x).map fun xs => { items := xs.map R.d }
/-- at each later state the value stands as it stood -/
theorem itOf_seq {K : PySem.W.Frag} {m0 : List Addr} {H0 Hs : Hp} {S : Sto} {x : SV} {v : V} {it : It1} (e : itOf S x = some it) (q : RepV K m0 H0 Hs x v) (r : RepS K m0 H0 S) :
    ∃ a, v = .ref a ∧ ∀ m H S', Grow m0 H0 m H → RepS K m H S' → it.chk S' → ∃ vs, RepRs K m H it.items vs ∧ if isLst x = true then SqL K H a vs else SqT K H a vs := by
  cases x with
  | f ys =>
    simp only [itOf, seqOf, Option.map_some, Option.some.injEq] at e
    subst e
    obtain ⟨a, _, rfl, _⟩ := id q
    refine ⟨a, rfl, fun m H S' g r' _ => ?_⟩
    obtain ⟨b, vs, eb, h1, h2⟩ := (q.grow g).seq r' (x := .f ys) rfl
    cases eb
    exact ⟨vs, repR_map h1, h2⟩
  | r y =>
    cases y with
    | ex ys => simp [itOf, seqOf] at e
    | ad ys => simp [itOf, seqOf] at e
    | tr ys =>
      simp only [itOf, Option.some.injEq] at e
      subst e
      obtain ⟨a, vs, rfl, h1, h2⟩ := q
      exact ⟨a, rfl, fun m H S' g r' _ => ⟨vs, RepRs.grow g _ _ h2, by rw [if_neg (by simp [isLst])]; exact rd_tup g h1⟩⟩
    | ro ys =>
      simp only [itOf, seqOf, Option.map_some, Option.some.injEq] at e
      subst e
      obtain ⟨a, vs, rfl, h1, h2⟩ := q
      exact ⟨a, rfl, fun m H S' g r' _ => ⟨vs, repR_map (RepDs.grow g _ _ h2), by rw [if_pos (by simp [isLst])]; exact (h1.grow g).sq⟩⟩
    | loc n =>
      obtain ⟨a, h1, rfl⟩ := q
      simp only [itOf] at e
      split at e
      · rename_i xs e1
        cases e
        refine ⟨a, rfl, fun m H S' g r' hc => ?_⟩
        obtain ⟨a', h2, vs, h3, h4⟩ := r'.at_ n _ hc
        rw [g.pre n a h1] at h2; cases h2
        exact ⟨vs, repR_map h4, by rw [if_pos (by simp [isLst])]; exact .inl (.inl h3)⟩
      · cases e
    | d y =>
      cases y with
      | tup ys =>
        simp only [itOf, seqOf, Option.map_some, Option.some.injEq] at e
        subst e
        obtain ⟨a, vs, rfl, h1, h2⟩ := q
        exact ⟨a, rfl, fun m H S' g r' _ => ⟨vs, repR_map (RepDs.grow g _ _ h2), by rw [if_neg (by simp [isLst])]; exact rd_tup g h1⟩⟩
      | lst ys =>
        simp only [itOf, seqOf, Option.map_some, Option.some.injEq] at e
        subst e
        obtain ⟨a, vs, rfl, h1, h2⟩ := q
        exact ⟨a, rfl, fun m H S' g r' _ => ⟨vs, repR_map (RepDs.grow g _ _ h2), by rw [if_pos (by simp [isLst])]; exact (h1.grow g).sq⟩⟩
      | non => simp [itOf, seqOf] at e
      | bl _ => simp [itOf, seqOf] at e
      | int _ => simp [itOf, seqOf] at e
      | str _ => simp [itOf, seqOf] at e
abbrev wIt (w : PE1) : PI1 := fun r S W => w r S fun x S1 => match itOf S1 x with
  | some it => W it S1
  | none => False
theorem itok_lst {K : PySem.W.Frag} {m0 : List Addr} {H0 : Hp} {a : Addr} {it : It1} (h : ∀ m H S', Grow m0 H0 m H → RepS K m H S' → it.chk S' → ∃ vs, RepRs K m H it.items vs ∧ SqL K H a vs) : ItOk K m0 H0 (Itl K a) it :=
  ⟨fun i m H S g r hc => by
    obtain ⟨vs, h1, h2⟩ := h m H S g r hc
    refine ⟨fun x e => ?_, fun e => ⟨vs, h2, ?_⟩⟩
    · obtain ⟨v, h3, h4⟩ := RepRs.get h1 e
      refine ⟨⟨vs, v, h2, h3⟩, fun u H' ⟨e1, e2⟩ => ?_⟩
      subst e1
      have := (e2 vs h2).symm.trans h3
      cases this
      exact ⟨Grow.refl, r, h4⟩
    · rw [RepRs.len h1]; exact List.getElem?_eq_none_iff.mp e⟩
theorem itok_tup {K : PySem.W.Frag} {m0 : List Addr} {H0 : Hp} {a : Addr} {it : It1} (h : ∀ m H S', Grow m0 H0 m H → RepS K m H S' → it.chk S' → ∃ vs, RepRs K m H it.items vs ∧ SqT K H a vs) : ItOk K m0 H0 (Itt K a) it :=
  ⟨fun i m H S g r hc => by
    obtain ⟨vs, h1, h2⟩ := h m H S g r hc
    refine ⟨fun x e => ?_, fun e => ⟨vs, h2, ?_⟩⟩
    · obtain ⟨v, h3, h4⟩ := RepRs.get h1 e
      refine ⟨⟨vs, v, h2, h3⟩, fun u H' ⟨e1, e2⟩ => ?_⟩
      subst e1
      have := (e2 vs h2).symm.trans h3
      cases this
      exact ⟨Grow.refl, r, h4⟩
    · rw [RepRs.len h1]; exact List.getElem?_eq_none_iff.mp e⟩
/-- a for over any of these, decided behind the evaluation -/
theorem pi_seq {te : TE} (he : PE X e te) : PI X tg e (fun s H R => te s H fun x H1 => ∃ a, x = .ref a ∧ ((∃ xs, SqL X.K H1 a xs) ∧ R (Itl X.K a) H1 ∨ (∃ xs, SqT X.K H1 a xs) ∧ R (Itt X.K a) H1)) := by
  refine ⟨fun pins s σ H R I h => ?_⟩
  refine thn (he.run pins s σ H _ I h) fun v s1 ⟨x, H1, I1, r1, q1⟩ => ?_
  obtain ⟨a, e, q | q⟩ := q1
  · obtain ⟨⟨xs, hq⟩, q⟩ := q
    subst e
    cases r1
    obtain ⟨its, rv, p, hz⟩ := I1.list hq
    refine wpAny_pyIter_list p.isList ?_
    refine ⟨s1.heap.objs.size, [s1.heap.objs.size], _, _, H1, rfl, I1.kept (t' := s1.toks) fun b o e => Heap.get?_push_of_some _ e, turn_list a _, ⟨_, Heap.get?_push_size _ rfl, rfl, rfl⟩, fun b hb => ?_, q⟩
    have e : b = s1.heap.objs.size := by simpa using hb
    subst e
    exact I1.fpOk (Nat.le_refl _) (I1.hok.fresh (Nat.le_refl _))
  · obtain ⟨⟨xs, hq⟩, q⟩ := q
    subst e
    cases r1
    obtain ⟨its, rv, p, hz⟩ := I1.tuple hq
    refine wpAny_pyIter_tuple (show s1.heap.IsTuple a its.toArray from p) ?_
    refine ⟨s1.heap.objs.size, [s1.heap.objs.size], _, _, H1, rfl, I1.kept (t' := s1.toks) fun b o e => Heap.get?_push_of_some _ e, turn_tuple a _, ⟨_, Heap.get?_push_size _ rfl, rfl, rfl⟩, fun b hb => ?_, q⟩
    have e : b = s1.heap.objs.size := by simpa using hb
    subst e
    exact I1.fpOk (Nat.le_refl _) (I1.hok.fresh (Nat.le_refl _))
theorem wi_seq (he : WE X e we) (hchk : True := trivial) : WI X tg e (wIt we) := ⟨piImp (pi_seq he.pe) fun s H R ⟨m, r, S, W, hE, hS, hw, hf⟩ => ⟨m, r, S, _, hE, hS, hw, fun x S1 v m1 H1 h1 g1 r1 q1 => by
  split at h1
  · rename_i it e1
    obtain ⟨a, rfl, h2⟩ := itOf_seq e1 q1 r1
    have hc : it.chk S1 := by
      unfold itOf at e1
      split at e1
      · split at e1
        · rename_i hh
          cases e1; exact hh
        · cases e1
      · cases e1; trivial
      · rw [Option.map_eq_some_iff] at e1
        obtain ⟨_, _, rfl⟩ := e1
        trivial
    refine ⟨a, rfl, ?_⟩
    obtain ⟨vs, k1, k2⟩ := h2 m1 H1 S1 Grow.refl r1 hc
    by_cases hl : isLst x = true
    · rw [if_pos hl] at k2
      exact .inl ⟨⟨vs, k2⟩, hf it S1 m1 H1 _ h1 g1 r1 (itok_lst fun m H S' g r' hc' => by
        obtain ⟨us, k3, k4⟩ := h2 m H S' g r' hc'
        rw [if_pos hl] at k4
        exact ⟨us, k3, k4⟩)⟩
    · rw [if_neg hl] at k2
      exact .inr ⟨⟨vs, k2⟩, hf it S1 m1 H1 _ h1 g1 r1 (itok_tup fun m H S' g r' hc' => by
        obtain ⟨us, k3, k4⟩ := h2 m H S' g r' hc'
        rw [if_neg hl] at k4
        exact ⟨us, k3, k4⟩)⟩
  · exact h1.elim⟩⟩
/-- range(n), range(a, b) -/
def rgR (lo : Int) (n : Nat) : List R := (List.range n).map fun i => R.d (.int (lo + (i : Nat)))
theorem itok_rng {K : PySem.W.Frag} {m0 : List Addr} {H0 : Hp} {lo : Int} {n : Nat} : ItOk K m0 H0 (Itr lo n) { items := rgR lo n } :=
  ⟨fun i m H S g r hc => ⟨fun x e => by
    have hi : i < n := by
      have := (List.getElem?_eq_some_iff.mp e).1
      simpa [rgR] using this
    have ex : x = R.d (.int (lo + (i : Nat))) := by
      simp only [rgR, List.getElem?_map, List.getElem?_range hi, Option.map_some, Option.some.injEq] at e
      exact e.symm
    refine ⟨hi, fun v H' ⟨e1, e2⟩ => ?_⟩
    subst e1 ex
    exact ⟨Grow.refl, r, e2⟩, fun e => by
    have := List.getElem?_eq_none_iff.mp e
    show n ≤ i
    simpa [rgR] using this⟩⟩
abbrev wRng1 (ws : PA1) : PI1 := fun r S W => ws r S fun xs S1 => match xs with
  | [.r (.d (.int j))] => j ≤ 16777216 ∧ -16777216 ≤ j ∧ W { items := rgR 0 j.toNat } S1
  | _ => False
abbrev wRng2 (ws : PA1) : PI1 := fun r S W => ws r S fun xs S1 => match xs with
  | [.r (.d (.int i)), .r (.d (.int j))] => (j ≤ 16777216 ∧ -16777216 ≤ j ∧ i ≤ 16777216 ∧ -16777216 ≤ i) ∧ W { items := rgR i (j - i).toNat } S1
  | _ => False
theorem wi_rng1 {p : Pos} (hg : Gl X "range") (hm : X.mg "range" = none) (ha : WA X [a] ws) (hs : starEach [a] X.env = [(false, eval a X.env)] := by rfl) : WI X tg (.Call (.Name "range" p) [a] [] pos) (wRng1 ws) :=
  ⟨piImp (pi_range1 hg hm ha.pa hs) fun s H R ⟨m, r, S, W, hE, hS, hw, hf⟩ => ⟨m, r, S, _, hE, hS, hw, fun xs S1 vs m1 H1 h1 g1 r1 q1 => by
    split at h1
    · rename_i j
      obtain ⟨v, rfl, q⟩ := q1.one
      exact ⟨j, by rw [show v = V.int j from q], by have := h1.2.1; omega, by have := h1.1; omega, hf _ S1 m1 H1 _ h1.2.2 g1 r1 itok_rng⟩
    · exact h1.elim⟩⟩
/-- zip of two lists or of two tuples -/
def prs : List R → List R → List R
  | .d x :: xs, .d y :: ys => .d (.tup [x, y]) :: prs xs ys
  | _, _ => []
def allD : List R → Bool
  | [] => true
  | .d _ :: r => allD r
  | _ :: _ => false
theorem prs_get : ∀ {xs ys : List R} {i : Nat} {z : R}, (prs xs ys)[i]? = some z → ∃ x y, xs[i]? = some (.d x) ∧ ys[i]? = some (.d y) ∧ z = .d (.tup [x, y])
  | .d x :: xs, .d y :: ys, 0, z, e => by simp [prs] at e; exact ⟨x, y, rfl, rfl, e.symm⟩
  | .d x :: xs, .d y :: ys, i + 1, z, e => by simpa using prs_get (xs := xs) (ys := ys) (i := i) (z := z) (by simpa [prs] using e)
  | [], _, i, z, e => by simp [prs] at e
  | .loc _ :: _, _, i, z, e => by simp [prs] at e
  | .ro _ :: _, _, i, z, e => by simp [prs] at e
  | .tr _ :: _, _, i, z, e => by simp [prs] at e
  | .d _ :: _, [], i, z, e => by simp [prs] at e
  | .d _ :: _, .loc _ :: _, i, z, e => by simp [prs] at e
  | .d _ :: _, .ro _ :: _, i, z, e => by simp [prs] at e
  | .d _ :: _, .tr _ :: _, i, z, e => by simp [prs] at e
theorem prs_none : ∀ {xs ys : List R} {i : Nat}, allD xs = true → allD ys = true → (prs xs ys)[i]? = none → xs.length ≤ i ∨ ys.length ≤ i
  | [], _, i, _, _, _ => .inl (by simp)
  | _ :: _, [], i, _, _, _ => .inr (by simp)
  | .d x :: xs, .d y :: ys, 0, _, _, e => by simp [prs] at e
  | .d x :: xs, .d y :: ys, i + 1, h1, h2, e => by
    have := prs_none (xs := xs) (ys := ys) (i := i) (by simpa [allD] using h1) (by simpa [allD] using h2) (by simpa [prs] using e)
    simpa using this
  | .loc _ :: _, _ :: _, i, h, _, _ => by simp [allD] at h
  | .ro _ :: _, _ :: _, i, h, _, _ => by simp [allD] at h
  | .tr _ :: _, _ :: _, i, h, _, _ => by simp [allD] at h
  | .d _ :: _, .loc _ :: _, i, _, h, _ => by simp [allD] at h
  | .d _ :: _, .ro _ :: _, i, _, h, _ => by simp [allD] at h
  | .d _ :: _, .tr _ :: _, i, _, h, _ => by simp [allD] at h
abbrev wZip (ws : PA1) : PI1 := fun r S W => ws r S fun xs S1 => match xs with
  | [x, y] => match itOf S1 x, itOf S1 y with
    | some i, some j => (isLst x = isLst y ∧ allD i.items = true ∧ allD j.items = true) ∧ W ⟨prs i.items j.items, fun S => i.chk S ∧ j.chk S⟩ S1
    | _, _ => False
  | _ => False
theorem itOf_chk {S : Sto} {x : SV} {it : It1} (e1 : itOf S x = some it) : it.chk S := by
  unfold itOf at e1
  split at e1
  · split at e1
    · rename_i hh
      cases e1; exact hh
    · cases e1
  · cases e1; trivial
  · rw [Option.map_eq_some_iff] at e1
    obtain ⟨_, _, rfl⟩ := e1
    trivial
theorem itok_zip {K : PySem.W.Frag} {m0 : List Addr} {H0 : Hp} {J : It} {i j : It1} (l : Bool) {a b : Addr} (h1 : allD i.items = true) (h2 : allD j.items = true)
    (hx : ∀ m H S', Grow m0 H0 m H → RepS K m H S' → i.chk S' → ∃ vs, RepRs K m H i.items vs ∧ if l = true then SqL K H a vs else SqT K H a vs)
    (hy : ∀ m H S', Grow m0 H0 m H → RepS K m H S' → j.chk S' → ∃ vs, RepRs K m H j.items vs ∧ if l = true then SqL K H b vs else SqT K H b vs)
    (hJ : J = if l = true then Itz K a b else ItzT K a b) : ItOk K m0 H0 J ⟨prs i.items j.items, fun S => i.chk S ∧ j.chk S⟩ :=
  ⟨fun k m H S g r hc => by
    obtain ⟨vs, k1, k2⟩ := hx m H S g r hc.1
    obtain ⟨us, k3, k4⟩ := hy m H S g r hc.2
    subst hJ
    refine ⟨fun z e => ?_, fun e => ?_⟩
    · obtain ⟨x, y, e1, e2, rfl⟩ := prs_get e
      obtain ⟨v, p1, p2⟩ := RepRs.get k1 e1
      obtain ⟨u, p3, p4⟩ := RepRs.get k3 e2
      have fin : ∀ T H', H T = none → H' = upd H T (.tup [v, u]) → Grow m H m H' ∧ RepS K m H' S ∧ RepR K m H' (.d (.tup [x, y])) (.ref T) := fun T H' n e' => by
        subst e'
        have gg : Grow m H m (upd H T (.tup [v, u])) := Grow.alloc n
        exact ⟨gg, r.alloc n, T, [v, u], rfl, .inl (.inl upd_same), v, [u], rfl, RepD.grow gg x v p2, u, [], rfl, RepD.grow gg y u p4, rfl⟩
      cases l with
      | true =>
        rw [if_pos rfl] at k2 k4 ⊢
        refine ⟨⟨vs, us, v, u, k2, k4, p1, p3⟩, fun w H' ⟨T, v', u', e3, n, e4, f1, f2⟩ => ?_⟩
        have q1 := (f1 vs k2).symm.trans p1
        have q2 := (f2 us k4).symm.trans p3
        cases q1; cases q2
        subst e3
        exact fin T H' n e4
      | false =>
        rw [if_neg Bool.false_ne_true] at k2 k4 ⊢
        refine ⟨⟨vs, us, v, u, k2, k4, p1, p3⟩, fun w H' ⟨T, v', u', e3, n, e4, f1, f2⟩ => ?_⟩
        have q1 := (f1 vs k2).symm.trans p1
        have q2 := (f2 us k4).symm.trans p3
        cases q1; cases q2
        subst e3
        exact fin T H' n e4
    · have hl := prs_none h1 h2 e
      rw [← RepRs.len k1, ← RepRs.len k3] at hl
      cases l with
      | true =>
        rw [if_pos rfl] at k2 k4 ⊢
        exact ⟨vs, us, k2, k4, hl⟩
      | false =>
        rw [if_neg Bool.false_ne_true] at k2 k4 ⊢
        exact ⟨vs, us, k2, k4, hl⟩⟩
theorem wi_zip {p tpos : Pos} {elts : List Expr} {kk : Nat} (hg : Gl X "zip") (hm : X.mg "zip" = none) (ha : WA X [a, b] ws)
    (hs : starEach [a, b] X.env = (false, eval a X.env) :: starEach [b] X.env := by rfl) (hpl : (backTo pos (starEach [b] X.env)).any (·.1) = false := by rfl) : WI X (.Tuple elts kk tpos) (.Call (.Name "zip" p) [a, b] [] pos) (wZip ws) :=
  ⟨piImp (pi_zipA hg hm ha.pa hs hpl) fun s H R ⟨m, r, S, W, hE, hS, hw, hf⟩ => ⟨m, r, S, _, hE, hS, hw, fun xs S1 vs m1 H1 h1 g1 r1 q1 => by
    split at h1
    · rename_i x y
      obtain ⟨v, u, rfl, qx, qy⟩ := q1.two
      split at h1
      · rename_i i j e1 e2
        obtain ⟨⟨hl, d1, d2⟩, h1⟩ := h1
        obtain ⟨a, rfl, hx⟩ := itOf_seq e1 qx r1
        obtain ⟨b, rfl, hy⟩ := itOf_seq e2 qy r1
        rw [← hl] at hy
        obtain ⟨vs, k1, k2⟩ := hx m1 H1 S1 Grow.refl r1 (itOf_chk e1)
        obtain ⟨us, k3, k4⟩ := hy m1 H1 S1 Grow.refl r1 (itOf_chk e2)
        refine ⟨a, b, vs, us, rfl, ?_⟩
        cases hb : isLst x with
        | true =>
          rw [hb] at k2 k4 hx hy
          rw [if_pos rfl] at k2 k4
          exact .inl ⟨k2, k4, hf _ S1 m1 H1 _ h1 g1 r1 (itok_zip true d1 d2 hx hy rfl)⟩
        | false =>
          rw [hb] at k2 k4 hx hy
          rw [if_neg Bool.false_ne_true] at k2 k4
          exact .inr ⟨k2, k4, hf _ S1 m1 H1 _ h1 g1 r1 (itok_zip false d1 d2 hx hy rfl)⟩
      · exact h1.elim
    · exact h1.elim⟩⟩
/-! ### for -/
def forL (k : Nat) (chk : Sto → Prop) (f : R → Rho → Option Rho) (body : PS1) (N : En) : List R → Rho → Sto → Prop
  | [], r, S => chk S ∧ N.nx r S
  | x :: xs, r, S => chk S ∧ match f x r with
    | some r1 => body { nx := fun r2 S2 => ∃ r3 S3, Cut k r2 S2 r3 S3 ∧ forL k chk f body N xs r3 S3, rt := N.rt, bk := N.nx, ct := fun r2 S2 => ∃ r3 S3, Cut k r2 S2 r3 S3 ∧ forL k chk f body N xs r3 S3 } r1 S
    | none => False
abbrev wFor (wi : PI1) (f : R → Rho → Option Rho) (body : PS1) : PS1 := fun N r S => wi r S fun it S1 => forL S1.length it.chk f body N it.items r S1
theorem ws_for {wi : PI1} {g : TG} {vs : List Nat} {f : R → Rho → Option Rho} (hp : PassesOwn (model X.prog X.w) X.A X.env X.xe) (hc : X.calm = true) (hi : WI X tg iter wi) (hg : PG X tg g) (ht : Tgt X.K g vs f) (hb : WSs X body tb)
    (hs : ∀ x, foldedSetIterable iter X.env x = pure x := by intro _; rfl) : WS X (.For tg iter body [] pos) (wFor wi f tb) :=
  ⟨psImp (ps_for hp hc hi.pi hg hb.pss hs) fun D s H ⟨m, r, S, N, hE, hS, hw, hf⟩ => ⟨m, r, S, _, hE, hS, hw, fun it S1 m1 H1 J h1 g1 r1 ok => by
    refine ⟨fun i n s2 H2 => ∃ m2 r2 S2, n = it.items.length - i ∧ Grow m1 H1 m2 H2 ∧ RepE X.K m2 H2 r2 s2 ∧ RepS X.K m2 H2 S2 ∧ forL S1.length it.chk f tb N (it.items.drop i) r2 S2, ⟨it.items.length, m1, r, S1, by simp, Grow.refl, hE.grow g1, r1, by simpa using h1⟩, ?_⟩
    rintro i n s2 H2 ⟨m2, r2, S2, rfl, g2, e2, q2, h2⟩
    cases e : it.items[i]? with
    | none =>
      have hl := List.getElem?_eq_none_iff.mp e
      rw [List.drop_eq_nil_of_le hl] at h2
      obtain ⟨h2, h3⟩ := h2
      exact .inl ⟨(ok.run i m2 H2 S2 g2 q2 h2).2 e, hf.nx r2 S2 s2 m2 H2 h3 (g1.trans g2) e2 q2⟩
    | some x =>
      obtain ⟨hl, ex⟩ := List.getElem?_eq_some_iff.mp e
      rw [List.drop_eq_getElem_cons hl, ex] at h2
      obtain ⟨h2, h3⟩ := h2
      obtain ⟨go, yl⟩ := (ok.run i m2 H2 S2 g2 q2 h2).1 x e
      refine .inr ⟨go, fun s' H' => ∃ m', m' < it.items.length - i ∧ ∃ m2 r2 S2, m' = it.items.length - (i + 1) ∧ Grow m1 H1 m2 H' ∧ RepE X.K m2 H' r2 s' ∧ RepS X.K m2 H' S2 ∧ forL S1.length it.chk f tb N (it.items.drop (i + 1)) r2 S2, fun s' H' h => h, fun v H3 y3 => ?_⟩
      obtain ⟨g3, q3, qx⟩ := yl v H3 y3
      split at h3
      · rename_i r3 e3
        obtain ⟨s3, k1, k2, _⟩ := ht.run m2 H3 x v r2 r3 s2 qx (e2.grow g3) e3
        refine k1 _ ⟨m2, r3, S2, _, k2, q3, h3, ?_⟩
        have g23 := g2.trans g3
        have again : ∀ r' S' s' m' H', (∃ r4 S4, Cut S1.length r' S' r4 S4 ∧ forL S1.length it.chk f tb N (it.items.drop (i + 1)) r4 S4) → Grow m2 H3 m' H' → RepE X.K m' H' r' s' → RepS X.K m' H' S' →
            ∃ m', m' < it.items.length - i ∧ ∃ m2 r2 S2, m' = it.items.length - (i + 1) ∧ Grow m1 H1 m2 H' ∧ RepE X.K m2 H' r2 s' ∧ RepS X.K m2 H' S2 ∧ forL S1.length it.chk f tb N (it.items.drop (i + 1)) r2 S2 := fun r' S' s' m' H' ⟨r4, S4, cu, h4⟩ g' e' q' => by
          obtain ⟨m4, g4, e4, q4⟩ := cu.ok r1.len (g23.trans g') e' q'
          exact ⟨_, by omega, m4, r4, S4, rfl, g4, e4, q4, h4⟩
        exact ⟨again, fun x S' v m' H' n g' q' w' => hf.rt x S' v m' H' n ((g1.trans g23).trans g') q' w', fun r' S' s' m' H' n g' e' q' => hf.nx r' S' s' m' H' n ((g1.trans g23).trans g') e' q', again⟩
      · exact h3.elim⟩⟩
/-! ### comprehensions -/
theorem Grow.own {m m1 : List Addr} {H H1 : Hp} {D : Addr} {o : HO} {u0 : HO} (g : Grow m H m1 H1) (h : H D = none) (e0 : H1 D = some u0) (w0 : Wr D u0) : Grow m H m1 (upd H1 D o) :=
  ⟨g.pre, fun b xs e => by rw [upd_ne (ne_of_none e h)]; exact g.tup b xs e, fun b ob u e => by rw [upd_ne (ne_of_none e h)]; exact g.frz b ob u e, fun b u e => by rw [upd_ne (ne_of_none e h)]; exact g.xt b u e, fun b u e hb hn => by rw [upd_ne (ne_of_none e h)]; exact g.frame b u e hb hn, g.new, g.tb.trans (TbK.write e0 w0.2.2.2.1 w0.2.2.2.2)⟩
theorem RepS.own {K : PySem.W.Frag} {m : List Addr} {H : Hp} {S : Sto} {D : Addr} {vs vs' : List V} (r : RepS K m H S) (hm : D ∉ m) (hD : H D = some (.lst vs)) : RepS K m (upd H D (.lst vs')) S :=
  ⟨r.nd, r.len, fun n o e => by
    obtain ⟨a, h1, h2⟩ := r.at_ n o e
    have ne : a ≠ D := fun q => hm (by rw [← q]; exact List.mem_of_getElem? h1)
    have gw : Grow [D] H [D] (upd H D (.lst vs')) := Grow.write (n := 0) rfl hD
    exact ⟨a, h1, h2.grow gw (upd_ne ne)⟩, fun P hP => (TbK.write hD (fun _ => (nomatch ·)) (fun _ => (nomatch ·))).tab P (r.tab P hP)⟩
structure WTs (X : Cx) (ifs : List Expr) (w : PT1) : Prop where
  pts : PTs X ifs (upT X.K w)
abbrev wYes : PT1 := fun _ S W => W true S
theorem wts_nil : WTs X [] wYes := ⟨⟨fun pins s z H Q I ⟨m, r, S, W, hE, hS, hw, hf⟩ => (pts_nil (X := X)).run pins s z H Q I (hf true S m H hw Grow.refl hS)⟩⟩
theorem wts_one (h : WT X c tc) : WTs X [c] tc := ⟨⟨fun pins s z H Q I q => (pts_one h.pt).run pins s z H Q I q⟩⟩
def lcL (k : Nat) (chk : Sto → Prop) (f : R → Rho → Option Rho) (t : PT1) (w : PE1) (r : Rho) : List R → Sto → (List D → Sto → Prop) → Prop
  | [], S, W => chk S ∧ W [] S
  | x :: xs, S, W => chk S ∧ match f x r with
    | some r1 => t r1 S fun b S1 => if b = true then w r1 S1 fun y S2 => match y with
        | .r (.d z) => lcL k chk f t w r xs (S2.take k) fun zs S3 => W (z :: zs) S3
        | _ => False
      else lcL k chk f t w r xs (S1.take k) W
    | none => False
def wipeR (r : Rho) : List Nat → Rho
  | [] => r
  | v :: vs => (wipeR r vs).set v none
abbrev wLc (wi : PI1) (f : R → Rho → Option Rho) (t : PT1) (w : PE1) (own : List Nat) : PE1 := fun r S W => wi r S fun it S1 => it.items.length ≤ 16777216 ∧ lcL S1.length it.chk f t w (wipeR r own) it.items S1 fun zs S2 => W (.f zs) S2
theorem RepE.wipe {K : PySem.W.Frag} {m : List Addr} {H : Hp} {r : Rho} {s : L2.St} (h : RepE K m H r s) : ∀ vs : List Nat, RepE K m H (wipeR r vs) (L2.wipe s vs)
  | [] => h
  | v :: vs => by
    have ih := RepE.wipe h vs
    unfold wipeR L2.wipe
    refine ⟨by simp [ih.len], fun i x e => ?_⟩
    by_cases hi : v = i
    · subst hi
      by_cases hl : v < (wipeR r vs).length
      · rw [List.getElem?_set_self hl] at e; cases e
      · rw [List.getElem?_eq_none (by simpa using hl)] at e; cases e
    · rw [List.getElem?_set_ne hi] at e
      obtain ⟨u, h1, h2⟩ := ih.at_ i x e
      exact ⟨u, by rw [List.getElem?_set_ne hi]; exact h1, h2⟩
theorem RepS.take {K : PySem.W.Frag} {m m1 : List Addr} {H : Hp} {S : Sto} (h : RepS K m H S) (hp : ∀ (n : Nat) a, m1[n]? = some a → m[n]? = some a) : RepS K m1 H (S.take m1.length) := by
  have e : m1 = m.take m1.length := by
    refine List.ext_getElem? fun n => ?_
    by_cases hn : n < m1.length
    · rw [List.getElem?_take_of_lt hn, List.getElem?_eq_getElem hn]
      exact (hp n _ (List.getElem?_eq_getElem hn)).symm
    · rw [List.getElem?_eq_none (by omega), List.getElem?_eq_none (by rw [List.length_take]; omega)]
  have hle : m1.length ≤ m.length := by
    have := congrArg List.length e
    rw [List.length_take] at this; omega
  refine ⟨by rw [e]; exact h.nd.sublist (List.take_sublist _ _), by rw [List.length_take, ← h.len]; omega, fun n o e1 => ?_, h.tab⟩
  have hn : n < m1.length := by
    by_cases hn : n < m1.length
    · exact hn
    · rw [List.getElem?_eq_none (by rw [List.length_take]; omega)] at e1; cases e1
  rw [List.getElem?_take_of_lt hn] at e1
  obtain ⟨a, h1, h2⟩ := h.at_ n o e1
  refine ⟨a, ?_, h2⟩
  rw [List.getElem?_eq_getElem hn]
  exact (hp n _ (List.getElem?_eq_getElem hn)).symm.trans h1
theorem wipe_wipe {s : L2.St} : ∀ vs : List Nat, L2.wipe (L2.wipe s vs) vs = L2.wipe s vs := by
  have key : ∀ (vs us : List Nat) (s : L2.St), (∀ i ∈ vs, i ∈ us) → L2.wipe (L2.wipe s vs) us = L2.wipe s us := by
    intro vs
    induction vs with
    | nil => intro us s _; rfl
    | cons v vs ih =>
      intro us s h
      show L2.wipe ((L2.wipe s vs).set v none) us = _
      rw [wipe_set (h v (by simp)), ih us s fun i hi => h i (by simp [hi])]
  exact fun vs => key vs vs s fun _ h => h
theorem lc_up {K : PySem.W.Frag} {g : TG} {vs own : List Nat} {f : R → Rho → Option Rho} (ht : Tgt K g vs f) (ho : ∀ i ∈ vs, i ∈ own) {s : L2.St} {H : Hp} {Q : VK} {wi : PI1} {w : PE1} (h : up K (wLc wi f tt w own) s H Q) : tLc (upI K wi) g (upT K tt) (up K w) own s H Q := by
  obtain ⟨m, r, S, W, hE, hS, hw, hf⟩ := h
  refine ⟨m, r, S, _, hE, hS, hw, fun it S1 m1 H1 J ⟨hz, h1⟩ g1 r1 ok D hD => ?_⟩
  have hE1 := (hE.grow g1).wipe own
  refine ⟨fun i n H2 => ∃ acc vs2 S2 W2, n = it.items.length - i ∧ acc.length ≤ i ∧ Grow m1 H1 m1 H2 ∧ RepS K m1 H2 S2 ∧ H2 D = some (.lst vs2) ∧ RepDs K H2 acc vs2 ∧ lcL S1.length it.chk f tt w (wipeR r own) (it.items.drop i) S2 W2 ∧ (∀ zs S3, W2 zs S3 → W (.f (acc ++ zs)) S3),
    ⟨it.items.length, [], [], S1, _, by simp, by simp, Grow.alloc hD, r1.alloc hD, upd_same, rfl, by simpa using h1, fun zs S3 h => by simpa using h⟩, ?_⟩
  rintro i n H2 ⟨acc, vs2, S2, W2, rfl, hacc, g2, r2, hD2, qa, h2, hW⟩
  have Dm : D ∉ m1 := r1.notmem hD
  cases e : it.items[i]? with
  | none =>
    have hl := List.getElem?_eq_none_iff.mp e
    rw [List.drop_eq_nil_of_le hl] at h2
    obtain ⟨h2, h3⟩ := h2
    refine .inl ⟨(ok.run i m1 H2 S2 g2 r2 h2).2 e, hf _ S2 _ m1 H2 (hW [] S2 h3) (g1.trans g2) r2 ⟨D, vs2, rfl, hD2, Dm, g1.fresh r1 hD, by simpa using qa⟩⟩
  | some x =>
    obtain ⟨hl, ex⟩ := List.getElem?_eq_some_iff.mp e
    rw [List.drop_eq_getElem_cons hl, ex] at h2
    obtain ⟨h2, h3⟩ := h2
    obtain ⟨go, yl⟩ := (ok.run i m1 H2 S2 g2 r2 h2).1 x e
    refine .inr ⟨go, fun H' => ∃ acc vs2 S2 W2, acc.length ≤ i + 1 ∧ Grow m1 H1 m1 H' ∧ RepS K m1 H' S2 ∧ H' D = some (.lst vs2) ∧ RepDs K H' acc vs2 ∧ lcL S1.length it.chk f tt w (wipeR r own) (it.items.drop (i + 1)) S2 W2 ∧ (∀ zs S3, W2 zs S3 → W (.f (acc ++ zs)) S3),
      fun H' ⟨acc', vs3, S3, W3, a1, a2, a3, a4, a5, a6, a7⟩ => ⟨it.items.length - (i + 1), by omega, acc', vs3, S3, W3, rfl, a1, a2, a3, a4, a5, a6, a7⟩, fun v H3 y3 => ?_⟩
    obtain ⟨g3, q3, qx⟩ := yl v H3 y3
    split at h3
    · rename_i r3 e3
      have g23 := g2.trans g3
      obtain ⟨s3, k1, k2, k3⟩ := ht.run m1 H3 x v _ r3 _ qx (hE1.grow g23) e3
      have hD3 : H3 D = some (.lst vs2) := g3.frame D _ hD2 Dm (fun _ => (nomatch ·))
      refine k1 _ ⟨(k3 own ho).trans (wipe_wipe own), m1, r3, S2, _, k2, q3, h3, fun b S4 m4 H4 h4 g4 r4 => ?_⟩
      have hD4 : H4 D = some (.lst vs2) := g4.frame D _ hD3 Dm (fun _ => (nomatch ·))
      -- back to the numbers of the loop's start
      have back : ∀ {m5 : List Addr} {H5 : Hp} {S5 : Sto}, Grow m1 H1 m5 H5 → RepS K m5 H5 S5 → Grow m1 H1 m1 H5 ∧ RepS K m1 H5 (S5.take S1.length) := fun {m5 H5 S5} g5 r5 => by
        refine ⟨⟨fun _ _ h => h, g5.tup, g5.frz, g5.xt, g5.frame, fun _ h n => absurd h n, g5.tb⟩, ?_⟩
        rw [← r1.len]
        exact r5.take g5.pre
      dsimp only at h4 ⊢
      cases b with
      | false =>
        rw [if_neg Bool.false_ne_true] at h4 ⊢
        obtain ⟨g5, r5⟩ := back (g23.trans g4) r4
        exact ⟨acc, vs2, _, W2, by omega, g5, r5, hD4, RepDs.grow g4 _ _ (RepDs.grow g3 _ _ qa), h4, hW⟩
      | true =>
        rw [if_pos rfl] at h4 ⊢
        refine ⟨m4, r3, S4, _, k2.grow g4, r4, h4, fun y S5 u m5 H5 h5 g5 r5 q5 => ?_⟩
        split at h5
        · rename_i z
          have g25 := (g3.trans g4).trans g5
          have hD5 : H5 D = some (.lst vs2) := g25.frame D _ hD2 Dm (fun _ => (nomatch ·))
          obtain ⟨g6, r6⟩ := back ((g23.trans g4).trans g5) r5
          have gw : Grow [D] H5 [D] (upd H5 D (.lst (vs2 ++ [u]))) := Grow.write (n := 0) rfl hD5
          have qa5 : RepDs K H5 acc vs2 := RepDs.grow g25 _ _ qa
          refine ⟨vs2, hD5, ?_, acc ++ [z], vs2 ++ [u], _, _, by simp; omega, g6.own hD hD5 wr_lst, r6.own Dm hD5, upd_same, RepDs.grow gw _ _ (qa5.app (RepDs.one q5)), h5, fun zs S6 h6 => ?_⟩
          · rw [RepDs.len qa5, sizeLine_eq]; omega
          · rw [List.append_assoc]; exact hW _ S6 h6
        · exact h5.elim
    · exact h3.elim
end
end Z
set_option Elab.async false
set_option linter.all false
set_option maxRecDepth 100000
/-! Z6: comprehensions as expressions, list methods, calls, a def's promise. -/
namespace Z
open PySem PySem.Spec PyProof.Rows L2 RZ
section
variable {X : Cx} {st : Stmt} {body : List Stmt} {e a b c iter tg elt : Expr} {es ifs : List Expr} {pos p2 : Pos} {wa wb we wi : PE1} {ws was : PA1} {t u tb : PS1} {tc tt : PT1}
theorem we_lc {scope : Scope} {own : List (Str × Nat)} {wi : PI1} {g : TG} {vs : List Nat} {f : R → Rho → Option Rho} (hc : X.calm = true) (hN : X.N.Nodup) (hi : WI X tg iter wi) (ok : BlkOk X.N X.env.scope scope own)
    (hg : ∀ (s : Shared) (H : Hp) (C : Addr) (cl : List (Str × Addr)) (fp : List Addr), PG (X.blk s H scope (compEnvC scope cl C X.env) fp) tg g) (hT : Tgt X.K g vs f) (ho : ∀ i ∈ vs, i ∈ own.map (·.2))
    (ht : ∀ (s : Shared) (H : Hp) (C : Addr) (cl : List (Str × Addr)) (fp : List Addr), WTs (X.blk s H scope (compEnvC scope cl C X.env) fp) ifs tt)
    (he : ∀ (s : Shared) (H : Hp) (C : Addr) (cl : List (Str × Addr)) (fp : List Addr), WE (X.blk s H scope (compEnvC scope cl C X.env) fp) elt we) (hs : ∀ x, foldedSetIterable iter X.env x = pure x := by intro _; rfl) :
    WE X (.ListComp elt [⟨tg, iter, ifs, 0⟩] scope pos) (wLc wi f tt we (own.map (·.2))) :=
  ⟨peImp (pe_lc hc hN hi.pi ok hg (fun s H C cl fp => (ht s H C cl fp).pts) (fun s H C cl fp => (he s H C cl fp).pe) hs) fun s H Q h => lc_up hT ho h⟩
theorem ws_setLc {scope : Scope} {own : List (Str × Nat)} {wi : PI1} {g : TG} {vs : List Nat} {f : R → Rho → Option Rho} {i : Nat} {y : Str} {py spos : Pos} (hc : X.calm = true) (hN : X.N.Nodup) (hy : X.N[i]? = some y) (hyl : X.env.scope.names.lookup y = some .local)
    (hsw : swapsWith (.ListComp elt [⟨tg, iter, ifs, 0⟩] scope pos) (some (.Name y py)) spos.line X.env = pure true) (hi : WI X tg iter wi) (ok : BlkOk X.N X.env.scope scope own)
    (hg : ∀ (s : Shared) (H : Hp) (C : Addr) (cl : List (Str × Addr)) (fp : List Addr), PG (X.blk s H scope (compEnvC scope cl C X.env) fp) tg g) (hT : Tgt X.K g vs f) (ho : ∀ i ∈ vs, i ∈ own.map (·.2))
    (ht : ∀ (s : Shared) (H : Hp) (C : Addr) (cl : List (Str × Addr)) (fp : List Addr), WTs (X.blk s H scope (compEnvC scope cl C X.env) fp) ifs tt)
    (he : ∀ (s : Shared) (H : Hp) (C : Addr) (cl : List (Str × Addr)) (fp : List Addr), WE (X.blk s H scope (compEnvC scope cl C X.env) fp) elt we) (hs : ∀ x, foldedSetIterable iter X.env x = pure x := by intro _; rfl) :
    WS X (.Assign [.Name y py] (.ListComp elt [⟨tg, iter, ifs, 0⟩] scope pos) spos) (wSet i (wLc wi f tt we (own.map (·.2)))) :=
  ⟨psImp (ps_setLc hc hN hy hyl hsw hi.pi ok hg (fun s H C cl fp => (ht s H C cl fp).pts) (fun s H C cl fp => (he s H C cl fp).pe) hs) fun D s H hw => set_fin (fun Q h => lc_up hT ho h) hw⟩
/-! ### list methods -/
abbrev wApp (wo we : PE1) : PE1 := fun r S W => wo r S fun x S1 => match x with
  | .r (.loc n) => isLo S1 n = true ∧ we r S1 fun y S2 => match y with
    | .r (.d z) => match S2[n]? with
      | some (.lst xs) => xs.length < 16777216 ∧ W (.r (.d .non)) (S2.set n (.lst (xs ++ [z])))
      | _ => False
    | _ => False
  | _ => False
theorem RepS.lst {K : PySem.W.Frag} {m : List Addr} {H : Hp} {S : Sto} {n : Nat} {v : V} (r : RepS K m H S) (q : RepR K m H (.loc n) v) (hn : isLo S n = true) : ∃ a vs xs, v = .ref a ∧ m[n]? = some a ∧ H a = some (.lst vs) ∧ S[n]? = some (.lst xs) ∧ RepDs K H xs vs := by
  obtain ⟨a, h1, rfl⟩ := q
  obtain ⟨xs, e⟩ := isLo_get hn
  obtain ⟨a', h2, vs, h4, h5⟩ := r.at_ n _ e
  rw [h1] at h2; cases h2
  exact ⟨a, vs, xs, rfl, h1, h4, e, h5⟩
theorem we_app {o : Expr} {apos : Pos} {wo : PE1} (ho : WE X o wo) (he : WE X e we)
    (h : ∀ {to te : TE}, PE X o to → PE X e te → PE X (.Call (.Attribute o "append" apos) [e] [] pos) (tBM X.K "list" rAppend to (tCons te tNil)) := by
      intro _ _ ho he; exact pe_bm PySem.F.plainAttrs_list PySem.F.slot_list_append PySem.F.type_list_append mt_append ho (pa_cons he pa_nil)) : WE X (.Call (.Attribute o "append" apos) [e] [] pos) (wApp wo we) :=
  ⟨peImp (h ho.pe he.pe) fun s H Q ⟨m, r, S, W, hE, hS, hw, hf⟩ => up1 hE hS hw fun x S1 v m1 H1 h1 g1 r1 q1 => by
    split at h1
    · rename_i n
      obtain ⟨hn, h1⟩ := h1
      obtain ⟨a, vs, xs, rfl, k1, k2, k3, k4⟩ := r1.lst q1 hn
      refine ⟨.inl ⟨rfl, vs, .inl (.inl k2)⟩, m1, r, S1, _, hE.grow g1, r1, h1, fun y S2 u m2 H2 h2 g2 r2 q2 => ?_⟩
      split at h2
      · rename_i z
        split at h2
        · rename_i ys e1
          obtain ⟨a', p1, vs', p2, p3⟩ := r2.at_ n _ e1
          rw [g2.pre n a k1] at p1; cases p1
          refine ⟨a, vs', u, rfl, rfl, p2, by rw [RepDs.len p3, sizeLine_eq]; exact h2.1, ?_⟩
          have gw : Grow m2 H2 m2 (upd H2 a (.lst (vs' ++ [u]))) := Grow.write (g2.pre n a k1) p2
          exact hf _ _ _ m2 _ h2.2 ((g1.trans g2).trans gw) (r2.write (g2.pre n a k1) p2 (p3.app (RepDs.one q2))) (show RepR _ _ _ _ _ from rfl)
        · exact h2.elim
      · exact h2.elim
    · exact h1.elim⟩
/-- n.bit_length() -/
abbrev wBits (wo : PE1) : PE1 := fun r S W => wo r S fun x S1 => match x with
  | .r (.d (.int i)) => W (.r (.d (.int (Builtin.Int.intBits i : Nat)))) S1
  | _ => False
theorem we_bits {o : Expr} {apos : Pos} {wo : PE1} (ho : WE X o wo) (hbase : attributeBase o "bit_length" X.env (eval o X.env) = eval o X.env := by rfl) (hline : (apos.endLine == pos.line) = true := by rfl) : WE X (.Call (.Attribute o "bit_length" apos) [] [] pos) (wBits wo) :=
  ⟨peImp (pe_bits ho.pe hbase hline) fun s H Q ⟨m, r, S, W, hE, hS, hw, hf⟩ => up1 hE hS hw fun x S1 v m1 H1 h1 g1 r1 q1 => by
    split at h1
    · rename_i i
      exact ⟨i, q1, hf _ S1 _ m1 H1 h1 g1 r1 (show RepR _ _ _ _ _ from rfl)⟩
    · exact h1.elim⟩
end
/-! ### a def's promise -/
/-- the arguments, the store (just the lists handed in, in order), what is wanted of the value and the store behind -/
abbrev SpZ := List R → Sto → (R → Sto → Prop) → Prop
mutual
def locR : R → List Nat
  | .loc n => [n]
  | .tr xs => argLocs xs
  | .d _ => []
  | .ro _ => []
  | .ex _ => []
  | .ad _ => []
def argLocs : List R → List Nat
  | [] => []
  | x :: r => locR x ++ argLocs r
end
mutual
def renR : Nat → R → R
  | k, .loc _ => .loc k
  | k, .tr xs => .tr (renum k xs)
  | _, .d x => .d x
  | _, .ro x => .ro x
  | _, .ex x => .ex x
  | _, .ad x => .ad x
def renum : Nat → List R → List R
  | _, [] => []
  | k, x :: r => renR k x :: renum (k + (locR x).length) r
end
def pick (S : Sto) : List Nat → Option Sto
  | [] => some []
  | n :: ns => match S[n]?, pick S ns with
    | some o, some r => some (o :: r)
    | _, _ => none
def putAll : Sto → List Nat → Sto → Sto
  | S, n :: ls, o :: T => putAll (S.set n o) ls T
  | S, _, _ => S
def backL (S : Sto) (ls : List Nat) (T : Sto) (x : R) (W : PK1) : Prop := match x with
  | .d y => W (.r (.d y)) (putAll S ls T)
  | .ro y => W (.r (.ro y)) (putAll S ls T)
  | .ex y => W (.r (.ex y)) (putAll S ls T)
  | .ad y => W (.r (.ad y)) (putAll S ls T)
  | .loc j => if j < ls.length then (match ls[j]? with
      | some n => W (.r (.loc n)) (putAll S ls T)
      | none => False) else match T[j]? with
      | some (.lst xs) => W (.f xs) (putAll S ls T)
      | some (.dct ep kvs) => W (.r (.loc S.length)) (putAll S ls T ++ [.dct ep kvs])
      | some (.dk kvs) => W (.r (.loc S.length)) (putAll S ls T ++ [.dk kvs])
      | _ => False
  | .tr xs => (argLocs xs).Nodup ∧ (∀ k ∈ argLocs xs, ls.length ≤ k) ∧ match pick T (argLocs xs) with
    | some U => W (.r (.tr (renum S.length xs))) (putAll S ls T ++ U)
    | none => False
abbrev callL (sp : SpZ) (n : Nat) (rs : List R) (S : Sto) (W : PK1) : Prop := (rs.length = n ∧ (argLocs rs).Nodup) ∧ match pick S (argLocs rs) with
  | some T => sp (renum 0 rs) T fun x T' => backL S (argLocs rs) T' x W
  | none => False
def liftSp (K : PySem.W.Frag) (n : Nat) (sp : SpZ) : Sp := fun vs H Q _ => ∃ m rs S W, rs.length = n ∧ RepRs K m H rs vs ∧ RepS K m H S ∧ sp rs S W ∧ ∀ x S' v m' H', W x S' → Grow m H m' H' → RepS K m' H' S' → RepR K m' H' x v → Q v H'
/-- the def of the name x, of n parameters, keeps its promise; level k -/
structure FnZ (P : Program) (w : World) (K : PySem.W.Frag) (mg : Str → Option Value) (base : Heap) (k : Nat) (x : Str) (n : Nat) (sp : SpZ) : Prop where
  ok : ∃ f fd ps, ps.length = n ∧ mg x = some (.ref f) ∧ PySem.W.keepIn K (.ref f) = true ∧ Binds K fd ps [] ∧ FnOk P w K mg base CX0 k f fd ps (liftSp K n sp)
theorem FnZ.mono {P : Program} {w : World} {K : PySem.W.Frag} {mg : Str → Option Value} {base : Heap} {j k : Nat} {x : Str} {n : Nat} {sp : SpZ} (F : FnZ P w K mg base j x n sp) (h : j ≤ k) : FnZ P w K mg base k x n sp := by
  obtain ⟨f, fd, ps, h1, h2, h3, h4, h5⟩ := F.ok
  exact ⟨f, fd, ps, h1, h2, h3, h4, h5.mono h⟩
theorem FnZ.imp {P : Program} {w : World} {K : PySem.W.Frag} {mg : Str → Option Value} {base : Heap} {k : Nat} {x : Str} {n : Nat} {sp sp' : SpZ} (F : FnZ P w K mg base k x n sp) (h : ∀ rs S W, sp' rs S W → sp rs S W) : FnZ P w K mg base k x n sp' := by
  obtain ⟨f, fd, ps, h1, h2, h3, h4, h5⟩ := F.ok
  exact ⟨f, fd, ps, h1, h2, h3, h4, h5.imp fun vs H Q E ⟨m, rs, S, W, hl, a, b, c, d⟩ => ⟨m, rs, S, W, hl, a, b, h _ _ _ c, d⟩⟩
section
variable {K : PySem.W.Frag} {m m1 m2 : List Addr} {H H0 H1 : Hp} {S S1 T : Sto}
theorem pick_ok : ∀ {ls : List Nat} {T : Sto}, pick S ls = some T → T.length = ls.length ∧ ∀ i : Nat, T[i]? = ls[i]?.bind (S[·]?)
  | [], T, h => by simp [pick] at h; subst h; exact ⟨rfl, fun i => by simp⟩
  | n :: ns, T, h => by
    unfold pick at h
    split at h
    · rename_i o r e1 e2
      cases h
      obtain ⟨h1, h2⟩ := pick_ok e2
      refine ⟨by simp [h1], fun i => ?_⟩
      cases i with
      | zero => simp [e1]
      | succ i => simpa using h2 i
    · cases h
/-- the store of some lists alone -/
theorem RepS.pick (r : RepS K m H S) {ls : List Nat} {T : Sto} (nd : ls.Nodup) (e : pick S ls = some T) : RepS K (ls.filterMap (m[·]?)) H T ∧ (∀ n ∈ ls, n < m.length) := by
  obtain ⟨h1, h2⟩ := pick_ok e
  have lt : ∀ n ∈ ls, n < m.length := fun n hn => by
    obtain ⟨i, hi⟩ := List.getElem?_of_mem hn
    have h3 := h2 i
    rw [hi] at h3
    have : i < T.length := by rw [h1]; exact (List.getElem?_eq_some_iff.mp hi).1
    rw [List.getElem?_eq_getElem this] at h3
    have h4 : S[n]? = some T[i] := h3.symm
    rw [r.len]; exact (List.getElem?_eq_some_iff.mp h4).1
  have get : ∀ i : Nat, (ls.filterMap (m[·]?))[i]? = ls[i]?.bind (m[·]?) := filterMap_get lt
  refine ⟨⟨?_, by rw [filterMap_len lt, h1], fun n o e1 => ?_, r.tab⟩, lt⟩
  · have inj : ∀ {ls : List Nat}, ls.Nodup → (∀ n ∈ ls, n < m.length) → (ls.filterMap (m[·]?)).Nodup := by
      intro ls
      induction ls with
      | nil => intro _ _; simp
      | cons n ls ih =>
        intro h1 h2
        rw [List.filterMap_cons, List.getElem?_eq_getElem (h2 n (by simp))]
        refine List.nodup_cons.mpr ⟨fun hm => ?_, ih (List.nodup_cons.mp h1).2 fun k hk => h2 k (by simp [hk])⟩
        obtain ⟨j, hj, e⟩ := List.mem_filterMap.mp hm
        obtain ⟨l1, e1⟩ := List.getElem?_eq_some_iff.mp e
        have := (List.getElem_inj r.nd).mp e1
        subst this
        exact (List.nodup_cons.mp h1).1 hj
    exact inj nd lt
  · rw [h2, Option.bind_eq_some_iff] at e1
    obtain ⟨j, e2, e3⟩ := e1
    obtain ⟨a, h3, h4⟩ := r.at_ j o e3
    exact ⟨a, by rw [get, e2]; exact h3, h4⟩
theorem renum_len : ∀ (rs : List R) (k : Nat), (renum k rs).length = rs.length
  | [], _ => rfl
  | x :: r, k => by rw [renum, List.length_cons, List.length_cons, renum_len r]
mutual
theorem renR_at {mm : List Addr} : ∀ (x : R) (k : Nat) (v : V), RepR K m H x v → (∀ i n, (locR x)[i]? = some n → ∀ a, m[n]? = some a → mm[k + i]? = some a) → RepR K mm H (renR k x) v
  | .d _, _, _, h, _ => h
  | .ro _, _, _, h, _ => h
  | .ex _, _, _, h, _ => h
  | .ad _, _, _, h, _ => h
  | .loc n, k, v, ⟨a, h1, h2⟩, hh => ⟨a, by simpa using hh 0 n rfl a h1, h2⟩
  | .tr xs, k, v, ⟨a, vs, e, h, r⟩, hh => ⟨a, vs, e, h, renum_at xs k vs r hh⟩
theorem renum_at {mm : List Addr} : ∀ (rs : List R) (k : Nat) (vs : List V), RepRs K m H rs vs → (∀ i n, (argLocs rs)[i]? = some n → ∀ a, m[n]? = some a → mm[k + i]? = some a) → RepRs K mm H (renum k rs) vs
  | [], _, _, h, _ => h
  | x :: rs, k, _, ⟨v, r, e, h, t⟩, hh => ⟨v, r, e, renR_at x k v h (fun i n e1 a h3 => hh i n (by
      rw [argLocs, List.getElem?_append_left (List.getElem?_eq_some_iff.mp e1).1]; exact e1) a h3), renum_at rs _ r t fun i n e1 a h3 => by
      have := hh ((locR x).length + i) n (by rw [argLocs, List.getElem?_append_right (by omega), Nat.add_sub_cancel_left]; exact e1) a h3
      rw [Nat.add_assoc]; exact this⟩
end
theorem putAll_len : ∀ {ls : List Nat} {S T : Sto}, (putAll S ls T).length = S.length
  | [], S, T => by unfold putAll; rfl
  | n :: ls, S, [] => by unfold putAll; rfl
  | n :: ls, S, o :: T => by unfold putAll; rw [putAll_len, List.length_set]
theorem putAll_out {n : Nat} : ∀ {ls : List Nat} {S T : Sto}, n ∉ ls → (putAll S ls T)[n]? = S[n]?
  | [], S, T, _ => by unfold putAll; rfl
  | k :: ls, S, [], _ => by unfold putAll; rfl
  | k :: ls, S, o :: T, h => by
    unfold putAll
    rw [putAll_out (fun q => h (by simp [q])), List.getElem?_set_ne (fun q => h (by simp [q]))]
theorem putAll_in {n i : Nat} {o : O} : ∀ {ls : List Nat} {S T : Sto}, ls.Nodup → (putAll S ls T)[n]? = some o → ls[i]? = some n → i < T.length → T[i]? = some o
  | [], S, T, _, _, h, _ => by simp at h
  | k :: ls, S, [], _, _, _, h => by simp at h
  | k :: ls, S, p :: T, nd, e, h, hl => by
    unfold putAll at e
    cases i with
    | zero =>
      simp at h; subst h
      rw [putAll_out (List.nodup_cons.mp nd).1] at e
      have hk : k < S.length := by
        by_cases hk : k < S.length
        · exact hk
        · rw [List.getElem?_eq_none (by simpa using hk)] at e; cases e
      rw [List.getElem?_set_self hk] at e
      exact e
    | succ i => exact putAll_in (i := i) (List.nodup_cons.mp nd).2 e (by simpa using h) (by simpa using hl)
/-- behind a call: the caller's numbers again -/
theorem call_back {ls : List Nat} {T' : Sto} {m' : List Addr} (r : RepS K m H S) (nd : ls.Nodup) (lt : ∀ n ∈ ls, n < m.length) (g : Grow (ls.filterMap (m[·]?)) H m' H1) (r' : RepS K m' H1 T') :
    Grow m H m H1 ∧ RepS K m H1 (putAll S ls T') := by
  have get : ∀ i : Nat, (ls.filterMap (m[·]?))[i]? = ls[i]?.bind (m[·]?) := filterMap_get lt
  have sub : ∀ b, b ∈ ls.filterMap (m[·]?) → b ∈ m := fun b hb => by
    obtain ⟨n, _, e⟩ := List.mem_filterMap.mp hb
    exact List.mem_of_getElem? e
  refine ⟨⟨fun _ _ h => h, g.tup, g.frz, g.xt, fun b o e hb hn => g.frame b o e (fun q => hb (sub b q)) hn, fun _ h n => absurd h n, g.tb⟩, ⟨r.nd, by rw [putAll_len, r.len], fun n o e => ?_, r'.tab⟩⟩
  have hn : n < m.length := by
    have := (List.getElem?_eq_some_iff.mp e).1
    rw [putAll_len, ← r.len] at this; exact this
  refine ⟨m[n], List.getElem?_eq_getElem hn, ?_⟩
  by_cases hm : n ∈ ls
  · obtain ⟨i, hi⟩ := List.getElem?_of_mem hm
    have h1 : m'[i]? = some m[n] := g.pre i _ (by rw [get, hi]; exact List.getElem?_eq_getElem hn)
    have hl : i < T'.length := by rw [← r'.len]; exact (List.getElem?_eq_some_iff.mp h1).1
    have h2 := putAll_in nd e hi hl
    obtain ⟨a, h3, h4⟩ := r'.at_ i o h2
    rw [h1] at h3; cases h3
    exact h4
  · rw [putAll_out hm] at e
    obtain ⟨a, h1, h2⟩ := r.at_ n o e
    rw [List.getElem?_eq_getElem hn] at h1; cases h1
    obtain ⟨u, h3⟩ := h2.some
    refine h2.grow g ?_
    rw [h3]
    refine g.frame _ _ h3 (fun q => ?_) (h2.ntbl h3)
    obtain ⟨k, hk, e1⟩ := List.mem_filterMap.mp q
    obtain ⟨l1, e2⟩ := List.getElem?_eq_some_iff.mp e1
    have := (List.getElem_inj r.nd).mp e2
    subst this
    exact hm hk
end
section
variable {X : Cx} {e : Expr} {es : List Expr} {was : PA1}
abbrev wCall (sp : SpZ) (n : Nat) (ws : PA1) : PE1 := fun r S W => ws r S fun xs S1 => bindVs xs S1 fun rs S2 => callL sp n rs S2 W
theorem rsOf_ok {K : PySem.W.Frag} {m : List Addr} {H H0 : Hp} : ∀ {xs : List SV} {vs : List V} {rs : List R}, RepVs K m H H0 xs vs → rsOf xs = some rs → RepRs K m H rs vs
  | [], _, _, h, e => by simp [rsOf] at e; subst e; exact h
  | .r x :: xs, _, _, ⟨v, r, e1, h, t⟩, e => by
    simp only [rsOf, Option.map_eq_some_iff] at e
    obtain ⟨rs, e2, rfl⟩ := e
    exact ⟨v, r, e1, h, rsOf_ok t e2⟩
  | .f _ :: _, _, _, _, e => by cases e
theorem bindVs_ok {K : PySem.W.Frag} {m0 : List Addr} {H0 H : Hp} : ∀ {xs : List SV} {vs : List V} {m : List Addr} {S : Sto} {W : List R → Sto → Prop}, Grow m0 H0 m H → RepS K m H S → RepVs K m H H0 xs vs → bindVs xs S W →
    ∃ rs S' m', W rs S' ∧ Grow m0 H0 m' H ∧ RepS K m' H S' ∧ RepRs K m' H rs vs ∧ ∀ (n : Nat) a, m[n]? = some a → m'[n]? = some a
  | [], vs, m, S, W, g, r, q, w => ⟨[], S, m, w, g, r, q, fun _ _ h => h⟩
  | .r x :: xs, _, m, S, W, g, r, ⟨v, us, e, h, t⟩, w => by
    obtain ⟨rs, S', m', w', g', r', q', p'⟩ := bindVs_ok (xs := xs) g r t w
    exact ⟨x :: rs, S', m', w', g', r', ⟨v, us, e, RepR.pre p' x v h, q'⟩, p'⟩
  | .f l :: xs, _, m, S, W, g, r, ⟨v, us, e, h, t⟩, w => by
    unfold bindVs at w
    split at w
    · rename_i rs e1
      obtain ⟨a, vs, e2, h1, h2, h3, h4⟩ := h
      refine ⟨_, _, m ++ [a], w, Grow.push h3 g, r.push h2 h1 h4, ⟨v, us, e, ⟨a, by rw [← r.len]; simp, e2⟩, RepRs.pre pre_push _ _ (rsOf_ok t e1)⟩, pre_push⟩
    · exact w.elim
theorem callL_ok {K : PySem.W.Frag} {n : Nat} {sp : SpZ} {m0 m : List Addr} {H0 H : Hp} {S : Sto} {rs : List R} {vs : List V} {W : PK1} {Q : VK} {E : XK} (g : Grow m0 H0 m H) (r : RepS K m H S) (q : RepRs K m H rs vs)
    (w : callL sp n rs S W) (f : Fin K m0 H0 W Q) : liftSp K n sp vs H Q E := by
  obtain ⟨⟨hn, nd⟩, w⟩ := w
  split at w
  · rename_i T eT
    obtain ⟨rT, lt⟩ := r.pick nd eT
    have get : ∀ i : Nat, ((argLocs rs).filterMap (m[·]?))[i]? = (argLocs rs)[i]?.bind (m[·]?) := filterMap_get lt
    have hn' : (renum 0 rs).length = n := by rw [renum_len]; exact hn
    refine ⟨(argLocs rs).filterMap (m[·]?), renum 0 rs, T, _, hn', renum_at rs 0 vs q (fun i k e1 a e2 => by rw [Nat.zero_add, get, e1]; exact e2), rT, w, fun x T' v m' H' h' g' r' q' => ?_⟩
    obtain ⟨g1, r1⟩ := call_back r nd lt g' r'
    have gg := g.trans g1
    have fresh : ∀ {j : Nat} {a : Addr}, (argLocs rs).length ≤ j → m'[j]? = some a → a ∉ (argLocs rs).filterMap (m[·]?) := fun {j a} hj e hm => by
      obtain ⟨i, hi⟩ := List.getElem?_of_mem hm
      have e1 := g'.pre i a hi
      have hl := (List.getElem?_eq_some_iff.mp hi).1
      rw [filterMap_len lt] at hl
      obtain ⟨l1, e2⟩ := List.getElem?_eq_some_iff.mp e1
      obtain ⟨l2, e3⟩ := List.getElem?_eq_some_iff.mp e
      have := (List.getElem_inj r'.nd).mp (e2.trans e3.symm)
      omega
    have fresh0 : ∀ {j : Nat} {a : Addr}, (argLocs rs).length ≤ j → m'[j]? = some a → H a = none := fun {j a} hj e => g'.new a (List.mem_of_getElem? e) (fresh hj e)
    unfold backL at h'
    cases x with
    | d y => exact f _ _ v m H' h' gg r1 q'
    | ro y => exact f _ _ v m H' h' gg r1 q'
    | ex y => exact f _ _ v m H' h' gg r1 q'
    | ad y => exact f _ _ v m H' h' gg r1 q'
    | loc j =>
      simp only at h'
      obtain ⟨a, e1, rfl⟩ := q'
      split at h'
      · rename_i hj
        split at h'
        · rename_i k e2
          have e3 : m'[j]? = m[k]? := by
            have hk := lt k (List.mem_of_getElem? e2)
            have := g'.pre j (m[k]) (by rw [get, e2]; exact List.getElem?_eq_getElem hk)
            rw [this, List.getElem?_eq_getElem hk]
          exact f _ _ _ m H' h' gg r1 ⟨a, by rw [← e3]; exact e1, rfl⟩
        · exact h'.elim
      · rename_i hj
        split at h'
        · rename_i xs e2
          obtain ⟨a', e3, us, k1, k2⟩ := r'.at_ j _ e2
          rw [e1] at e3; cases e3
          have hH := fresh0 (by omega) e1
          exact f _ _ _ m H' h' gg r1 ⟨a, us, rfl, k1, r.notmem hH, g.fresh r hH, k2⟩
        · rename_i e2
          obtain ⟨a', e3, k1⟩ := r'.at_ j _ e2
          rw [e1] at e3; cases e3
          have hH := fresh0 (by omega) e1
          exact f _ _ _ (m ++ [a]) H' h' (Grow.push (g.fresh r hH) gg) (r1.pushO (r.notmem hH) k1) ⟨a, by rw [← r.len]; simp, rfl⟩
        · rename_i e2
          obtain ⟨a', e3, k1⟩ := r'.at_ j _ e2
          rw [e1] at e3; cases e3
          have hH := fresh0 (by omega) e1
          exact f _ _ _ (m ++ [a]) H' h' (Grow.push (g.fresh r hH) gg) (r1.pushO (r.notmem hH) k1) ⟨a, by rw [← r.len]; simp, rfl⟩
        · exact h'.elim
    | tr xs =>
      obtain ⟨t2, t3, h'⟩ := h'
      split at h'
      · rename_i U eU
        obtain ⟨rU, ltU⟩ := r'.pick t2 eU
        have getU : ∀ i : Nat, ((argLocs xs).filterMap (m'[·]?))[i]? = (argLocs xs)[i]?.bind (m'[·]?) := filterMap_get ltU
        have out : ∀ b, b ∈ (argLocs xs).filterMap (m'[·]?) → H b = none := fun b hb => by
          obtain ⟨k, hk, e⟩ := List.mem_filterMap.mp hb
          exact fresh0 (t3 k hk) e
        obtain ⟨a, us, ev, k1, k2⟩ := q'
        refine f _ _ v (m ++ (argLocs xs).filterMap (m'[·]?)) H' h' ⟨fun i b e => ?_, gg.tup, gg.frz, gg.xt, gg.frame, fun b hb hm => ?_, gg.tb⟩ ⟨?_, by rw [List.length_append, List.length_append, r1.len, rU.len], fun i o e => ?_, r1.tab⟩ ⟨a, us, ev, k1, ?_⟩
        · have := gg.pre i b e
          rw [List.getElem?_append_left (List.getElem?_eq_some_iff.mp this).1]; exact this
        · rcases List.mem_append.mp hb with z | z
          · exact gg.new b z hm
          · exact g.fresh r (out b z)
        · rw [List.nodup_append]
          exact ⟨r1.nd, rU.nd, fun b hb c hc e => by subst e; exact r.notmem (out b hc) hb⟩
        · by_cases hi : i < (putAll S (argLocs rs) T').length
          · rw [List.getElem?_append_left hi] at e
            obtain ⟨b, h1, h2⟩ := r1.at_ i o e
            exact ⟨b, by rw [List.getElem?_append_left (by rw [r1.len]; exact hi)]; exact h1, h2⟩
          · rw [List.getElem?_append_right (by omega)] at e
            obtain ⟨b, h1, h2⟩ := rU.at_ _ o e
            exact ⟨b, by rw [List.getElem?_append_right (by rw [r1.len]; omega), r1.len]; exact h1, h2⟩
        · refine renum_at _ _ _ k2 fun i k e1 b e2 => ?_
          rw [← r.len, List.getElem?_append_right (by omega), Nat.add_sub_cancel_left, getU, e1]
          exact e2
      · exact h'.elim
  · exact w.elim
theorem we_call {k n : Nat} {x : Str} {p pos : Pos} {sp : SpZ} (F : FnZ X.prog X.w X.K X.mg X.base k x n sp) (hr : Room k X.A) (hg : Gl X x) (ha : WA X (e :: es) was) (hdb : (x == ("__debug__" : Str)) = false := by decide)
    (he : starEach (e :: es) X.env = (false, eval e X.env) :: starEach es X.env := by rfl) (hpl : (backTo pos (starEach es X.env)).any (·.1) = false := by rfl) : WE X (.Call (.Name x p) (e :: es) [] pos) (wCall sp n was) := by
  obtain ⟨f, fd, ps, h1, h2, h3, h4, h5⟩ := F.ok
  have hp := pe_call (E := E0) (p := p) h5 hr hg h2 h3 h4 .nil pass0 ha.pa hdb he hpl
  refine ⟨⟨fun pins s z H Q I ⟨m, r, S, W, hE, hS, hw, hf⟩ => hp.run pins s z H Q I ⟨m, r, S, _, hE, hS, hw, fun xs S1 vs m1 H1 k1 g1 r1 q1 => ?_⟩⟩⟩
  obtain ⟨rs, S2, m2, w2, g2, r2, q2, _⟩ := bindVs_ok g1 r1 q1 k1
  rw [List.append_nil]
  exact callL_ok g2 r2 q2 w2 hf
end
/-- the slots at the entry -/
abbrev start1 (n : Nat) (rs : List R) : Rho := rs.map some ++ List.replicate (n - rs.length) none
section
variable {P : Program} {w : World} {K : PySem.W.Frag} {mg : Str → Option Value} {base : Heap}
/-- behind a return: the lists handed in, and the list handed back, if it is a new one -/
abbrev retN (k : Nat) (W : R → Sto → Prop) : R → Sto → Prop := fun x S => match x with
  | .d y => W (.d y) (S.take k)
  | .ro y => W (.ro y) (S.take k)
  | .ex y => W (.ex y) (S.take k)
  | .ad y => W (.ad y) (S.take k)
  | .loc j => if j < k then W (.loc j) (S.take k) else match S[j]? with
    | some o => W (.loc k) (S.take k ++ [o])
    | none => False
  | .tr xs => W (.tr xs) S
theorem retN_ok {m0 m' : List Addr} {H0 H' : Hp} {S' : Sto} {x : R} {v : V} {k : Nat} {W : R → Sto → Prop} (hk : m0.length = k) (g : Grow m0 H0 m' H') (r : RepS K m' H' S') (q : RepR K m' H' x v) (w : retN k W x S') :
    ∃ y T m2, W y T ∧ Grow m0 H0 m2 H' ∧ RepS K m2 H' T ∧ RepR K m2 H' y v := by
  have hle : k ≤ S'.length := by
    rw [← r.len, ← hk]
    by_cases h : m0.length = 0
    · omega
    · have h1 : m0.length - 1 < m0.length := by omega
      have := (List.getElem?_eq_some_iff.mp (g.pre (m0.length - 1) _ (List.getElem?_eq_getElem h1))).1
      omega
  have e0 : (List.range k).filterMap (S'[·]?) = S'.take k := by
    have go : ∀ n, n ≤ S'.length → (List.range n).filterMap (S'[·]?) = S'.take n := by
      intro n
      induction n with
      | zero => intro _; simp
      | succ n ih =>
        intro h
        have hn : n < S'.length := by omega
        rw [List.range_succ, List.filterMap_append, ih (by omega), List.take_add_one, List.getElem?_eq_getElem hn, List.filterMap_cons, List.getElem?_eq_getElem hn]
        rfl
    exact go k hle
  have cut0 : ∀ y : R, kept (List.range k) (some y) = some y → RepR K m' H' y v → ∃ m2, Grow m0 H0 m2 H' ∧ RepS K m2 H' (S'.take k) ∧ RepR K m2 H' y v := fun y hy qy => by
    obtain ⟨m2, a, b, c⟩ := Cut.ok (K := K) (r := [some y]) (s := [some v]) (r' := [some y].map (kept (List.range k))) (S' := (List.range k).filterMap (S'[·]?)) (.inr ⟨_, List.nodup_range, by rw [List.take_range]; simp, fun n hn => by have := List.mem_range.mp hn; omega, rfl, rfl⟩) hk g
      ⟨rfl, fun i z e => by
        cases i with
        | zero => simp at e; subst e; exact ⟨v, rfl, qy⟩
        | succ i => simp at e⟩ r
    rw [e0] at c
    obtain ⟨u, h1, h2⟩ := b.at_ 0 y (by simp [hy])
    simp at h1; subst h1
    exact ⟨m2, a, c, h2⟩
  unfold retN at w
  split at w
  · obtain ⟨m2, a, b, c⟩ := cut0 _ rfl q
    exact ⟨_, _, m2, w, a, b, c⟩
  · obtain ⟨m2, a, b, c⟩ := cut0 _ rfl q
    exact ⟨_, _, m2, w, a, b, c⟩
  · obtain ⟨m2, a, b, c⟩ := cut0 _ rfl q
    exact ⟨_, _, m2, w, a, b, c⟩
  · obtain ⟨m2, a, b, c⟩ := cut0 _ rfl q
    exact ⟨_, _, m2, w, a, b, c⟩
  · rename_i j
    split at w
    · rename_i hj
      obtain ⟨m2, a, b, c⟩ := cut0 (.loc j) (by simp only [kept, List.mem_range, hj, if_true]; congr 2; exact (by
        have : ∀ n, j < n → (List.range n).idxOf j = j := by
          intro n
          induction n with
          | zero => intro h; omega
          | succ n ih =>
            intro h
            rw [List.range_succ, List.idxOf_append]
            by_cases hh : j < n
            · rw [if_pos (List.mem_range.mpr hh)]; exact ih hh
            · rw [if_neg (by simpa using hh)]
              have : j = n := by omega
              subst this; simp
        exact this k hj)) q
      exact ⟨_, _, m2, w, a, b, c⟩
    · rename_i hj
      split at w
      · rename_i o eo
        have hjl := (List.getElem?_eq_some_iff.mp eo).1
        have nm : j ∉ List.range k := by simp; omega
        obtain ⟨m2, a, b, c⟩ := Cut.ok (K := K) (r := [some (.loc j)]) (s := [some v]) (r' := [some (.loc j)].map (kept (List.range k ++ [j]))) (S' := (List.range k ++ [j]).filterMap (S'[·]?))
          (.inr ⟨_, by rw [List.nodup_append]; exact ⟨List.nodup_range, by simp, fun x hx y hy e => by simp at hy; subst hy; subst e; exact nm hx⟩, by rw [List.take_append]; simp [List.take_range], fun n hn => by
            rcases List.mem_append.mp hn with z | z
            · have := List.mem_range.mp z; omega
            · simp at z; omega, rfl, rfl⟩) hk g
          ⟨rfl, fun i z e => by
            cases i with
            | zero => simp at e; subst e; exact ⟨v, rfl, q⟩
            | succ i => simp at e⟩ r
        rw [List.filterMap_append, e0, List.filterMap_cons, eo] at c
        have hk2 : kept (List.range k ++ [j]) (some (R.loc j)) = some (.loc k) := by
          simp only [kept]
          rw [if_pos (by simp)]
          congr 2
          rw [List.idxOf_append, if_neg nm]
          simp
        obtain ⟨u, h1, h2⟩ := b.at_ 0 (.loc k) (by simp [hk2])
        simp at h1; subst h1
        exact ⟨_, _, m2, w, a, c, h2⟩
      · exact w.elim
  · exact ⟨_, _, m', w, g, r, q⟩
/-- THE RULE: a def by its body's combinators, and their reading -/
theorem fn_ok {x : Str} {st : Stmt} {f : Addr} {fd : FuncData} {N ps : List Str} {k : Nat} {wb : PS1} {sp : SpZ} (F : Fun K x x st f fd) (sc : FnScope N ps (defScope st))
    (hbody : ∀ (cdv : Value) (A : Around) (outer : List Env) (s : Shared) (H : Hp) (E : XK), Room k (A.deeper (envOfC x (defScope st) s.heap.objs.size f cdv)) →
      WSs (cxOf CX0 P w K mg base N x (defScope st) f cdv A outer s H E).nox (defBody st) wb)
    (hread : ∀ rs S W, rs.length = ps.length → sp rs S W → wb { nx := fun _ S1 => retN S.length W (.d .non) S1, rt := retN S.length W } (start1 N.length rs) S) : FnOk P w K mg base CX0 (k + 1) f fd ps (liftSp K ps.length sp) := by
  refine F.ok sc (fun vs H Q E ⟨m, rs, S, W, hl, q, _⟩ => (RepRs.len q).trans hl) fun cdv A outer s H vs Q E hr ⟨m, rs, S, W, hl, q, hS, hsp, hf⟩ => ⟨_, (hbody cdv A outer s H E hr).pss, ?_⟩
  refine ⟨m, start1 N.length rs, S, _, ?_, hS, hread rs S W hl hsp, ⟨fun r' S' s' m' H' n g e q' => (by
      obtain ⟨y, T, m2, a, b, c, d⟩ := retN_ok (K := K) (x := .d .non) (v := .non) hS.len g q' rfl n
      exact hf y T .non m2 H' a b c d), fun y S' v m' H' n g q' w' => (by
      obtain ⟨y2, T, m2, a, b, c, d⟩ := retN_ok hS.len g q' w' n
      exact hf y2 T v m2 H' a b c d), fun _ _ _ _ _ n => n.elim, fun _ _ _ _ _ n => n.elim⟩⟩
  refine ⟨?_, fun i y e => ?_⟩
  · unfold L2.start Z.start1
    simp [RepRs.len q]
  · unfold start1 at e
    by_cases hi : i < rs.length
    · rw [List.getElem?_append_left (by simpa using hi), List.getElem?_map, Option.map_eq_some_iff] at e
      obtain ⟨z, e1, e2⟩ := e
      cases e2
      obtain ⟨v, h1, h2⟩ := RepRs.get q e1
      refine ⟨v, ?_, h2⟩
      unfold L2.start
      rw [List.getElem?_append_left (by rw [List.length_map, RepRs.len q]; exact hi), List.getElem?_map, h1]
      rfl
    · rw [List.getElem?_append_right (by simpa using hi)] at e
      rw [List.getElem?_replicate] at e
      split at e <;> cases e
theorem fn_def {x : Str} {st : Stmt} {f : Addr} {fd : FuncData} {N ps : List Str} {k : Nat} {wb : PS1} {sp : SpZ} (F : Fun K x x st f fd) (hm : mg x = some (.ref f)) (hb : Binds K fd ps []) (sc : FnScope N ps (defScope st))
    (hbody : ∀ (cdv : Value) (A : Around) (outer : List Env) (s : Shared) (H : Hp) (E : XK), Room k (A.deeper (envOfC x (defScope st) s.heap.objs.size f cdv)) →
      WSs (cxOf CX0 P w K mg base N x (defScope st) f cdv A outer s H E).nox (defBody st) wb)
    (hread : ∀ rs S W, rs.length = ps.length → sp rs S W → wb { nx := fun _ S1 => retN S.length W (.d .non) S1, rt := retN S.length W } (start1 N.length rs) S) : FnZ P w K mg base (k + 1) x ps.length sp :=
  ⟨f, fd, ps, rfl, hm, F.kp, hb, fn_ok F sc hbody hread⟩
/-- a def of the text, as the top left it -/
structure DefAt (K : PySem.W.Frag) (mg : Str → Option Value) (x : Str) (st : Stmt) (ps : List Str) : Prop where
  ex : ∃ f fd, Fun K x x st f fd ∧ mg x = some (.ref f) ∧ Binds K fd ps []
theorem DefAt.mk' {h : Heap} {x : Str} {st : Stmt} {ps : List Str} {f : Addr} {oc : Value} {od an : Option Addr} {osl : Array (Option Value)} {kV doc pm cdv ct : Value} (X : K.In h) (G : h.Ns mainGlobals mg)
    (a : PySem.W.nsIn K mainGlobals x = some (some (.ref f))) (l : K.lookup f = some ⟨oc, od, .func (PySem.W.fnOf x x (defArgs st) (defBody st) (defScope st) .none kV doc pm an cdv ct), osl⟩)
    (c : PySem.W.codeIn K cdv x = true) (k : PySem.W.keepIn K (.ref f) = true)
    (b : ∀ (kV doc pm : Value) (an : Option Addr) (cdv ct : Value) (us : List Value), us.length = ps.length → bindArgs (PySem.W.fnOf x x (defArgs st) (defBody st) (defScope st) .none kV doc pm an cdv ct) ⟨us, []⟩ = pure (ps.zip us)) : DefAt K mg x st ps :=
  have F := fun_mk (st := st) l c k
  ⟨f, _, F, PySem.W.mg_of X G a, F.binds b⟩
theorem DefAt.fn {x : Str} {st : Stmt} {N ps : List Str} {k : Nat} {wb : PS1} {sp : SpZ} (d : DefAt K mg x st ps) (sc : FnScope N ps (defScope st))
    (hbody : ∀ (f : Addr) (cdv : Value) (A : Around) (outer : List Env) (s : Shared) (H : Hp) (E : XK), Room k (A.deeper (envOfC x (defScope st) s.heap.objs.size f cdv)) →
      WSs (cxOf CX0 P w K mg base N x (defScope st) f cdv A outer s H E).nox (defBody st) wb)
    (hread : ∀ rs S W, rs.length = ps.length → sp rs S W → wb { nx := fun _ S1 => retN S.length W (.d .non) S1, rt := retN S.length W } (start1 N.length rs) S) : FnZ P w K mg base (k + 1) x ps.length sp :=
  let ⟨f, _, F, hm, hb⟩ := d.ex
  fn_def F hm hb sc (hbody f) hread
end
/-- the law's own promise: of a list that nobody writes it hands back True -/
def spLaw (P : List Int → Prop) : SpZ := fun rs S W => match rs, S with
  | [.ro xs], [] => ∃ ns : List Int, xs = ns.map D.int ∧ P ns ∧ W (.d (.bl true)) []
  | _, _ => False
end Z
namespace Z
open PySem PySem.Spec PyProof.Rows L2 RZ
/-- the script: at most 63 ints, each of at most 2 ^ 20 bits -/
def SB : Nat := 1048577
def Script (ns : List Int) : Prop := ns.length ≤ 63 ∧ ∀ z ∈ ns, z.natAbs < 2 ^ SB
theorem bits_lt {z : Int} (h : Builtin.Int.intBits z ≤ 1048576) : z.natAbs < 2 ^ SB := by
  by_cases hz : z = 0
  · subst hz; exact Nat.two_pow_pos _
  · unfold Builtin.Int.intBits at h
    rw [if_neg (by simpa using hz)] at h
    exact Nat.lt_of_lt_of_le ((Nat.log2_lt (by omega)).mp (Nat.lt_of_lt_of_le (Nat.lt_succ_self _) h)) (Nat.pow_le_pow_right (by decide) (by unfold SB; decide))
theorem law_start {K : PySem.W.Frag} {H : Hp} {a : Addr} {ns : List Int} (hl : ns.length ≤ 63) (hb : ∀ z ∈ ns, Builtin.Int.intBits z ≤ 1048576) (hO : Only H) (hS : SqL K H a (ns.map V.int)) (nt : ∀ P, ¬ LamTab K P) :
    liftSp K 1 (spLaw Script) [.ref a] H (fun v _ => v = .bl true) fun _ _ _ => False := by
  refine ⟨[], [.ro (ns.map D.int)], [], fun x _ => x = .d (.bl true), rfl, ⟨.ref a, [], rfl, ⟨a, ns.map V.int, rfl, ?_, repInts ns⟩, rfl⟩, ⟨List.nodup_nil, rfl, fun _ _ e => by simp at e, fun P hP => (nt P hP).elim⟩, ⟨ns, rfl, ⟨hl, fun z hz => bits_lt (hb z hz)⟩, rfl⟩, fun x S' v m' H' w _ _ q => by subst w; exact q⟩
  rcases hS with (h | ⟨o, h⟩) | h
  · rcases hO a with n | ⟨o, xs, n⟩
    · rw [n] at h; cases h
    · rw [n] at h; cases h
  · exact .inl ⟨o, h⟩
  · exact .inr h
end Z
set_option Elab.async false
set_option linter.all false
/-! M1: rows of whole numbers, what divides all of them, their plain form. Plain mathematics. -/
namespace Z
theorem cdvd {d : Nat} {x : Int} : (d : Int) ∣ x ↔ d ∣ x.natAbs := by
  rw [← Int.natAbs_dvd_natAbs]; simp
/-- what divides all of a row -/
def gl : List Int → Nat
  | [] => 0
  | x :: xs => Nat.gcd x.natAbs (gl xs)
theorem gl_dvd : ∀ {xs : List Int} {x : Int}, x ∈ xs → (gl xs : Int) ∣ x
  | y :: ys, x, h => by
    rcases List.mem_cons.mp h with e | e
    · subst e
      exact cdvd.mpr (Nat.gcd_dvd_left _ _)
    · have := gl_dvd e
      exact Int.dvd_trans (Int.natCast_dvd_natCast.mpr (Nat.gcd_dvd_right _ _)) this
theorem gl_zero : ∀ {xs : List Int}, gl xs = 0 → ∀ x ∈ xs, x = 0
  | xs, h, x, hx => by
    have := gl_dvd hx
    rw [h] at this
    simpa using this
theorem gl_pos {xs : List Int} (h : ∃ x ∈ xs, x ≠ 0) : 0 < gl xs := by
  obtain ⟨x, hx, h0⟩ := h
  exact Nat.pos_of_ne_zero fun e => h0 (gl_zero e x hx)
theorem gl_le {xs : List Int} {x : Int} (hx : x ∈ xs) (h0 : x ≠ 0) : gl xs ≤ x.natAbs := Nat.le_of_dvd (by omega) (cdvd.mp (gl_dvd hx))
theorem gl_map_mul (k : Int) : ∀ xs : List Int, gl (xs.map (k * ·)) = k.natAbs * gl xs
  | [] => by simp [gl]
  | x :: xs => by
    simp only [List.map_cons, gl, gl_map_mul k xs, Int.natAbs_mul, Nat.gcd_mul_left]
/-- the sign of the first number that isn't 0 -/
def fs : List Int → Int
  | [] => 1
  | x :: xs => if x = 0 then fs xs else if x < 0 then -1 else 1
theorem fs_or : ∀ xs : List Int, fs xs = 1 ∨ fs xs = -1
  | [] => .inl rfl
  | x :: xs => by
    unfold fs
    split
    · exact fs_or xs
    · split
      · exact .inr rfl
      · exact .inl rfl
theorem fs_sq (xs : List Int) : fs xs * fs xs = 1 := by rcases fs_or xs with e | e <;> rw [e] <;> rfl
theorem fs_mul {k : Int} (hk : k ≠ 0) : ∀ {xs : List Int}, (∃ x ∈ xs, x ≠ 0) → fs (xs.map (k * ·)) = (if k < 0 then -1 else 1) * fs xs
  | [], h => by simp at h
  | x :: xs, h => by
    by_cases hx : x = 0
    · subst hx
      have h' : ∃ x ∈ xs, x ≠ 0 := by
        obtain ⟨y, hy, h0⟩ := h
        rcases List.mem_cons.mp hy with e | e
        · exact absurd e h0
        · exact ⟨y, e, h0⟩
      simpa [fs] using fs_mul hk h'
    · have hkx : k * x ≠ 0 := Int.mul_ne_zero hk hx
      simp only [List.map_cons, fs, if_neg hx, if_neg hkx]
      by_cases h1 : k < 0
      · by_cases h2 : x < 0
        · rw [if_pos h1, if_pos h2, if_neg (by have := Int.mul_pos_of_neg_of_neg h1 h2; omega)]; rfl
        · rw [if_pos h1, if_neg h2, if_pos (Int.mul_neg_of_neg_of_pos h1 (by omega))]; rfl
      · by_cases h2 : x < 0
        · rw [if_neg h1, if_pos h2, if_pos (Int.mul_neg_of_pos_of_neg (by omega) h2)]; rfl
        · rw [if_neg h1, if_neg h2, if_neg (by have := Int.mul_pos (show 0 < k by omega) (show 0 < x by omega); omega)]; rfl
/-- the row divided by what divides all -/
def prow (xs : List Int) : List Int := xs.map (· / (gl xs : Int))
/-- the plain form: the first number that isn't 0 above 0 -/
def pln (xs : List Int) : List Int := xs.map fun x => fs xs * (x / (gl xs : Int))
theorem prow_mul {xs : List Int} (h : ∃ x ∈ xs, x ≠ 0) : xs = (prow xs).map ((gl xs : Int) * ·) := by
  unfold prow
  rw [List.map_map]
  have : ∀ x ∈ xs, ((fun x => (gl xs : Int) * x) ∘ fun x => x / (gl xs : Int)) x = x := fun x hx => Int.mul_ediv_cancel' (gl_dvd hx)
  conv => lhs; rw [← List.map_id xs]
  exact List.map_congr_left fun x hx => (this x hx).symm
theorem pln_mul {xs : List Int} (h : ∃ x ∈ xs, x ≠ 0) : xs = (pln xs).map ((fs xs * (gl xs : Int)) * ·) := by
  unfold pln
  rw [List.map_map]
  have : ∀ x ∈ xs, ((fun x => fs xs * (gl xs : Int) * x) ∘ fun x => fs xs * (x / (gl xs : Int))) x = x := fun x hx => by
    show fs xs * (gl xs : Int) * (fs xs * (x / (gl xs : Int))) = x
    have e1 := Int.mul_ediv_cancel' (gl_dvd hx)
    have e2 := fs_sq xs
    calc _ = (fs xs * fs xs) * ((gl xs : Int) * (x / (gl xs : Int))) := by grind
      _ = x := by rw [e2, e1, Int.one_mul]
  conv => lhs; rw [← List.map_id xs]
  exact List.map_congr_left fun x hx => (this x hx).symm
theorem nz_map {k : Int} (hk : k ≠ 0) {xs : List Int} (h : ∃ x ∈ xs, x ≠ 0) : ∃ x ∈ xs.map (k * ·), x ≠ 0 := by
  obtain ⟨x, hx, h0⟩ := h
  exact ⟨k * x, List.mem_map.mpr ⟨x, hx, rfl⟩, Int.mul_ne_zero hk h0⟩
theorem nz_of_map {k : Int} {xs : List Int} (h : ∃ x ∈ xs.map (k * ·), x ≠ 0) : ∃ x ∈ xs, x ≠ 0 := by
  obtain ⟨y, hy, h0⟩ := h
  obtain ⟨x, hx, rfl⟩ := List.mem_map.mp hy
  exact ⟨x, hx, fun e => h0 (by subst e; simp)⟩
/-- THE LAW of the plain form: multiples have the same -/
theorem pln_smul {k : Int} (hk : k ≠ 0) {xs : List Int} (h : ∃ x ∈ xs, x ≠ 0) : pln (xs.map (k * ·)) = pln xs := by
  unfold pln
  rw [List.map_map, fs_mul hk h, gl_map_mul]
  refine List.map_congr_left fun x hx => ?_
  have hg := gl_pos h
  show (if k < 0 then -1 else 1) * fs xs * (k * x / ((k.natAbs * gl xs : Nat) : Int)) = fs xs * (x / (gl xs : Int))
  obtain ⟨y, hy⟩ := gl_dvd hx
  have e1 : x / (gl xs : Int) = y := by rw [hy]; exact Int.mul_ediv_cancel_left _ (by omega)
  rw [e1]
  by_cases h1 : k < 0
  · rw [if_pos h1]
    have e2 : k * x = ((k.natAbs * gl xs : Nat) : Int) * (-y) := by
      rw [hy, Int.natCast_mul, show (k.natAbs : Int) = -k by omega]; grind
    rw [e2, Int.mul_ediv_cancel_left _ (by have : 0 < k.natAbs * gl xs := Nat.mul_pos (by omega) hg; omega)]
    grind
  · rw [if_neg h1]
    have e2 : k * x = ((k.natAbs * gl xs : Nat) : Int) * y := by
      rw [hy, Int.natCast_mul, show (k.natAbs : Int) = k by omega]; grind
    rw [e2, Int.mul_ediv_cancel_left _ (by have : 0 < k.natAbs * gl xs := Nat.mul_pos (by omega) hg; omega)]
    grind
theorem fsgl_ne {xs : List Int} (h : ∃ x ∈ xs, x ≠ 0) : fs xs * (gl xs : Int) ≠ 0 := by
  have := gl_pos h
  rcases fs_or xs with e | e <;> rw [e] <;> omega
theorem pln_nz {xs : List Int} (h : ∃ x ∈ xs, x ≠ 0) : ∃ x ∈ pln xs, x ≠ 0 := by
  have e := pln_mul h
  rw [e] at h
  exact nz_of_map h
theorem pln_pln {xs : List Int} (h : ∃ x ∈ xs, x ≠ 0) : pln (pln xs) = pln xs := by
  have := pln_smul (fsgl_ne h) (pln_nz h)
  rw [← pln_mul h] at this
  exact this.symm
/-- rows in one ratio have the same plain form -/
theorem pln_ratio {a b : Int} {xs ys : List Int} (ha : a ≠ 0) (hb : b ≠ 0) (hx : ∃ x ∈ xs, x ≠ 0) (e : xs.map (a * ·) = ys.map (b * ·)) : pln xs = pln ys := by
  have hy : ∃ y ∈ ys, y ≠ 0 := nz_of_map (k := b) (by rw [← e]; exact nz_map ha hx)
  rw [← pln_smul ha hx, e, pln_smul hb hy]
theorem pln_len (xs : List Int) : (pln xs).length = xs.length := by simp [pln]
/-- the numbers grow no greater -/
theorem pln_bd {n : Nat} {xs : List Int} (h : ∃ x ∈ xs, x ≠ 0) (hb : ∀ x ∈ xs, x.natAbs < n) : ∀ x ∈ pln xs, x.natAbs < n := fun x hx => by
  unfold pln at hx
  obtain ⟨y, hy, rfl⟩ := List.mem_map.mp hx
  have h1 := hb y hy
  have hg := gl_pos h
  have e : (fs xs * (y / (gl xs : Int))).natAbs = (y / (gl xs : Int)).natAbs := by rcases fs_or xs with e | e <;> rw [e] <;> simp
  rw [e, Int.natAbs_ediv_of_dvd (gl_dvd hy)]
  exact Nat.lt_of_le_of_lt (Nat.div_le_self _ _) h1
/-- what the loop over a row reckons -/
theorem gl_fold : ∀ (xs : List Int) (g : Nat), xs.foldl (fun g x => Nat.gcd g x.natAbs) g = Nat.gcd g (gl xs)
  | [], g => by simp [gl]
  | x :: xs, g => by simp only [List.foldl_cons, gl, gl_fold xs, Nat.gcd_assoc]
/-- the first number that isn't 0 -/
theorem first_nz : ∀ {xs : List Int}, (∃ x ∈ xs, x ≠ 0) → ∃ y ys, xs.filter (fun x => !(x == 0)) = y :: ys ∧ y ≠ 0 ∧ fs xs = if y < 0 then -1 else 1
  | [], h => by simp at h
  | x :: xs, h => by
    by_cases hx : x = 0
    · subst hx
      have h' : ∃ x ∈ xs, x ≠ 0 := by
        obtain ⟨y, hy, h0⟩ := h
        rcases List.mem_cons.mp hy with e | e
        · exact absurd e h0
        · exact ⟨y, e, h0⟩
      obtain ⟨y, ys, h1, h2, h3⟩ := first_nz h'
      exact ⟨y, ys, by simpa [List.filter_cons] using h1, h2, by simpa [fs] using h3⟩
    · exact ⟨x, xs.filter (fun x => !(x == 0)), by simp [List.filter_cons, hx], hx, by simp [fs, hx]⟩
theorem prow_nz {xs : List Int} (h : ∃ x ∈ xs, x ≠ 0) : ∃ x ∈ prow xs, x ≠ 0 := by
  have e := prow_mul h
  rw [e] at h
  exact nz_of_map h
theorem fs_prow {xs : List Int} (h : ∃ x ∈ xs, x ≠ 0) : fs (prow xs) = fs xs := by
  have hg := gl_pos h
  have e := congrArg fs (prow_mul h)
  rw [fs_mul (by omega) (prow_nz h), if_neg (by omega), Int.one_mul] at e
  exact e.symm
theorem pln_prow (xs : List Int) : pln xs = (prow xs).map (fs xs * ·) := by
  unfold pln prow
  rw [List.map_map]; rfl
end Z
set_option Elab.async false
set_option linter.all false
set_option maxRecDepth 100000
set_option exponentiation.threshold 20000
/-! Z7: helps for readings: sizes, loops over lists of any length. -/
namespace Z
open PySem PySem.Spec PyProof.Rows L2 RZ
/-! ### sizes -/
/-- below 2 ^ n -/
structure Bd (n : Nat) (i : Int) : Prop where
  lt : i.natAbs < 2 ^ n
theorem bd_iff {n : Nat} {i : Int} : Bd n i ↔ i.natAbs < 2 ^ n := ⟨fun h => h.lt, fun h => ⟨h⟩⟩
theorem Bd.lit {n : Nat} {i : Int} (h : i.natAbs < 2 ^ n) : Bd n i := ⟨h⟩
theorem Bd.zero {n : Nat} : Bd n 0 := Bd.lit (Nat.two_pow_pos _)
theorem Bd.mono {m n : Nat} {i : Int} (h : Bd m i) (k : m ≤ n) : Bd n i := Bd.lit (Nat.lt_of_lt_of_le h.lt (Nat.pow_le_pow_right (by decide) k))
theorem Bd.mul {m n : Nat} {i j : Int} (h : Bd m i) (k : Bd n j) : Bd (m + n) (i * j) := by
  simp only [bd_iff] at *
  rw [Int.natAbs_mul, Nat.pow_add]
  exact Nat.mul_lt_mul'' h k
theorem Bd.add {m n : Nat} {i j : Int} (h : Bd m i) (k : Bd n j) : Bd (max m n + 1) (i + j) := by
  have h1 := h.mono (Nat.le_max_left m n)
  have h2 := k.mono (Nat.le_max_right m n)
  simp only [bd_iff] at *
  rw [Nat.pow_succ]
  omega
theorem Bd.neg {m : Nat} {i : Int} (h : Bd m i) : Bd m (-i) := by simp only [bd_iff] at *; rw [Int.natAbs_neg]; exact h
theorem Bd.sub {m n : Nat} {i j : Int} (h : Bd m i) (k : Bd n j) : Bd (max m n + 1) (i - j) := by
  rw [Int.sub_eq_add_neg]; exact h.add k.neg
theorem Bd.of_le {n : Nat} {i b : Int} (h1 : -b ≤ i) (h2 : i ≤ b) (h : b < 2 ^ n) : Bd n i := by
  refine bd_iff.mpr ?_
  have : (i.natAbs : Int) < 2 ^ n := by omega
  have e : ((2 ^ n : Nat) : Int) = 2 ^ n := by simp
  rw [← e] at this
  exact Int.ofNat_lt.mp this
/-- a product of two numbers of such sizes is carried -/
theorem mulOk {m n : Nat} {i j : Int} (h : Bd m i) (k : Bd n j) (hs : m + n ≤ 134217728) : MulOk i j := ⟨(mulx_ok h.lt k.lt hs).ok⟩
theorem mulOk_l {i j : Int} (h : -(2 ^ 64) < i ∧ i < 2 ^ 64) : MulOk i j := ⟨(show CMul i j from .inl h).ok⟩
theorem mulOk_r {i j : Int} (h : -(2 ^ 64) < j ∧ j < 2 ^ 64) : MulOk i j := ⟨(show CMul i j from .inr h).ok⟩
theorem cdv {n : Nat} {i j : Int} (h0 : j ≠ 0) (h : Bd n j) (hn : n ≤ 9000) : CDv i j := ⟨h0, .inl (Nat.lt_of_lt_of_le h.lt (Nat.pow_le_pow_right (by decide) hn))⟩
theorem cdv_small {i j : Int} (h0 : j ≠ 0) (h : j.natAbs < 2 ^ 200) : CDv i j := cdv (n := 200) h0 (Bd.lit h) (by decide)
/-! ### loops over lists of any length -/
section
variable {k : Nat} {chk : Sto → Prop} {f : R → Rho → Option Rho} {t : PT1} {w : PE1} {r : Rho}
/-- a comprehension whose parts leave the store as it is -/
theorem lcL_pure {items : List R} (g : R → D) (p : R → Bool) {S : Sto} {W : List D → Sto → Prop} (hk : S.take k = S) (hc : chk S)
    (h : ∀ x ∈ items, ∃ r1, f x r = some r1 ∧ (∀ W1 : Bool → Sto → Prop, W1 (p x) S → t r1 S W1) ∧ (p x = true → ∀ W1 : PK1, W1 (.r (.d (g x))) S → w r1 S W1)) (q : W ((items.filter p).map g) S) : lcL k chk f t w r items S W := by
  induction items generalizing W with
  | nil => exact ⟨hc, q⟩
  | cons x xs ih =>
    obtain ⟨r1, h1, h2, h3⟩ := h x (by simp)
    unfold lcL
    refine ⟨hc, ?_⟩
    rw [h1]
    refine h2 _ ?_
    cases hp : p x with
    | true =>
      rw [if_pos rfl]
      refine h3 hp _ ?_
      rw [hk]
      exact ih (fun y hy => h y (by simp [hy])) (by simpa [List.filter_cons, hp] using q)
    | false =>
      rw [if_neg Bool.false_ne_true, hk]
      exact ih (fun y hy => h y (by simp [hy])) (by simpa [List.filter_cons, hp] using q)
theorem lcL_map {items : List R} (g : R → D) {S : Sto} {W : List D → Sto → Prop} (hk : S.take k = S) (hc : chk S)
    (h : ∀ x ∈ items, ∃ r1, f x r = some r1 ∧ (∀ W1 : Bool → Sto → Prop, W1 true S → t r1 S W1) ∧ ∀ W1 : PK1, W1 (.r (.d (g x))) S → w r1 S W1) (q : W (items.map g) S) : lcL k chk f t w r items S W :=
  lcL_pure g (fun _ => true) hk hc (fun x hx => let ⟨r1, a, b, c⟩ := h x hx; ⟨r1, a, b, fun _ => c⟩) (by
    have : items.filter (fun _ => true) = items := List.filter_eq_self.mpr fun _ _ => rfl
    rw [this]; exact q)
end
/-- the same over a row of ints -/
theorem lcL_ints {k : Nat} {chk : Sto → Prop} {f : R → Rho → Option Rho} {t : PT1} {w : PE1} {r : Rho} {ns : List Int} (g : Int → Int) {S : Sto} {W : List D → Sto → Prop} (hk : S.take k = S) (hc : chk S)
    (h : ∀ n ∈ ns, ∃ r1, f (.d (.int n)) r = some r1 ∧ (∀ W1 : Bool → Sto → Prop, W1 true S → t r1 S W1) ∧ ∀ W1 : PK1, W1 (.r (.d (.int (g n)))) S → w r1 S W1) (q : W ((ns.map g).map D.int) S) : lcL k chk f t w r ((ns.map D.int).map R.d) S W := by
  refine lcL_map (fun x => match x with | .d (.int n) => .int (g n) | _ => .non) hk hc (fun x hx => ?_) ?_
  · simp only [List.map_map, List.mem_map, Function.comp] at hx
    obtain ⟨n, hn, rfl⟩ := hx
    exact h n hn
  · have e : ((ns.map D.int).map R.d).map (fun x => match x with | .d (.int n) => D.int (g n) | _ => .non) = (ns.map g).map D.int := by simp [List.map_map, Function.comp_def]
    rw [e]; exact q
/-- with a test -/
theorem lcL_intsF {k : Nat} {chk : Sto → Prop} {f : R → Rho → Option Rho} {t : PT1} {w : PE1} {r : Rho} {ns : List Int} (p : Int → Bool) {S : Sto} {W : List D → Sto → Prop} (hk : S.take k = S) (hc : chk S)
    (h : ∀ n ∈ ns, ∃ r1, f (.d (.int n)) r = some r1 ∧ (∀ W1 : Bool → Sto → Prop, W1 (p n) S → t r1 S W1) ∧ (p n = true → ∀ W1 : PK1, W1 (.r (.d (.int n))) S → w r1 S W1)) (q : W ((ns.filter p).map D.int) S) : lcL k chk f t w r ((ns.map D.int).map R.d) S W := by
  refine lcL_pure (fun x => match x with | .d d => d | _ => .non) (fun x => match x with | .d (.int n) => p n | _ => false) hk hc (fun x hx => ?_) ?_
  · simp only [List.map_map, List.mem_map, Function.comp] at hx
    obtain ⟨n, hn, rfl⟩ := hx
    exact h n hn
  · have e : (((ns.map D.int).map R.d).filter (fun x => match x with | .d (.int n) => p n | _ => false)).map (fun x => match x with | .d d => d | _ => .non) = (ns.filter p).map D.int := by
      rw [List.map_map, List.filter_map, List.map_map]
      rfl
    rw [e]; exact q
/-- a for by what holds ahead of each turn -/
theorem forL_ix {k : Nat} {chk : Sto → Prop} {f : R → Rho → Option Rho} {body : PS1} {N : En} {items : List R} (I : Nat → Rho → Sto → Prop)
    (hs : ∀ i x, items[i]? = some x → ∀ r S, I i r S → ∀ M : Rho → Sto → Prop, (∀ r' S', I (i + 1) r' S' → M r' S') → chk S ∧ match f x r with
      | some r1 => body { nx := fun r2 S2 => ∃ r3 S3, Cut k r2 S2 r3 S3 ∧ M r3 S3, rt := N.rt, bk := N.nx, ct := fun r2 S2 => ∃ r3 S3, Cut k r2 S2 r3 S3 ∧ M r3 S3 } r1 S
      | none => False)
    (hd : ∀ r S, I items.length r S → chk S ∧ N.nx r S) {r : Rho} {S : Sto} (h0 : I 0 r S) : forL k chk f body N items r S := by
  have key : ∀ (n i : Nat), n + i = items.length → ∀ r S, I i r S → forL k chk f body N (items.drop i) r S := by
    intro n
    induction n with
    | zero =>
      intro i hi r S h
      have : i = items.length := by omega
      subst this
      rw [List.drop_eq_nil_of_le (Nat.le_refl _)]
      exact hd r S h
    | succ n ih =>
      intro i hi r S h
      have hl : i < items.length := by omega
      rw [List.drop_eq_getElem_cons hl]
      unfold forL
      exact hs i _ (List.getElem?_eq_getElem hl) r S h _ fun r' S' h' => ih (i + 1) (by omega) r' S' h'
  simpa using key items.length 0 (by omega) r S h0
theorem rgR_get {lo : Int} {n i : Nat} {x : R} (h : (rgR lo n)[i]? = some x) : i < n ∧ x = .d (.int (lo + (i : Nat))) := by
  have hi : i < n := by
    have := (List.getElem?_eq_some_iff.mp h).1
    simpa [rgR] using this
  simp only [rgR, List.getElem?_map, List.getElem?_range hi, Option.map_some, Option.some.injEq] at h
  exact ⟨hi, h.symm⟩
theorem rgR_len {lo : Int} {n : Nat} : (rgR lo n).length = n := by simp [rgR]
theorem getI_0 {a : D} {xs : List D} : getI (a :: xs) 0 = some a := rfl
theorem getI_1 {a b : D} {xs : List D} : getI (a :: b :: xs) 1 = some b := rfl
theorem getI_2 {a b c : D} {xs : List D} : getI (a :: b :: c :: xs) 2 = some c := rfl
theorem getI_3 {a b c d : D} {xs : List D} : getI (a :: b :: c :: d :: xs) 3 = some d := rfl
theorem getI_of {xs : List D} {i : Int} (h0 : 0 ≤ i) (h1 : i < xs.length) : getI xs i = xs[i.toNat]? := by unfold getI; rw [if_pos h0]
/-- an item at a place that lies in the row -/
theorem getI_in {xs : List D} {i : Int} (h0 : 0 ≤ i) (h1 : i < xs.length) : ∃ z, getI xs i = some z ∧ z ∈ xs := by
  have hl : i.toNat < xs.length := by omega
  rw [getI_of h0 h1, List.getElem?_eq_getElem hl]
  exact ⟨_, rfl, List.getElem_mem hl⟩
theorem getI_ints {ns : List Int} {i : Int} (h0 : 0 ≤ i) (h1 : i < ns.length) : ∃ z, getI (ns.map D.int) i = some (.int z) ∧ z ∈ ns := by
  obtain ⟨z, h, hz⟩ := getI_in (xs := ns.map D.int) h0 (by simpa using h1)
  obtain ⟨n, hn, rfl⟩ := List.mem_map.mp hz
  exact ⟨n, h, hn⟩
theorem cutD_take {xs : List D} (k : Nat) : cutD xs none (some (k : Int)) = xs.take k := by
  unfold cutD
  rw [HT.sIx_nat, HT.sIx_none, List.drop_zero, Nat.sub_zero]
  by_cases h : k ≤ xs.length
  · rw [Nat.min_eq_left h]
  · rw [Nat.min_eq_right (by omega), List.take_length, List.take_of_length_le (by omega)]
theorem cutD_drop {xs : List D} (k : Nat) : cutD xs (some (k : Int)) none = xs.drop k := by
  unfold cutD
  rw [HT.sIx_nat, HT.sIx_none]
  by_cases h : k ≤ xs.length
  · rw [Nat.min_eq_left h, List.take_of_length_le (by rw [List.length_drop]; omega)]
  · rw [Nat.min_eq_right (by omega), Nat.sub_self, List.take_zero, List.drop_eq_nil_of_le (by omega)]
theorem ixD_10 : ixD 1 0 = some 0 := rfl
theorem ixD_20 : ixD 2 0 = some 0 := rfl
theorem ixD_21 : ixD 2 1 = some 1 := rfl
theorem ixD_30 : ixD 3 0 = some 0 := rfl
theorem ixD_31 : ixD 3 1 = some 1 := rfl
theorem ixD_32 : ixD 3 2 = some 2 := rfl
theorem ixD_40 : ixD 4 0 = some 0 := rfl
theorem ixD_41 : ixD 4 1 = some 1 := rfl
theorem ixD_42 : ixD 4 2 = some 2 := rfl
theorem ixD_43 : ixD 4 3 = some 3 := rfl
theorem rgR_zero {lo : Int} : rgR lo 0 = [] := rfl
theorem rgR_succ {lo : Int} {n : Nat} : rgR lo (n + 1) = .d (.int lo) :: rgR (lo + 1) n := by
  unfold rgR
  rw [List.range_succ_eq_map, List.map_cons, List.map_map]
  refine List.cons_eq_cons.mpr ⟨by simp, List.map_congr_left fun i _ => ?_⟩
  show R.d (.int (lo + ((i + 1 : Nat) : Int))) = R.d (.int (lo + 1 + (i : Int)))
  rw [show lo + ((i + 1 : Nat) : Int) = lo + 1 + (i : Int) by omega]
theorem fdiv_pos {i j : Int} (h : 0 < j) : i.fdiv j = i / j := Int.fdiv_eq_ediv_of_nonneg i (by omega)
theorem fmod_pos {i j : Int} (h : 0 < j) : i.fmod j = i % j := Int.fmod_eq_emod_of_nonneg i (by omega)
theorem eqv_ints : ∀ {xs ys : List Int}, PyData.eqvAll (pys (xs.map D.int)) (pys (ys.map D.int)) = decide (xs = ys)
  | [], [] => by simp [pys, PyData.eqvAll]
  | [], _ :: _ => by simp [pys, PyData.eqvAll]
  | _ :: _, [] => by simp [pys, PyData.eqvAll]
  | x :: xs, y :: ys => by
    simp only [List.map_cons, pys, PyData.eqvAll, py, PyData.eqv, eqv_ints]
    by_cases h : x = y
    · subst h; by_cases h2 : xs = ys
      · subst h2; simp
      · simp [h2]
    · simp [h]
theorem depth_ints (xs : List Int) : PyData.depthAll (pys (xs.map D.int)) ≤ 1 := by
  induction xs with
  | nil => simp [pys, PyData.depthAll]
  | cons x xs ih => simp [pys, py, PyData.depthAll, PyData.depth]; omega
end Z
set_option Elab.async false
set_option linter.all false
set_option maxRecDepth 100000
/-! Z8: further words: a list taken apart; reversed; a raise that is never reached; constants of the module. -/
namespace Z
open PySem PySem.Spec PyProof.Rows L2 RZ
section
variable {X : Cx} {e : Expr} {we : PE1} {pos : Pos}
/-- (a, b, ..) = a list -/
abbrev wUnl (n : Nat) (fs : List R → Rho → Option Rho) (w : PE1) : PS1 := fun N r S => w r S fun x S1 => match isLst x, seqOf S1 x with
  | true, some xs => if xs.length = n then (match fs (xs.map R.d) r with
    | some r' => N.nx r' S1
    | none => False) else False
  | _, _ => False
/-- the signs of a text, one by one -/
abbrev chrs (x : Str) : List R := x.cps.toList.map fun c => R.d (.str ⟨#[c]⟩)
abbrev wItS (w : PE1) : PI1 := fun r S W => w r S fun x S1 => match x with
  | .r (.d (.str s)) => W { items := chrs s } S1
  | _ => False
/-- len of a text -/
abbrev fSLen : PF := fun xs S W => match xs with
  | [.r (.d (.str a))] => a.length ≤ 16777216 ∧ W (.r (.d (.int (a.length : Nat)))) S
  | _ => False
/-- t in s, s + t, s[i] of texts -/
abbrev pSIn : P2 := fun x y S W => match x, y with
  | .r (.d (.str a)), .r (.d (.str b)) => W (.r (.d (.bl (!(Builtin.Str.occurrences b a 0 b.length 1).isEmpty)))) S
  | _, _ => False
abbrev pSCat : P2 := fun x y S W => match x, y with
  | .r (.d (.str a)), .r (.d (.str b)) => a.length + b.length ≤ 16777216 ∧ W (.r (.d (.str (a ++ b)))) S
  | _, _ => False
abbrev pSIx : P2 := fun x y S W => match x, y with
  | .r (.d (.str a)), .r (.d (.int i)) => match a.cps[i.toNat]? with
    | some c => (0 ≤ i ∧ i < 16777216 ∧ i < a.length) ∧ W (.r (.d (.str ⟨#[c]⟩))) S
    | none => False
  | _, _ => False
/-- s.index(t), t found in s -/
abbrev wSIdx (wo we : PE1) : PE1 := fun r S W => wo r S fun x S1 => match x with
  | .r (.d (.str a)) => we r S1 fun y S2 => match y with
    | .r (.d (.str b)) => match Builtin.Str.occurrences a b 0 a.length 1 with
      | i :: _ => W (.r (.d (.int (i : Nat)))) S2
      | [] => False
    | _ => False
  | _ => False
/-- a constant of the module -/
structure ConAt (K : PySem.W.Frag) (mg : Str → Option Value) (x : Str) (d : D) : Prop where
  ex : ∃ v u, mg x = some u ∧ RelV v u ∧ ∀ H, RepD K H d v
theorem ConAt.str {K : PySem.W.Frag} {mg : Str → Option Value} {h : Heap} {x : Str} {s : Str} {t : Tok} (KX : K.In h) (G : h.Ns mainGlobals mg)
    (e : PySem.W.nsIn K mainGlobals x = some (some (.str s t))) : ConAt K mg x (.str s) :=
  ⟨.str s, .str s t, PySem.W.mg_of KX G e, ⟨t, rfl⟩, fun _ => rfl⟩
theorem ConAt.int {K : PySem.W.Frag} {mg : Str → Option Value} {h : Heap} {x : Str} {i : Int} {t : Tok} (KX : K.In h) (G : h.Ns mainGlobals mg)
    (e : PySem.W.nsIn K mainGlobals x = some (some (.int i t))) : ConAt K mg x (.int i) :=
  ⟨.int i, .int i t, PySem.W.mg_of KX G e, ⟨t, rfl⟩, fun _ => rfl⟩
/-- reversed(list or tuple) -/
abbrev wRev (w : PE1) : PI1 := fun r S W => w r S fun x S1 => match itOf S1 x with
  | some it => W { items := it.items.reverse, chk := it.chk } S1
  | none => False
abbrev pIsB (neg : Bool) : P2 := fun x y S W => match x, y with
  | .r (.d (.bl b)), .r (.d (.bl c)) => W (.r (.d (.bl (if neg then b != c else b == c)))) S
  | _, _ => False
/-- a new list that nobody will write: from here on it is data -/
abbrev wFz (w : PE1) : PE1 := fun r S W => w r S fun x S1 => match x with
  | .f xs => W (.r (.d (.lst xs))) S1
  | .r y => W (.r y) S1
theorem we_fz (h : WE X e we) : WE X e (wFz we) := by
  refine ⟨⟨fun pins s z H Q I ⟨m, r, S, W, hE, hS, hw, hf⟩ => ?_⟩⟩
  refine thn (h.pe.run pins s z H (fun v H1 => Q v H1 ∨ ∃ a vs, v = .ref a ∧ H1 a = some (.lst vs) ∧ ∀ od, Q v (upd H1 a (.frz od (.lst vs)))) I ⟨m, r, S, _, hE, hS, hw, fun x S1 v m1 H1 h1 g1 r1 q1 => ?_⟩) fun v s1 ⟨x, H1, I1, rl, q⟩ => ?_
  · cases x with
    | r y => exact .inl (hf _ S1 v m1 H1 h1 g1 r1 q1)
    | f xs =>
      obtain ⟨a, vs, rfl, e1, ha, h0, hd⟩ := q1
      exact .inr ⟨a, vs, rfl, e1, fun od => hf _ S1 _ m1 _ h1 (g1.frz_new h0 e1) (r1.frz ha e1) ⟨a, vs, rfl, .inl ⟨od, upd_same⟩, RepDs.keep (kt_fz e1) (kf_fz e1) xs vs hd⟩⟩
  · rcases q with q | ⟨a, vs, rfl, e1, q⟩
    · exact ⟨x, H1, I1, rl, q⟩
    · obtain ⟨od, I2⟩ := I1.lock e1 trivial
      exact ⟨_, _, I2, rl, q od⟩
/-- a statement that is never reached -/
abbrev wNever : PS1 := fun _ _ _ => False
end
/-- the rest of a block behind a name: so that no rewriting looks into it -/
theorem seqI {t u : PS1} {N : En} {r : Rho} {S : Sto} (h : ∀ P : Rho → Sto → Prop, (∀ r S, u N r S → P r S) → t { nx := P, rt := N.rt, bk := N.bk, ct := N.ct } r S) : wSeq t u N r S := h _ fun _ _ h => h
/-! the arguments of a def, one by one -/
end Z
set_option Elab.async false
set_option linter.all false
set_option maxRecDepth 100000
set_option exponentiation.threshold 20000
/-! R1: promises that stand in several laws. -/
namespace Z
open PySem PySem.Spec PyProof.Rows L2 RZ
/-- what divides both -/
def spGcd : SpZ := fun rs S W => match rs with
  | [.d (.int a), .d (.int b)] => W (.d (.int (Int.gcd a b))) S
  | _ => False
/-- the plain row -/
def spPln : SpZ := fun rs S W => match rs with
  | [.d (.tup xs)] => ∃ ns : List Int, xs = ns.map D.int ∧ (∃ n ∈ ns, n ≠ 0) ∧ (∀ n ∈ ns, Bd 9000 n) ∧ ns.length ≤ 1000 ∧ W (.d (.tup ((pln ns).map D.int))) S
  | _ => False
theorem gl_cdv {ns : List Int} (hz : ∃ n ∈ ns, n ≠ 0) (hb : ∀ n ∈ ns, Bd 9000 n) (n : Int) : CDv n (gl ns) ∧ CDv n (0 - (gl ns : Int)) ∧ CDv n (-(gl ns : Int)) := by
  have hg := gl_pos hz
  obtain ⟨x, hx, h0⟩ := hz
  have h1 := hb x hx
  have h2 := gl_le hx h0
  have b1 : Bd 9000 (gl ns : Int) := by simp only [bd_iff] at *; simp only [Int.natAbs_natCast]; omega
  exact ⟨cdv (n := 9000) (by omega) b1 (Nat.le_refl _), cdv (n := 9000) (by omega) (by rw [Int.zero_sub]; exact b1.neg) (Nat.le_refl _), cdv (n := 9000) (by omega) b1.neg (Nat.le_refl _)⟩
theorem fdiv_gl_neg {ns : List Int} {n : Int} (hz : ∃ n ∈ ns, n ≠ 0) (hn : n ∈ ns) : n.fdiv (-(gl ns : Int)) = -1 * (n / (gl ns : Int)) := by
  have hg := gl_pos hz
  obtain ⟨q, hq⟩ := gl_dvd hn
  rw [hq, Int.mul_ediv_cancel_left _ (by omega)]
  have : (gl ns : Int) * q = (-(gl ns : Int)) * (-1 * q) := by grind
  rw [this, Int.mul_fdiv_cancel_left _ (by omega)]
theorem fold_take {ns : List Int} {i : Nat} {n : Int} (hn : ns[i]? = some n) : (ns.take (i + 1)).foldl (fun g x => Nat.gcd g x.natAbs) 0 = Nat.gcd ((ns.take i).foldl (fun g x => Nat.gcd g x.natAbs) 0) n.natAbs := by
  rw [List.take_add_one, hn]
  simp only [Option.toList_some, List.foldl_append, List.foldl_cons, List.foldl_nil]
theorem fold_all {ns : List Int} : (ns.take ((ns.map D.int).map R.d).length).foldl (fun g x => Nat.gcd g x.natAbs) 0 = gl ns := by
  rw [List.length_map, List.length_map, List.take_length, gl_fold, Nat.gcd_zero_left]
theorem item_ints {ns : List Int} {i : Nat} {x : R} (hx : ((ns.map D.int).map R.d)[i]? = some x) : ∃ n, ns[i]? = some n ∧ x = .d (.int n) := by
  rw [List.getElem?_map, List.getElem?_map, Option.map_eq_some_iff] at hx
  obtain ⟨d, hd, rfl⟩ := hx
  rw [Option.map_eq_some_iff] at hd
  obtain ⟨n, hn, rfl⟩ := hd
  exact ⟨n, hn, rfl⟩
theorem pln_bds {n : Nat} {ns : List Int} (hz : ∃ n ∈ ns, n ≠ 0) (hb : ∀ x ∈ ns, Bd n x) : ∀ x ∈ pln ns, Bd n x := fun x hx => Bd.lit (pln_bd hz (fun y hy => (hb y hy).lt) x hx)
theorem depth_tup {ns : List Int} : (PyData.tuple (pys (ns.map D.int))).depth ≤ 2 := by
  have := depth_ints ns
  simp only [PyData.depth]; omega
end Z
set_option Elab.async false
set_option linter.all false
/-! M2: fractions, points, turns of points. -/
namespace Z
/-- a fraction as data -/
def frD (q : Rat) : D := .tup [.int q.num, .int (q.den : Int)]
theorem frD_inj {p q : Rat} : frD p = frD q ↔ p = q := by
  constructor
  · intro h
    unfold frD at h
    injection h with h
    injection h with h1 h2
    injection h2 with h2 _
    injection h1 with h1
    injection h2 with h2
    exact Rat.ext h1 (Int.ofNat.inj h2)
  · intro h; rw [h]
/-- the row of a fraction -/
def frL (q : Rat) : List Int := [q.num, (q.den : Int)]
theorem frD_map (q : Rat) : frD q = .tup ((frL q).map D.int) := rfl
theorem frL_inj {p q : Rat} : frL p = frL q ↔ p = q := by
  rw [← frD_inj, frD_map, frD_map]
  constructor
  · intro h; rw [h]
  · intro h; injection h with h; exact List.map_inj_right (fun _ _ e => by injection e) |>.mp h
theorem fdiv_of {t g k : Int} (h : t = g * k) (hg : g ≠ 0) : t.fdiv g = k := by rw [h]; exact Int.mul_fdiv_cancel_left _ hg
/-- the two numbers that the lowest terms are divided by -/
theorem made_num {t b : Int} (hb : b ≠ 0) : ((t : Rat) / (b : Rat)).num = if b < 0 then t.fdiv (-(Int.gcd t b : Int)) else t.fdiv (Int.gcd t b) := by
  have hg : 0 < Int.gcd t b := Int.gcd_pos_of_ne_zero_right t hb
  rw [← Rat.divInt_eq_div, Rat.num_divInt]
  obtain ⟨k, hk⟩ := Int.gcd_dvd_left t b
  have e : (b.gcd t : Int) = (Int.gcd t b : Int) := by rw [Int.gcd_comm]
  rw [e]
  split
  · rename_i h
    rw [Int.sign_eq_neg_one_of_neg h]
    have e1 : -1 * t = (Int.gcd t b : Int) * (-k) := by grind
    have e2 : t = (-(Int.gcd t b : Int)) * (-k) := by grind
    rw [e1, Int.mul_ediv_cancel_left _ (by omega), fdiv_of e2 (by omega)]
  · rename_i h
    rw [Int.sign_eq_one_of_pos (by omega), Int.one_mul, Int.fdiv_eq_ediv_of_nonneg _ (by omega)]
theorem made_den {t b : Int} (hb : b ≠ 0) : ((((t : Rat) / (b : Rat)).den : Nat) : Int) = if b < 0 then b.fdiv (-(Int.gcd t b : Int)) else b.fdiv (Int.gcd t b) := by
  have hg : 0 < Int.gcd t b := Int.gcd_pos_of_ne_zero_right t hb
  rw [← Rat.divInt_eq_div, Rat.den_divInt, if_neg hb, Int.gcd_comm b t]
  obtain ⟨k, hk⟩ := Int.gcd_dvd_right t b
  have e0 : b.natAbs = Int.gcd t b * k.natAbs := by
    have := congrArg Int.natAbs hk
    rw [Int.natAbs_mul] at this
    simpa using this
  rw [e0, Nat.mul_div_cancel_left _ hg]
  split
  · rename_i h
    have e2 : b = (-(Int.gcd t b : Int)) * (-k) := by grind
    rw [fdiv_of e2 (by omega)]
    have : k < 0 := by
      by_cases hk0 : 0 ≤ k
      · have := Int.mul_nonneg (show (0 : Int) ≤ (Int.gcd t b : Int) by omega) hk0; omega
      · omega
    omega
  · rename_i h
    rw [fdiv_of hk (by omega)]
    have : 0 ≤ k := by
      by_cases hk0 : 0 ≤ k
      · exact hk0
      · have := Int.mul_neg_of_pos_of_neg (show (0 : Int) < (Int.gcd t b : Int) by omega) (show k < 0 by omega); omega
    omega
/-! ### points and turns -/
abbrev Pt := Rat × Rat × Rat
def ptD (p : Pt) : D := .tup [frD p.1, frD p.2.1, frD p.2.2]
theorem ptD_inj {p q : Pt} : ptD p = ptD q ↔ p = q := by
  constructor
  · intro h
    unfold ptD at h
    injection h with h
    injection h with h1 h2
    injection h2 with h2 h3
    injection h3 with h3 _
    obtain ⟨a, b, c⟩ := p
    obtain ⟨a', b', c'⟩ := q
    simp only [frD_inj] at h1 h2 h3
    rw [h1, h2, h3]
  · intro h; rw [h]
/-- the size of a four -/
def nrm (w x y z : Rat) : Rat := w * w + x * x + y * y + z * z
/-- the turn of a four of fractions -/
def rotQ (w x y z : Rat) (p : Pt) : Pt :=
  ((p.1 * (w * w + x * x - y * y - z * z) + p.2.1 * (2 * (x * y - w * z)) + p.2.2 * (2 * (x * z + w * y))) * (nrm w x y z)⁻¹,
   (p.1 * (2 * (x * y + w * z)) + p.2.1 * (w * w - x * x + y * y - z * z) + p.2.2 * (2 * (y * z - w * x))) * (nrm w x y z)⁻¹,
   (p.1 * (2 * (x * z - w * y)) + p.2.1 * (2 * (y * z + w * x)) + p.2.2 * (w * w - x * x - y * y + z * z)) * (nrm w x y z)⁻¹)
def rot (a : List Int) (p : Pt) : Pt := match a with
  | [w, x, y, z] => rotQ w x y z p
  | _ => p
/-- the product of fours, the first one's turn done last -/
def qmul : List Int → List Int → List Int
  | [p, q, r, s], [t, u, v, o] => [p * t - q * u - r * v - s * o, p * u + q * t + r * o - s * v, p * v - q * o + r * t + s * u, p * o + q * v - r * u + s * t]
  | _, _ => []
def qbk : List Int → List Int
  | [w, x, y, z] => [w, -x, -y, -z]
  | _ => []
theorem four_of {a : List Int} (h : a.length = 4) : ∃ w x y z, a = [w, x, y, z] := by
  match a, h with
  | [w, x, y, z], _ => exact ⟨w, x, y, z, rfl⟩
def nrmI : List Int → Int
  | [w, x, y, z] => w * w + x * x + y * y + z * z
  | _ => 0
theorem sq_pos {x : Int} (h : x ≠ 0) : 0 < x * x := by
  rcases Int.lt_or_gt_of_ne h with h | h
  · exact Int.mul_pos_of_neg_of_neg h h
  · exact Int.mul_pos h h
theorem sq_nn (x : Int) : 0 ≤ x * x := by
  by_cases h : x = 0
  · subst h; decide
  · exact Int.le_of_lt (sq_pos h)
theorem nrmI_pos {w x y z : Int} (h : ∃ n ∈ [w, x, y, z], n ≠ 0) : 0 < nrmI [w, x, y, z] := by
  obtain ⟨n, hn, h0⟩ := h
  have a := sq_nn w
  have b := sq_nn x
  have c := sq_nn y
  have d := sq_nn z
  have e := sq_pos h0
  show 0 < w * w + x * x + y * y + z * z
  simp only [List.mem_cons, List.not_mem_nil, or_false] at hn
  rcases hn with rfl | rfl | rfl | rfl <;> omega
theorem nz_of_nrm {w x y z : Int} (h : nrmI [w, x, y, z] ≠ 0) : ∃ n ∈ [w, x, y, z], n ≠ 0 := by
  by_cases h1 : w = 0
  · by_cases h2 : x = 0
    · by_cases h3 : y = 0
      · by_cases h4 : z = 0
        · subst h1 h2 h3 h4; exact absurd rfl h
        · exact ⟨z, by simp, h4⟩
      · exact ⟨y, by simp, h3⟩
    · exact ⟨x, by simp, h2⟩
  · exact ⟨w, by simp, h1⟩
theorem nrmI_qmul {a b : List Int} (ha : a.length = 4) (hb : b.length = 4) : nrmI (qmul a b) = nrmI a * nrmI b := by
  obtain ⟨p, q, r, s, rfl⟩ := four_of ha
  obtain ⟨t, u, v, o, rfl⟩ := four_of hb
  simp only [qmul, nrmI]
  grind
theorem qmul_len {a b : List Int} (ha : a.length = 4) (hb : b.length = 4) : (qmul a b).length = 4 := by
  obtain ⟨p, q, r, s, rfl⟩ := four_of ha
  obtain ⟨t, u, v, o, rfl⟩ := four_of hb
  rfl
theorem qmul_nz {a b : List Int} (ha : a.length = 4) (hb : b.length = 4) (h1 : ∃ n ∈ a, n ≠ 0) (h2 : ∃ n ∈ b, n ≠ 0) : ∃ n ∈ qmul a b, n ≠ 0 := by
  have e := nrmI_qmul ha hb
  obtain ⟨p, q, r, s, rfl⟩ := four_of ha
  obtain ⟨t, u, v, o, rfl⟩ := four_of hb
  have k1 := nrmI_pos h1
  have k2 := nrmI_pos h2
  refine nz_of_nrm ?_
  have := Int.mul_pos k1 k2
  show nrmI (qmul [p, q, r, s] [t, u, v, o]) ≠ 0
  omega
theorem qmul_bd {m n : Nat} {a b : List Int} (h1 : ∀ x ∈ a, Bd m x) (h2 : ∀ x ∈ b, Bd n x) : ∀ x ∈ qmul a b, Bd (m + n + 3) x := by
  unfold qmul
  split
  · rename_i p q r s t u v o
    simp only [List.mem_cons, List.not_mem_nil, or_false] at h1 h2 ⊢
    have mm : ∀ i j, Bd m i → Bd n j → Bd (m + n) (i * j) := fun i j a b => a.mul b
    have p1 := h1 p (by simp); have p2 := h1 q (by simp); have p3 := h1 r (by simp); have p4 := h1 s (by simp)
    have q1 := h2 t (by simp); have q2 := h2 u (by simp); have q3 := h2 v (by simp); have q4 := h2 o (by simp)
    have fin : ∀ {a b c d e f : Int}, Bd (m + n) a → Bd (m + n) b → Bd (m + n) c → Bd (m + n) d → (e = a - b - c - d ∨ e = a + b + c - d ∨ e = a - b + c + d ∨ e = a + b - c + d) → Bd (m + n + 3) e := by
      intro a b c d e f h1 h2 h3 h4 h
      simp only [bd_iff] at *
      have : 2 ^ (m + n + 3) = 2 ^ (m + n) * 8 := by rw [Nat.pow_add]
      rcases h with h | h | h | h <;> omega
    rintro x (rfl | rfl | rfl | rfl)
    · exact fin (f := 0) (mm _ _ p1 q1) (mm _ _ p2 q2) (mm _ _ p3 q3) (mm _ _ p4 q4) (.inl rfl)
    · exact fin (f := 0) (mm _ _ p1 q2) (mm _ _ p2 q1) (mm _ _ p3 q4) (mm _ _ p4 q3) (.inr (.inl rfl))
    · exact fin (f := 0) (mm _ _ p1 q3) (mm _ _ p2 q4) (mm _ _ p3 q1) (mm _ _ p4 q2) (.inr (.inr (.inl rfl)))
    · exact fin (f := 0) (mm _ _ p1 q4) (mm _ _ p2 q3) (mm _ _ p3 q2) (mm _ _ p4 q1) (.inr (.inr (.inr rfl)))
  · intro x hx; simp at hx
theorem nrm_mul (w x y z a b c d : Rat) : nrm (a * w - b * x - c * y - d * z) (a * x + b * w + c * z - d * y) (a * y - b * z + c * w + d * x) (a * z + b * y - c * x + d * w) = nrm a b c d * nrm w x y z := by
  unfold nrm; grind
/-- one turn and then another one is the turn of the product -/
theorem rotQ_comp (w x y z a b c d : Rat) (p : Pt) : rotQ (a * w - b * x - c * y - d * z) (a * x + b * w + c * z - d * y) (a * y - b * z + c * w + d * x) (a * z + b * y - c * x + d * w) p = rotQ a b c d (rotQ w x y z p) := by
  obtain ⟨p, q, r⟩ := p
  unfold rotQ
  rw [nrm_mul, Rat.inv_mul_rev]
  generalize (nrm w x y z)⁻¹ = i
  generalize (nrm a b c d)⁻¹ = j
  simp only [Prod.mk.injEq]
  refine ⟨?_, ?_, ?_⟩ <;> grind
theorem rot_comp {a b : List Int} (ha : a.length = 4) (hb : b.length = 4) (p : Pt) : rot (qmul b a) p = rot b (rot a p) := by
  obtain ⟨w, x, y, z, rfl⟩ := four_of ha
  obtain ⟨s, t, u, v, rfl⟩ := four_of hb
  simp only [rot, qmul]
  rw [← rotQ_comp]
  simp only [Rat.intCast_sub, Rat.intCast_add, Rat.intCast_mul]
theorem nrm_ne {w x y z : Int} (h : ∃ n ∈ [w, x, y, z], n ≠ 0) : nrm w x y z ≠ 0 := by
  have := nrmI_pos h
  have e : nrm w x y z = ((nrmI [w, x, y, z] : Int) : Rat) := by simp only [nrm, nrmI, Rat.intCast_add, Rat.intCast_mul]
  rw [e]
  intro h0
  have : nrmI [w, x, y, z] = 0 := by exact_mod_cast h0
  omega
theorem rotQ_smul {k w x y z : Rat} (hk : k ≠ 0) (p : Pt) : rotQ (k * w) (k * x) (k * y) (k * z) p = rotQ w x y z p := by
  obtain ⟨p, q, r⟩ := p
  unfold rotQ
  have e : nrm (k * w) (k * x) (k * y) (k * z) = (k * k) * nrm w x y z := by unfold nrm; grind
  have hkk : k * k ≠ 0 := by grind
  have e2 : (nrm (k * w) (k * x) (k * y) (k * z))⁻¹ = (nrm w x y z)⁻¹ * (k * k)⁻¹ := by rw [e, Rat.inv_mul_rev]
  have e3 := Rat.mul_inv_cancel _ hkk
  rw [e2]
  generalize (nrm w x y z)⁻¹ = i
  generalize hj : (k * k)⁻¹ = j at e3
  simp only [Prod.mk.injEq]
  refine ⟨?_, ?_, ?_⟩ <;> grind
theorem rot_smul {k : Int} (hk : k ≠ 0) {a : List Int} (ha : a.length = 4) (p : Pt) : rot (a.map (k * ·)) p = rot a p := by
  obtain ⟨w, x, y, z, rfl⟩ := four_of ha
  simp only [rot, List.map_cons, List.map_nil, Rat.intCast_mul]
  exact rotQ_smul (by exact_mod_cast hk) p
theorem rot_pln {a : List Int} (ha : a.length = 4) (hz : ∃ n ∈ a, n ≠ 0) (p : Pt) : rot (pln a) p = rot a p := by
  conv => rhs; rw [pln_mul hz]
  exact (rot_smul (fsgl_ne hz) (by rw [pln_len, ha]) p).symm
/-- the square of a way -/
def sqP (p : Pt) : Rat := p.1 * p.1 + p.2.1 * p.2.1 + p.2.2 * p.2.2
theorem rotQ_sq {w x y z : Rat} (h : nrm w x y z ≠ 0) (p : Pt) : sqP (rotQ w x y z p) = sqP p := by
  obtain ⟨p, q, r⟩ := p
  have e3 := Rat.mul_inv_cancel _ h
  unfold rotQ sqP
  generalize hi : (nrm w x y z)⁻¹ = i at *
  unfold nrm at e3
  simp only
  grind
end Z
set_option Elab.async false
set_option linter.all false
set_option maxRecDepth 100000
set_option exponentiation.threshold 20000
/-! R2: promises about fours, fractions, points. -/
namespace Z
open PySem PySem.Spec PyProof.Rows L2 RZ
/-- the product of two fours -/
def spProd : SpZ := fun rs S W => match rs with
  | [.d (.tup xs), .d (.tup ys)] => ∃ a b : List Int, xs = a.map D.int ∧ ys = b.map D.int ∧ a.length = 4 ∧ b.length = 4 ∧ (∀ x ∈ a, Bd 60000000 x) ∧ (∀ x ∈ b, Bd 60000000 x) ∧ W (.d (.tup ((qmul a b).map D.int))) S
  | _ => False
/-- one turn and then another one -/
def spThen : SpZ := fun rs S W => match rs with
  | [.d (.tup xs), .d (.tup ys)] => ∃ a b : List Int, xs = a.map D.int ∧ ys = b.map D.int ∧ a.length = 4 ∧ b.length = 4 ∧ (∃ x ∈ a, x ≠ 0) ∧ (∃ x ∈ b, x ≠ 0) ∧ (∀ x ∈ a, Bd 4400 x) ∧ (∀ x ∈ b, Bd 4400 x) ∧ W (.d (.tup ((pln (qmul b a)).map D.int))) S
  | _ => False
/-- a fraction in lowest terms -/
def spMade : SpZ := fun rs S W => match rs with
  | [.d (.int t), .d (.int b)] => b ≠ 0 ∧ Bd 9000 b ∧ W (.d (frD ((t : Rat) / (b : Rat)))) S
  | _ => False
theorem frD_pos {t b : Int} (h : 0 < b) : frD ((t : Rat) / (b : Rat)) = .tup [.int (t.fdiv (Int.gcd t b)), .int (b.fdiv (Int.gcd t b))] := by
  unfold frD
  rw [made_num (by omega), made_den (by omega), if_neg (by omega), if_neg (by omega)]
theorem frD_neg {t b : Int} (h : b < 0) : frD ((t : Rat) / (b : Rat)) = .tup [.int (t.fdiv (-(Int.gcd t b : Int))), .int (b.fdiv (-(Int.gcd t b : Int)))] := by
  unfold frD
  rw [made_num (by omega), made_den (by omega), if_pos h, if_pos h]
theorem gcd_cdv {t b : Int} (hb : b ≠ 0) (h : Bd 9000 b) (n : Int) : CDv n (Int.gcd t b) ∧ CDv n (-(Int.gcd t b : Int)) := by
  have hg : 0 < Int.gcd t b := Int.gcd_pos_of_ne_zero_right t hb
  have hle : Int.gcd t b ≤ b.natAbs := Nat.le_of_dvd (by omega) (Int.natAbs_dvd_natAbs.mpr (Int.gcd_dvd_right t b) |> fun q => by simpa using q)
  have b1 : Bd 9000 (Int.gcd t b : Int) := by simp only [bd_iff] at *; simp only [Int.natAbs_natCast]; omega
  exact ⟨cdv (by omega) b1 (Nat.le_refl _), cdv (by omega) b1.neg (Nat.le_refl _)⟩
/-- sizes of a fraction -/
def BQ (n : Nat) (q : Rat) : Prop := Bd n q.num ∧ Bd n (q.den : Int)
theorem BQ.mono {m n : Nat} {q : Rat} (h : BQ m q) (k : m ≤ n) : BQ n q := ⟨h.1.mono k, h.2.mono k⟩
theorem BQ.made {n : Nat} {t b : Int} (hb : b ≠ 0) (h1 : Bd n t) (h2 : Bd n b) : BQ n ((t : Rat) / (b : Rat)) := by
  have hg : 0 < Int.gcd t b := Int.gcd_pos_of_ne_zero_right t hb
  rw [← Rat.divInt_eq_div]
  unfold BQ; simp only [bd_iff] at *
  rw [Rat.num_divInt, Rat.den_divInt, if_neg hb]
  refine ⟨?_, ?_⟩
  · refine Nat.lt_of_le_of_lt (Int.natAbs_ediv_le_natAbs _ _) ?_
    rw [Int.natAbs_mul]
    have : b.sign.natAbs = 1 := Int.natAbs_sign_of_ne_zero hb
    rw [this, Nat.one_mul]; exact h1
  · simp only [Int.natAbs_natCast]
    exact Nat.lt_of_le_of_lt (Nat.div_le_self _ _) h2
/-- a point of one common bottom and tops of such sizes -/
def PtB (n : Nat) (p : Pt) : Prop := ∃ L : Nat, 0 < L ∧ Bd n (L : Int) ∧ ∀ q, (q = p.1 ∨ q = p.2.1 ∨ q = p.2.2) → q.den ∣ L ∧ Bd n (q.num * ((L / q.den : Nat) : Int))
theorem PtB.mono {m n : Nat} {p : Pt} (h : PtB m p) (k : m ≤ n) : PtB n p := by
  obtain ⟨L, h0, h1, h2⟩ := h
  exact ⟨L, h0, h1.mono k, fun q hq => ⟨(h2 q hq).1, (h2 q hq).2.mono k⟩⟩
theorem PtB.of {n : Nat} {p : Pt} (h1 : BQ n p.1) (h2 : BQ n p.2.1) (h3 : BQ n p.2.2) : PtB (n * 4) p := by
  obtain ⟨p, q, r⟩ := p
  simp only at h1 h2 h3
  have d1 := p.den_pos
  have d2 := q.den_pos
  have d3 := r.den_pos
  have hL : Bd (n + n + n) ((p.den * q.den * r.den : Nat) : Int) := by
    rw [Int.natCast_mul, Int.natCast_mul]
    exact (h1.2.mul h2.2).mul h3.2
  refine ⟨p.den * q.den * r.den, Nat.mul_pos (Nat.mul_pos d1 d2) d3, hL.mono (by omega), fun x hx => ?_⟩
  have key : ∀ x : Rat, Bd n x.num → x.den ∣ p.den * q.den * r.den → x.den ∣ p.den * q.den * r.den ∧ Bd (n * 4) (x.num * ((p.den * q.den * r.den / x.den : Nat) : Int)) := fun x hx hd => by
    refine ⟨hd, ?_⟩
    have : Bd (n + n + n) ((p.den * q.den * r.den / x.den : Nat) : Int) := by
      simp only [bd_iff] at *
      simp only [Int.natAbs_natCast] at *
      exact Nat.lt_of_le_of_lt (Nat.div_le_self _ _) hL
    exact (hx.mul this).mono (by omega)
  rcases hx with rfl | rfl | rfl
  · exact key _ h1.1 (Nat.dvd_trans (Nat.dvd_mul_right _ _) (Nat.dvd_mul_right _ _))
  · exact key _ h2.1 (Nat.dvd_trans (Nat.dvd_mul_left _ _) (Nat.dvd_mul_right _ _))
  · exact key _ h3.1 (Nat.dvd_mul_left _ _)
theorem PtB.bq {n : Nat} {p : Pt} (h : PtB n p) {q : Rat} (hq : q = p.1 ∨ q = p.2.1 ∨ q = p.2.2) : BQ n q := by
  obtain ⟨L, h0, h1, h2⟩ := h
  obtain ⟨hd, hb⟩ := h2 q hq
  refine ⟨?_, ?_⟩
  · simp only [bd_iff] at *
    rw [Int.natAbs_mul] at hb
    simp only [Int.natAbs_natCast] at hb
    have : 0 < L / q.den := Nat.div_pos (Nat.le_of_dvd h0 hd) q.den_pos
    exact Nat.lt_of_le_of_lt (Nat.le_mul_of_pos_right _ this) hb
  · simp only [bd_iff] at *
    simp only [Int.natAbs_natCast] at *
    exact Nat.lt_of_le_of_lt (Nat.le_of_dvd h0 hd) h1
/-- the turned point -/
def TB (a : List Int) (p : Pt) : Prop := ∃ m n : Nat, 2 * m + n ≤ 8900 ∧ (∀ x ∈ a, Bd m x) ∧ PtB n p
def spTurn : SpZ := fun rs S W => match rs with
  | [.d (.tup xs), .d pd] => ∃ (a : List Int) (p : Pt), xs = a.map D.int ∧ a.length = 4 ∧ (∃ x ∈ a, x ≠ 0) ∧ TB a p ∧ pd = ptD p ∧ W (.d (ptD (rot a p))) S
  | _ => False
/-- the rows of a four's table, whole -/
def rowsI : List Int → List (List Int)
  | [w, x, y, z] => [[w * w + x * x - y * y - z * z, 2 * (x * y - w * z), 2 * (x * z + w * y)], [2 * (x * y + w * z), w * w - x * x + y * y - z * z, 2 * (y * z - w * x)], [2 * (x * z - w * y), 2 * (y * z + w * x), w * w - x * x - y * y + z * z]]
  | _ => []
def rowD (xs : List Int) : D := .tup (xs.map D.int)
theorem rowsI_bd {n : Nat} {a : List Int} (h : ∀ x ∈ a, Bd n x) : ∀ row ∈ rowsI a, ∀ x ∈ row, Bd (n + n + 2) x := by
  unfold rowsI
  split
  · rename_i w x y z
    simp only [List.mem_cons, List.not_mem_nil, or_false] at h ⊢
    have mm : ∀ i j, Bd n i → Bd n j → (i * j).natAbs < 2 ^ (n + n) := fun i j a b => (a.mul b).lt
    have p1 := h w (by simp); have p2 := h x (by simp); have p3 := h y (by simp); have p4 := h z (by simp)
    have e : 2 ^ (n + n + 2) = 2 ^ (n + n) * 4 := by rw [Nat.pow_add]
    have a1 := mm _ _ p1 p1; have a2 := mm _ _ p2 p2; have a3 := mm _ _ p3 p3; have a4 := mm _ _ p4 p4
    have b1 := mm _ _ p2 p3; have b2 := mm _ _ p1 p4; have b3 := mm _ _ p2 p4; have b4 := mm _ _ p1 p3; have b5 := mm _ _ p3 p4; have b6 := mm _ _ p1 p2
    have s1 := sq_nn w; have s2 := sq_nn x; have s3 := sq_nn y; have s4 := sq_nn z
    rintro row (rfl | rfl | rfl) u hu <;> simp only [List.mem_cons, List.not_mem_nil, or_false] at hu <;> rcases hu with rfl | rfl | rfl <;> (refine bd_iff.mpr ?_; rw [e]; omega)
  · intro row hr; simp at hr
end Z
set_option Elab.async false
set_option linter.all false
set_option maxRecDepth 100000
set_option exponentiation.threshold 20000
/-! R3: more of fours and turned points, plain. -/
namespace Z
open PySem PySem.Spec PyProof.Rows L2 RZ
theorem qmul_smul_l {k : Int} {a b : List Int} (ha : a.length = 4) (hb : b.length = 4) : qmul (a.map (k * ·)) b = (qmul a b).map (k * ·) := by
  obtain ⟨p, q, r, s, rfl⟩ := four_of ha
  obtain ⟨t, u, v, o, rfl⟩ := four_of hb
  simp only [qmul, List.map_cons, List.map_nil, List.cons.injEq, and_true]
  refine ⟨?_, ?_, ?_, ?_⟩ <;> grind
theorem qmul_smul_r {k : Int} {a b : List Int} (ha : a.length = 4) (hb : b.length = 4) : qmul a (b.map (k * ·)) = (qmul a b).map (k * ·) := by
  obtain ⟨p, q, r, s, rfl⟩ := four_of ha
  obtain ⟨t, u, v, o, rfl⟩ := four_of hb
  simp only [qmul, List.map_cons, List.map_nil, List.cons.injEq, and_true]
  refine ⟨?_, ?_, ?_, ?_⟩ <;> grind
theorem pln_qmul_l {a b : List Int} (ha : a.length = 4) (hb : b.length = 4) (za : ∃ n ∈ a, n ≠ 0) (zb : ∃ n ∈ b, n ≠ 0) : pln (qmul (pln a) b) = pln (qmul a b) := by
  have hp : (pln a).length = 4 := by rw [pln_len, ha]
  conv => rhs; rw [pln_mul za, qmul_smul_l hp hb, pln_smul (fsgl_ne za) (qmul_nz hp hb (pln_nz za) zb)]
theorem pln_qmul_r {a b : List Int} (ha : a.length = 4) (hb : b.length = 4) (za : ∃ n ∈ a, n ≠ 0) (zb : ∃ n ∈ b, n ≠ 0) : pln (qmul a (pln b)) = pln (qmul a b) := by
  have hp : (pln b).length = 4 := by rw [pln_len, hb]
  conv => rhs; rw [pln_mul zb, qmul_smul_r ha hp, pln_smul (fsgl_ne zb) (qmul_nz ha hp za (pln_nz zb))]
theorem qbk_len {a : List Int} (ha : a.length = 4) : (qbk a).length = 4 := by
  obtain ⟨p, q, r, s, rfl⟩ := four_of ha; rfl
theorem qbk_nz {a : List Int} (ha : a.length = 4) (hz : ∃ n ∈ a, n ≠ 0) : ∃ n ∈ qbk a, n ≠ 0 := by
  obtain ⟨w, x, y, z, rfl⟩ := four_of ha
  obtain ⟨n, hn, h0⟩ := hz
  simp only [qbk, List.mem_cons, List.not_mem_nil, or_false] at hn ⊢
  rcases hn with rfl | rfl | rfl | rfl
  · exact ⟨n, by simp, h0⟩
  · exact ⟨-n, by simp, by omega⟩
  · exact ⟨-n, by simp, by omega⟩
  · exact ⟨-n, by simp, by omega⟩
theorem qbk_bd {n : Nat} {a : List Int} (hb : ∀ x ∈ a, Bd n x) : ∀ x ∈ qbk a, Bd n x := by
  unfold qbk
  split
  · simp only [List.mem_cons, List.not_mem_nil, or_false, forall_eq_or_imp, forall_eq] at hb ⊢
    exact ⟨hb.1, hb.2.1.neg, hb.2.2.1.neg, hb.2.2.2.neg⟩
  · intro x hx; simp at hx
theorem pln_one {n : Int} (h : n ≠ 0) : pln [n, 0, 0, 0] = [1, 0, 0, 0] := by
  have e : [n, 0, 0, 0] = [1, 0, 0, 0].map (n * ·) := by simp
  rw [e, pln_smul h ⟨1, by simp, by decide⟩]
  decide
theorem nrmI_ne {a : List Int} (ha : a.length = 4) (hz : ∃ n ∈ a, n ≠ 0) : nrmI a ≠ 0 := by
  obtain ⟨w, x, y, z, rfl⟩ := four_of ha
  have := nrmI_pos hz
  omega
theorem qmul_bk_l {a : List Int} (ha : a.length = 4) (hz : ∃ n ∈ a, n ≠ 0) : pln (qmul (qbk a) a) = [1, 0, 0, 0] := by
  have hn := nrmI_ne ha hz
  obtain ⟨w, x, y, z, rfl⟩ := four_of ha
  have e : qmul (qbk [w, x, y, z]) [w, x, y, z] = [nrmI [w, x, y, z], 0, 0, 0] := by
    simp only [qmul, qbk, nrmI, List.cons.injEq, and_true]
    refine ⟨?_, ?_, ?_, ?_⟩ <;> grind
  rw [e, pln_one hn]
theorem qmul_bk_r {a : List Int} (ha : a.length = 4) (hz : ∃ n ∈ a, n ≠ 0) : pln (qmul a (qbk a)) = [1, 0, 0, 0] := by
  have hn := nrmI_ne ha hz
  obtain ⟨w, x, y, z, rfl⟩ := four_of ha
  have e : qmul [w, x, y, z] (qbk [w, x, y, z]) = [nrmI [w, x, y, z], 0, 0, 0] := by
    simp only [qmul, qbk, nrmI, List.cons.injEq, and_true]
    refine ⟨?_, ?_, ?_, ?_⟩ <;> grind
  rw [e, pln_one hn]
theorem qmul_one_r {k : Int} {a : List Int} (ha : a.length = 4) : qmul a [k, 0, 0, 0] = a.map (k * ·) := by
  obtain ⟨w, x, y, z, rfl⟩ := four_of ha
  simp only [qmul, List.map_cons, List.map_nil, List.cons.injEq, and_true]
  refine ⟨?_, ?_, ?_, ?_⟩ <;> grind
theorem qmul_one_l {k : Int} {a : List Int} (ha : a.length = 4) : qmul [k, 0, 0, 0] a = a.map (k * ·) := by
  obtain ⟨w, x, y, z, rfl⟩ := four_of ha
  simp only [qmul, List.map_cons, List.map_nil, List.cons.injEq, and_true]
  refine ⟨?_, ?_, ?_, ?_⟩ <;> grind
theorem qmul_assoc {a b c : List Int} (ha : a.length = 4) (hb : b.length = 4) (hc : c.length = 4) : qmul (qmul a b) c = qmul a (qmul b c) := by
  obtain ⟨p, q, r, s, rfl⟩ := four_of ha
  obtain ⟨t, u, v, o, rfl⟩ := four_of hb
  obtain ⟨w, x, y, z, rfl⟩ := four_of hc
  simp only [qmul, List.cons.injEq, and_true]
  refine ⟨?_, ?_, ?_, ?_⟩ <;> grind
/-! ### a point over one bottom -/
/-- the top of q over the bottom B -/
def topOf (B : Nat) (q : Rat) : Int := q.num * ((B / q.den : Nat) : Int)
theorem topOf_eq {B : Nat} {q : Rat} (h0 : 0 < B) (hd : q.den ∣ B) : (topOf B q : Rat) = q * (B : Rat) := by
  obtain ⟨c, rfl⟩ := hd
  have h1 : q.den * c / q.den = c := Nat.mul_div_cancel_left c q.den_pos
  unfold topOf
  have hd : (q.den : Rat) ≠ 0 := by exact_mod_cast (by have := q.den_pos; omega : q.den ≠ 0)
  have e : q * (q.den : Rat) = (q.num : Rat) := by
    conv => lhs; lhs; rw [← Rat.mkRat_self q, Rat.mkRat_eq_div]
    rw [Rat.div_def, Rat.mul_assoc, Rat.inv_mul_cancel _ hd, Rat.mul_one]
  rw [h1, Rat.intCast_mul, Rat.natCast_mul, ← Rat.mul_assoc, e]
  rfl
theorem fdiv_nat (a b : Nat) : (a : Int).fdiv (b : Int) = ((a / b : Nat) : Int) := by
  rw [Int.fdiv_eq_ediv_of_nonneg _ (by omega)]; rfl
/-- one line of the table on a point -/
def dotI (row : List Int) (B : Nat) (p : Pt) : Int := match row with
  | [a, b, c] => a * topOf B p.1 + b * topOf B p.2.1 + c * topOf B p.2.2
  | _ => 0
theorem rot_rows {a : List Int} (ha : a.length = 4) (hz : ∃ n ∈ a, n ≠ 0) {p : Pt} {B : Nat} (h0 : 0 < B) (h1 : p.1.den ∣ B) (h2 : p.2.1.den ∣ B) (h3 : p.2.2.den ∣ B) :
    ptD (rot a p) = .tup ((rowsI a).map fun row => frD ((dotI row B p : Rat) / ((nrmI a * (B : Int) : Int) : Rat))) := by
  have e1 := topOf_eq h0 h1
  have e2 := topOf_eq h0 h2
  have e3 := topOf_eq h0 h3
  obtain ⟨w, x, y, z, rfl⟩ := four_of ha
  have hB : (B : Rat) ≠ 0 := by exact_mod_cast (by omega : B ≠ 0)
  have hn := nrm_ne hz
  have en : ((nrmI [w, x, y, z] : Int) : Rat) = nrm w x y z := by
    simp only [nrmI, nrm, Rat.intCast_add, Rat.intCast_mul]
  obtain ⟨p1, p2, p3⟩ := p
  simp only at e1 e2 e3
  have key : ∀ r1 r2 r3 : Int, ((dotI [r1, r2, r3] B (p1, p2, p3) : Int) : Rat) / ((nrmI [w, x, y, z] * (B : Int) : Int) : Rat) = (p1 * r1 + p2 * r2 + p3 * r3) * (nrm w x y z)⁻¹ := fun r1 r2 r3 => by
    simp only [dotI, Rat.intCast_add, Rat.intCast_mul, e1, e2, e3, en, Rat.intCast_natCast]
    rw [Rat.div_def, Rat.inv_mul_rev]
    have := Rat.mul_inv_cancel _ hB
    generalize (nrm (w : Rat) x y z)⁻¹ = i
    generalize ((B : Rat))⁻¹ = j at this ⊢
    grind
  simp only [ptD, rowsI, List.map_cons, List.map_nil, key, rot, rotQ]
  simp only [Rat.intCast_add, Rat.intCast_mul, Rat.intCast_sub]
  rfl
/-- the least common bottom, one more part -/
def lcmS (b d : Nat) : Nat := b * (d / Nat.gcd b d)
theorem lcmS_pos {b d : Nat} (hb : 0 < b) (hd : 0 < d) : 0 < lcmS b d := Nat.mul_pos hb (Nat.div_pos (Nat.le_of_dvd hd (Nat.gcd_dvd_right b d)) (Nat.gcd_pos_of_pos_left _ hb))
theorem lcmS_eq (b d : Nat) : lcmS b d = Nat.lcm b d := by
  unfold lcmS Nat.lcm
  rw [← Nat.mul_div_assoc _ (Nat.gcd_dvd_right b d)]
theorem lcmS_l (b d : Nat) : b ∣ lcmS b d := by rw [lcmS_eq]; exact Nat.dvd_lcm_left b d
theorem lcmS_r (b d : Nat) : d ∣ lcmS b d := by rw [lcmS_eq]; exact Nat.dvd_lcm_right b d
theorem lcmS_dvd {b d L : Nat} (h1 : b ∣ L) (h2 : d ∣ L) : lcmS b d ∣ L := by rw [lcmS_eq]; exact Nat.lcm_dvd h1 h2
theorem topOf_bd {n : Nat} {B L : Nat} {q : Rat} (hL : 0 < L) (h1 : q.den ∣ B) (h2 : B ∣ L) (h : Bd n (q.num * ((L / q.den : Nat) : Int))) : Bd n (topOf B q) := by
  unfold topOf
  simp only [bd_iff] at *
  rw [Int.natAbs_mul] at *
  simp only [Int.natAbs_natCast] at *
  exact Nat.lt_of_le_of_lt (Nat.mul_le_mul_left _ (Nat.div_le_div_right (Nat.le_of_dvd hL h2))) h
/-! ### rows of anything -/
theorem lcL_enc {α : Type} {k : Nat} {chk : Sto → Prop} {f : R → Rho → Option Rho} {t : PT1} {w : PE1} {r : Rho} {xs : List α} (enc : α → R) (g : α → D) {S : Sto} {W : List D → Sto → Prop} (hk : S.take k = S) (hc : chk S)
    (h : ∀ x ∈ xs, ∃ r1, f (enc x) r = some r1 ∧ (∀ W1 : Bool → Sto → Prop, W1 true S → t r1 S W1) ∧ ∀ W1 : PK1, W1 (.r (.d (g x))) S → w r1 S W1) (q : W (xs.map g) S) : lcL k chk f t w r (xs.map enc) S W := by
  induction xs generalizing W with
  | nil => exact ⟨hc, q⟩
  | cons x xs ih =>
    obtain ⟨r1, h1, h2, h3⟩ := h x (by simp)
    simp only [List.map_cons]
    unfold lcL
    refine ⟨hc, ?_⟩
    rw [h1]
    refine h2 _ ?_
    rw [if_pos rfl]
    refine h3 _ ?_
    rw [hk]
    exact ih (fun y hy => h y (by simp [hy])) q
theorem item_enc {α : Type} {enc : α → R} {xs : List α} {i : Nat} {x : R} (hx : (xs.map enc)[i]? = some x) : ∃ y, xs[i]? = some y ∧ x = enc y := by
  rw [List.getElem?_map] at hx
  cases e : xs[i]? with
  | none => rw [e] at hx; simp at hx
  | some y => rw [e] at hx; simp at hx; exact ⟨y, rfl, hx.symm⟩
theorem take_one {α β : Type} {xs : List α} {i : Nat} {y : α} (h : xs[i]? = some y) (g : α → β) : (xs.take (i + 1)).map g = (xs.take i).map g ++ [g y] := by
  rw [List.take_add_one, h]; simp
theorem mem_take_one {α : Type} {xs : List α} {i : Nat} {y q : α} (h : xs[i]? = some y) (hq : q ∈ xs.take (i + 1)) : q ∈ xs.take i ∨ q = y := by
  rw [List.take_add_one, h] at hq; simpa using hq
theorem mem_of_at {α : Type} {xs : List α} {i : Nat} {y : α} (h : xs[i]? = some y) : y ∈ xs := List.mem_of_getElem? h
def qsOf (p : Pt) : List Rat := [p.1, p.2.1, p.2.2]
theorem ptD_qs (p : Pt) : ptD p = .tup ((qsOf p).map frD) := rfl
theorem rowsI_three {a row : List Int} (h : row ∈ rowsI a) : ∃ x y z, row = [x, y, z] := by
  unfold rowsI at h
  split at h
  · simp only [List.mem_cons, List.not_mem_nil, or_false] at h
    rcases h with rfl | rfl | rfl <;> exact ⟨_, _, _, rfl⟩
  · simp at h
theorem nrmI_bd {n : Nat} {a : List Int} (h : ∀ x ∈ a, Bd n x) : Bd (n + n + 2) (nrmI a) := by
  unfold nrmI
  split
  · rename_i w x y z
    simp only [List.mem_cons, List.not_mem_nil, or_false, forall_eq_or_imp, forall_eq] at h
    obtain ⟨p1, p2, p3, p4⟩ := h
    have a1 := (p1.mul p1).lt; have a2 := (p2.mul p2).lt; have a3 := (p3.mul p3).lt; have a4 := (p4.mul p4).lt
    have s1 := sq_nn w; have s2 := sq_nn x; have s3 := sq_nn y; have s4 := sq_nn z
    have e : 2 ^ (n + n + 2) = 2 ^ (n + n) * 4 := by rw [Nat.pow_add]
    refine bd_iff.mpr ?_
    rw [e]; omega
  · exact Bd.zero
def sqs (xs : List Int) : Int := (xs.map fun x => x * x).sum
def spSize : SpZ := fun rs S W => match rs with
  | [.d (.tup xs)] => ∃ ns : List Int, xs = ns.map D.int ∧ (∀ n ∈ ns, Bd 60000000 n) ∧ ns.length ≤ 1000 ∧ W (.d (.int (sqs ns))) S
  | _ => False
theorem sqs_four {a : List Int} (h : a.length = 4) : sqs a = nrmI a := by
  obtain ⟨w, x, y, z, rfl⟩ := four_of h
  simp only [sqs, nrmI, List.map_cons, List.map_nil, List.sum_cons, List.sum_nil]
  omega
theorem fr_den (q : Rat) : (q.den : Int) ≠ 0 := by have := q.den_pos; omega
theorem gcd_nat (b d : Nat) : Int.gcd (b : Int) (d : Int) = Nat.gcd b d := by simp [Int.gcd]
/-! ### places in a store that grew -/
theorem at_k {S l : Sto} {k : Nat} : (S ++ l)[S.length + k]? = l[k]? := by
  rw [List.getElem?_append_right (by omega), Nat.add_sub_cancel_left]
theorem at_0 {S l : Sto} : (S ++ l)[S.length]? = l[0]? := at_k (k := 0)
theorem set_k {S l : Sto} {k : Nat} {x : O} : (S ++ l).set (S.length + k) x = S ++ l.set k x := by
  rw [List.set_append_right _ _ (by omega), Nat.add_sub_cancel_left]
theorem set_0 {S l : Sto} {x : O} : (S ++ l).set S.length x = S ++ l.set 0 x := set_k (k := 0)
theorem lt_k {n k : Nat} : (n + k < n) = False := by simp
theorem take_k {S l : Sto} {k : Nat} : (S ++ l).take (S.length + k) = S ++ l.take k := by
  rw [List.take_append, Nat.add_sub_cancel_left, List.take_of_length_le (by omega)]
theorem lt_kk {n j k : Nat} : (n + j < n + k) = (j < k) := by simp
theorem rowsI_len (a : List Int) : (rowsI a).length ≤ 3 := by unfold rowsI; split <;> simp
def spTurnL : SpZ := fun rs S W => match rs with
  | [.d (.tup xs), .d pd] => ∃ (a : List Int) (p : Pt), xs = a.map D.int ∧ a.length = 4 ∧ (∃ x ∈ a, x ≠ 0) ∧ (∀ x ∈ a, Bd 2000 x) ∧ pd = ptD p ∧ (∀ q ∈ qsOf p, BQ 1000 q) ∧ W (.d (ptD (rot a p))) S
  | _ => False
/-- a line of the table on a point, by the parts -/
def dotQ (row : List Int) (p : Pt) : Rat := match row with
  | [a, b, c] => a * p.1 + b * p.2.1 + c * p.2.2
  | _ => 0
theorem dot_cross {r1 r2 r3 : Int} {p : Pt} {n : Int} :
    ((((0 * (p.1.den : Int) + r1 * p.1.num * 1) * (p.2.1.den : Int) + r2 * p.2.1.num * (1 * (p.1.den : Int))) * (p.2.2.den : Int) + r3 * p.2.2.num * (1 * (p.1.den : Int) * (p.2.1.den : Int)) : Int) : Rat) / ((1 * (p.1.den : Int) * (p.2.1.den : Int) * (p.2.2.den : Int) * n : Int) : Rat) = dotQ [r1, r2, r3] p * (n : Rat)⁻¹ := by
  have k : ∀ q : Rat, ∃ d : Rat, d ≠ 0 ∧ ((q.den : Int) : Rat) = d ∧ (q.num : Rat) = q * d := fun q => by
    have hd : (q.den : Rat) ≠ 0 := by exact_mod_cast (by have := q.den_pos; omega : q.den ≠ 0)
    refine ⟨(q.den : Rat), hd, rfl, ?_⟩
    conv => rhs; lhs; rw [← Rat.mkRat_self q, Rat.mkRat_eq_div]
    rw [Rat.div_def, Rat.mul_assoc, Rat.inv_mul_cancel _ hd, Rat.mul_one]
  obtain ⟨p1, p2, p3⟩ := p
  obtain ⟨d1, z1, e1, f1⟩ := k p1
  obtain ⟨d2, z2, e2, f2⟩ := k p2
  obtain ⟨d3, z3, e3, f3⟩ := k p3
  simp only [Rat.intCast_add, Rat.intCast_mul, e1, e2, e3, f1, f2, f3, dotQ]
  rw [Rat.div_def, Rat.inv_mul_rev]
  generalize hn : (n : Rat)⁻¹ = i
  have hz : d1 * d2 * d3 ≠ 0 := by
    intro h
    rcases Rat.mul_eq_zero.mp h with h | h
    · rcases Rat.mul_eq_zero.mp h with h | h
      · exact z1 h
      · exact z2 h
    · exact z3 h
  have := Rat.mul_inv_cancel _ hz
  have e : ((1 : Int) : Rat) * d1 * d2 * d3 = d1 * d2 * d3 := by rw [show ((1 : Int) : Rat) = 1 from rfl, Rat.one_mul]
  rw [e]
  generalize (d1 * d2 * d3)⁻¹ = j at this ⊢
  simp only [show ((1 : Int) : Rat) = 1 from rfl, show ((0 : Int) : Rat) = 0 from rfl]
  grind
theorem rot_dot {a : List Int} (ha : a.length = 4) (p : Pt) : ptD (rot a p) = .tup ((rowsI a).map fun row => frD (dotQ row p * (nrmI a : Rat)⁻¹)) := by
  obtain ⟨w, x, y, z, rfl⟩ := four_of ha
  obtain ⟨p1, p2, p3⟩ := p
  have en : ((nrmI [w, x, y, z] : Int) : Rat) = nrm w x y z := by
    simp only [nrmI, nrm, Rat.intCast_add, Rat.intCast_mul]
  simp only [ptD, rowsI, List.map_cons, List.map_nil, rot, rotQ, dotQ, en]
  simp only [Rat.intCast_add, Rat.intCast_mul, Rat.intCast_sub]
  refine congrArg D.tup ?_
  simp only [List.cons.injEq, and_true, frD_inj]
  refine ⟨?_, ?_, ?_⟩ <;> (congr 1; simp only [show ((2 : Int) : Rat) = 2 from rfl]; grind)
theorem ptD_fr (p : Pt) : ptD p = .tup [.tup [.int p.1.num, .int (p.1.den : Int)], .tup [.int p.2.1.num, .int (p.2.1.den : Int)], .tup [.int p.2.2.num, .int (p.2.2.den : Int)]] := rfl
theorem forL_cons {k : Nat} {chk : Sto → Prop} {f : R → Rho → Option Rho} {body : PS1} {N : En} {x : R} {xs : List R} {r : Rho} {S : Sto} (hc : chk S)
    (h : match f x r with
      | some r1 => body { nx := fun r2 S2 => ∃ r3 S3, Cut k r2 S2 r3 S3 ∧ forL k chk f body N xs r3 S3, rt := N.rt, bk := N.nx, ct := fun r2 S2 => ∃ r3 S3, Cut k r2 S2 r3 S3 ∧ forL k chk f body N xs r3 S3 } r1 S
      | none => False) : forL k chk f body N (x :: xs) r S := by
  unfold forL
  exact ⟨hc, h⟩
theorem forL_nil {k : Nat} {chk : Sto → Prop} {f : R → Rho → Option Rho} {body : PS1} {N : En} {r : Rho} {S : Sto} (hc : chk S) (h : N.nx r S) : forL k chk f body N [] r S := by
  unfold forL
  exact ⟨hc, h⟩
theorem lt_0k {n k : Nat} : (n < n + k) = (0 < k) := by simp
/-- a drawn point: small tops and bottoms -/
def PtS (p : Pt) : Prop := ∀ q ∈ qsOf p, BQ 100 q
theorem PtS.big {p : Pt} (h : PtS p) : PtB 4000 p := by
  have k : PtB (100 * 4) p := PtB.of (h _ (by simp [qsOf])) (h _ (by simp [qsOf])) (h _ (by simp [qsOf]))
  exact k.mono (by decide)
theorem pt_of {qs : List Rat} (h : qs.length = 3) : ∃ p : Pt, qs = qsOf p := by
  match qs, h with
  | [x, y, z], _ => exact ⟨(x, y, z), rfl⟩
theorem eqv_ii {a b : Int} : PyData.eqv (.int a) (.int b) = (a == b) := by simp only [PyData.eqv]
theorem eqv_bb {a b : Bool} : PyData.eqv (.bool a) (.bool b) = (a == b) := by simp only [PyData.eqv]
theorem eqv_tt {a b : List PyData} : PyData.eqv (.tuple a) (.tuple b) = PyData.eqvAll a b := by simp only [PyData.eqv]
theorem eqv_ll {a b : List PyData} : PyData.eqv (.list a) (.list b) = PyData.eqvAll a b := by simp only [PyData.eqv]
theorem eqv_nn : PyData.eqv .none .none = true := by simp only [PyData.eqv]
theorem eqv_tn {a : List PyData} : PyData.eqv (.tuple a) .none = false := by simp only [PyData.eqv]
theorem eqv_nt {a : List PyData} : PyData.eqv .none (.tuple a) = false := by simp only [PyData.eqv]
theorem eqv_it {a : List PyData} {i : Int} : PyData.eqv (.int i) (.tuple a) = false := by simp only [PyData.eqv]
theorem eqv_ti {a : List PyData} {i : Int} : PyData.eqv (.tuple a) (.int i) = false := by simp only [PyData.eqv]
theorem eqv_in {i : Int} : PyData.eqv (.int i) .none = false := by simp only [PyData.eqv]
theorem eqv_ni {i : Int} : PyData.eqv .none (.int i) = false := by simp only [PyData.eqv]
theorem eqa_nil : PyData.eqvAll [] [] = true := by simp only [PyData.eqvAll]
theorem eqa_nc {a : PyData} {as : List PyData} : PyData.eqvAll [] (a :: as) = false := by simp only [PyData.eqvAll]
theorem eqa_cn {a : PyData} {as : List PyData} : PyData.eqvAll (a :: as) [] = false := by simp only [PyData.eqvAll]
theorem eqa_cc {a b : PyData} {as bs : List PyData} : PyData.eqvAll (a :: as) (b :: bs) = (PyData.eqv a b && PyData.eqvAll as bs) := by simp only [PyData.eqvAll]
end Z
set_option Elab.async false
set_option linter.all false
set_option maxRecDepth 100000
set_option exponentiation.threshold 20000
/-! R4: sizes of turned points, squares of distances, sameness of points. -/
namespace Z
open PySem PySem.Spec PyProof.Rows L2 RZ
theorem fr_parts (q : Rat) : ∃ d : Rat, d ≠ 0 ∧ ((q.den : Int) : Rat) = d ∧ (q.num : Rat) = q * d := by
  have hd : (q.den : Rat) ≠ 0 := by exact_mod_cast (by have := q.den_pos; omega : q.den ≠ 0)
  refine ⟨(q.den : Rat), hd, rfl, ?_⟩
  conv => rhs; lhs; rw [← Rat.mkRat_self q, Rat.mkRat_eq_div]
  rw [Rat.div_def, Rat.mul_assoc, Rat.inv_mul_cancel _ hd, Rat.mul_one]
theorem dot_made {r1 r2 r3 n : Int} {p : Pt} :
    dotQ [r1, r2, r3] p * (n : Rat)⁻¹ = ((r1 * p.1.num * p.2.1.den * p.2.2.den + r2 * p.2.1.num * p.1.den * p.2.2.den + r3 * p.2.2.num * p.1.den * p.2.1.den : Int) : Rat) / ((p.1.den * p.2.1.den * p.2.2.den * n : Int) : Rat) := by
  obtain ⟨p1, p2, p3⟩ := p
  obtain ⟨d1, z1, e1, f1⟩ := fr_parts p1
  obtain ⟨d2, z2, e2, f2⟩ := fr_parts p2
  obtain ⟨d3, z3, e3, f3⟩ := fr_parts p3
  simp only [Rat.intCast_add, Rat.intCast_mul, e1, e2, e3, f1, f2, f3, dotQ]
  rw [Rat.div_def, Rat.inv_mul_rev (d1 * d2 * d3)]
  generalize hn : (n : Rat)⁻¹ = i
  have hz : d1 * d2 * d3 ≠ 0 := by
    intro h
    rcases Rat.mul_eq_zero.mp h with h | h
    · rcases Rat.mul_eq_zero.mp h with h | h
      · exact z1 h
      · exact z2 h
    · exact z3 h
  have := Rat.mul_inv_cancel _ hz
  generalize (d1 * d2 * d3)⁻¹ = j at this ⊢
  grind
/-- the parts of a turned point stay small -/
theorem rot_bq {m n : Nat} {a : List Int} (ha : a.length = 4) (hz : ∃ x ∈ a, x ≠ 0) (hb : ∀ x ∈ a, Bd m x) {p : Pt} (hp : ∀ q ∈ qsOf p, BQ n q) : ∀ q ∈ qsOf (rot a p), BQ (2 * m + 3 * n + 4) q := by
  have nb : Bd (m + m + 2) (nrmI a) := nrmI_bd hb
  have nz := nrmI_ne ha hz
  have rb := rowsI_bd hb
  have key : ∀ row ∈ rowsI a, BQ (2 * m + 3 * n + 4) (dotQ row p * (nrmI a : Rat)⁻¹) := fun row hr => by
    have r := rb row hr
    obtain ⟨r1, r2, r3, rfl⟩ := rowsI_three hr
    simp only [List.mem_cons, List.not_mem_nil, or_false, forall_eq_or_imp, forall_eq, qsOf, BQ] at r hp
    obtain ⟨b1, b2, b3⟩ := r
    obtain ⟨⟨c1, d1⟩, ⟨c2, d2⟩, ⟨c3, d3⟩⟩ := hp
    rw [dot_made]
    refine BQ.made ?_ ?_ ?_
    · have := p.1.den_pos; have := p.2.1.den_pos; have := p.2.2.den_pos
      exact Int.mul_ne_zero (Int.mul_ne_zero (Int.mul_ne_zero (by omega) (by omega)) (by omega)) nz
    · exact (((((b1.mul c1).mul d2).mul d3).add (((b2.mul c2).mul d1).mul d3)).add (((b3.mul c3).mul d1).mul d2)).mono (by omega)
    · exact (((d1.mul d2).mul d3).mul nb).mono (by omega)
  have e := rot_dot ha p
  rw [ptD_qs] at e
  have e2 : (qsOf (rot a p)).map frD = ((rowsI a).map fun row => dotQ row p * (nrmI a : Rat)⁻¹).map frD := by
    rw [List.map_map]; simpa [Function.comp_def] using e
  have inj : ∀ xs ys : List Rat, xs.map frD = ys.map frD → xs = ys := by
    intro xs
    induction xs with
    | nil => intro ys h; cases ys with
      | nil => rfl
      | cons y ys => simp at h
    | cons x xs ih => intro ys h; cases ys with
      | nil => simp at h
      | cons y ys =>
        simp only [List.map_cons, List.cons.injEq] at h
        rw [frD_inj.mp h.1, ih ys h.2]
  rw [inj _ _ e2]
  intro q hq
  obtain ⟨row, hr, rfl⟩ := List.mem_map.mp hq
  exact key row hr
theorem eqv_fr {x y : Rat} : (py (frD x)).eqv (py (frD y)) = decide (x = y) := by
  have e : (py (frD x)).eqv (py (frD y)) = decide (frL x = frL y) := by
    rw [frD_map, frD_map]
    show PyData.eqv (.tuple _) (.tuple _) = _
    simp only [PyData.eqv]
    exact eqv_ints
  rw [e, decide_eq_decide]
  exact frL_inj
theorem eqv_frs : ∀ {xs ys : List Rat}, PyData.eqvAll (pys (xs.map frD)) (pys (ys.map frD)) = decide (xs = ys)
  | [], [] => by simp [pys, PyData.eqvAll]
  | [], _ :: _ => by simp [pys, PyData.eqvAll]
  | _ :: _, [] => by simp [pys, PyData.eqvAll]
  | x :: xs, y :: ys => by
    simp only [List.map_cons, pys, PyData.eqvAll, eqv_frs, eqv_fr, List.cons.injEq, Bool.decide_and]
theorem eqv_pt {p q : Pt} : (py (ptD p)).eqv (py (ptD q)) = decide (p = q) := by
  have e : (py (ptD p)).eqv (py (ptD q)) = decide (qsOf p = qsOf q) := by
    rw [ptD_qs, ptD_qs]
    show PyData.eqv (.tuple _) (.tuple _) = _
    simp only [PyData.eqv]
    exact eqv_frs
  rw [e, decide_eq_decide]
  obtain ⟨p1, p2, p3⟩ := p
  obtain ⟨q1, q2, q3⟩ := q
  simp [qsOf]
theorem dp_fr (x : Rat) : (py (frD x)).depth ≤ 2 := by
  have := depth_ints (frL x)
  rw [frD_map]
  show PyData.depth (.tuple _) ≤ 2
  simp only [PyData.depth]
  omega
theorem dp_frs (xs : List Rat) : PyData.depthAll (pys (xs.map frD)) ≤ 2 := by
  induction xs with
  | nil => simp [pys, PyData.depthAll]
  | cons x xs ih =>
    simp only [List.map_cons, pys, PyData.depthAll]
    have := dp_fr x
    omega
theorem dp_pt (p : Pt) : (py (ptD p)).depth ≤ 3 := by
  have := dp_frs (qsOf p)
  rw [ptD_qs]
  show PyData.depth (.tuple _) ≤ 3
  simp only [PyData.depth]
  omega
theorem rot_one (p : Pt) : rot [1, 0, 0, 0] p = p := by
  have h1 : nrm 1 0 0 0 = 1 := by decide +kernel
  obtain ⟨p1, p2, p3⟩ := p
  simp only [rot, rotQ, show ((1 : Int) : Rat) = 1 from rfl, show ((0 : Int) : Rat) = 0 from rfl, Prod.mk.injEq]
  rw [h1]
  rw [show (1 : Rat)⁻¹ = 1 by decide +kernel]
  refine ⟨?_, ?_, ?_⟩ <;> grind
end Z
set_option Elab.async false
set_option linter.all false
set_option maxRecDepth 100000
set_option exponentiation.threshold 20000
/-! R5: a turn is told by what it does to points. -/
namespace Z
open PySem PySem.Spec PyProof.Rows L2 RZ
theorem int_sq_zero {x : Int} (h : x * x ≤ 0) : x = 0 := by
  by_cases h0 : x = 0
  · exact h0
  · have := sq_pos h0; omega
theorem nz_four {ms : List Int} (hl : ms.length = 4) (h : ms ≠ [0, 0, 0, 0]) : ∃ n ∈ ms, n ≠ 0 := by
  obtain ⟨p, q, r, s, rfl⟩ := four_of hl
  by_cases h1 : p = 0
  · by_cases h2 : q = 0
    · by_cases h3 : r = 0
      · by_cases h4 : s = 0
        · subst h1 h2 h3 h4; exact absurd rfl h
        · exact ⟨s, by simp, h4⟩
      · exact ⟨r, by simp, h3⟩
    · exact ⟨q, by simp, h2⟩
  · exact ⟨p, by simp, h1⟩
end Z
set_option Elab.async false
set_option linter.all false
set_option maxRecDepth 100000
set_option exponentiation.threshold 20000
/-! R6: sizes by a common bottom; sums of points; motions. -/
namespace Z
open PySem PySem.Spec PyProof.Rows L2 RZ
/-- every part over one bottom -/
theorem ptb_iff {n : Nat} {p : Pt} : PtB n p ↔ ∃ L : Nat, 0 < L ∧ Bd n (L : Int) ∧ ∀ q ∈ qsOf p, q.den ∣ L ∧ Bd n (topOf L q) := by
  constructor
  · rintro ⟨L, h0, h1, h2⟩
    exact ⟨L, h0, h1, fun q hq => h2 q (by simpa [qsOf] using hq)⟩
  · rintro ⟨L, h0, h1, h2⟩
    exact ⟨L, h0, h1, fun q hq => h2 q (by simpa [qsOf] using hq)⟩
theorem den_dvd {t : Int} {b : Nat} (hb : 0 < b) {q : Rat} (h : q = (t : Rat) / ((b : Int) : Rat)) : q.den ∣ b ∧ topOf b q = t := by
  have hd : q.den ∣ b := by
    have e : q = Rat.divInt t (b : Int) := by rw [h, Rat.divInt_eq_div]
    rw [e]
    rw [Rat.den_divInt, if_neg (by omega), Int.natAbs_natCast]
    refine Nat.div_dvd_of_dvd ?_
    have := Int.gcd_dvd_left (b : Int) t
    exact_mod_cast this
  refine ⟨hd, ?_⟩
  have e := topOf_eq hb hd
  have hB : (b : Rat) ≠ 0 := by exact_mod_cast (by omega : b ≠ 0)
  have e2 : (topOf b q : Rat) = (t : Rat) := by
    rw [e, h, Rat.div_def, Rat.mul_assoc, show (((b : Int) : Rat)) = (b : Rat) from rfl, Rat.inv_mul_cancel _ hB, Rat.mul_one]
  exact_mod_cast e2
theorem PtB.rot {m n : Nat} {a : List Int} (ha : a.length = 4) (hz : ∃ x ∈ a, x ≠ 0) (hb : ∀ x ∈ a, Bd m x) {p : Pt} (hp : PtB n p) : PtB (2 * m + n + 4) (Z.rot a p) := by
  obtain ⟨L, h0, h1, h2⟩ := ptb_iff.mp hp
  have nb : Bd (m + m + 2) (nrmI a) := nrmI_bd hb
  have npos : 0 < nrmI a := by
    obtain ⟨w, x, y, z, rfl⟩ := four_of ha
    exact nrmI_pos hz
  have rb := rowsI_bd hb
  have e := rot_rows ha hz h0 (h2 p.1 (by simp [qsOf])).1 (h2 p.2.1 (by simp [qsOf])).1 (h2 p.2.2 (by simp [qsOf])).1
  obtain ⟨N, hN⟩ : ∃ N : Nat, nrmI a = (N : Int) := ⟨(nrmI a).toNat, by omega⟩
  have hN0 : 0 < N := by omega
  refine ptb_iff.mpr ⟨N * L, Nat.mul_pos hN0 h0, ?_, ?_⟩
  · have := nb.mul h1
    rw [hN] at this
    exact Bd.mono (m := m + m + 2 + n) (by exact_mod_cast this) (by omega)
  · have key : ∀ row ∈ rowsI a, ∀ q : Rat, q = (dotI row L p : Rat) / ((nrmI a * (L : Int) : Int) : Rat) → q.den ∣ N * L ∧ Bd (2 * m + n + 4) (topOf (N * L) q) := fun row hr q hq => by
      have r := rb row hr
      obtain ⟨r1, r2, r3, rfl⟩ := rowsI_three hr
      simp only [List.mem_cons, List.not_mem_nil, or_false, forall_eq_or_imp, forall_eq] at r
      obtain ⟨b1, b2, b3⟩ := r
      have c1 := (h2 p.1 (by simp [qsOf])).2
      have c2 := (h2 p.2.1 (by simp [qsOf])).2
      have c3 := (h2 p.2.2 (by simp [qsOf])).2
      have e1 : ((nrmI a * (L : Int) : Int)) = ((N * L : Nat) : Int) := by rw [hN]; rfl
      rw [e1] at hq
      obtain ⟨k1, k2⟩ := den_dvd (Nat.mul_pos hN0 h0) hq
      refine ⟨k1, ?_⟩
      rw [k2]
      simp only [dotI]
      exact (((b1.mul c1).add (b2.mul c2)).add (b3.mul c3)).mono (by omega)
    rw [ptD_qs] at e
    have e2 : (qsOf (Z.rot a p)).map frD = ((rowsI a).map fun row => (dotI row L p : Rat) / ((nrmI a * (L : Int) : Int) : Rat)).map frD := by
      rw [List.map_map]; simpa [Function.comp_def] using e
    have inj : ∀ xs ys : List Rat, xs.map frD = ys.map frD → xs = ys := by
      intro xs
      induction xs with
      | nil => intro ys h; cases ys with
        | nil => rfl
        | cons y ys => simp at h
      | cons x xs ih => intro ys h; cases ys with
        | nil => simp at h
        | cons y ys =>
          simp only [List.map_cons, List.cons.injEq] at h
          rw [frD_inj.mp h.1, ih ys h.2]
    rw [inj _ _ e2]
    intro q hq
    obtain ⟨row, hr, rfl⟩ := List.mem_map.mp hq
    exact key row hr _ rfl
def ptAdd (p q : Pt) : Pt := (p.1 + q.1, p.2.1 + q.2.1, p.2.2 + q.2.2)
def ptNeg (p : Pt) : Pt := (-p.1, -p.2.1, -p.2.2)
theorem add_tops {L K : Nat} {x y : Rat} (hL : 0 < L) (hK : 0 < K) (h1 : x.den ∣ L) (h2 : y.den ∣ K) : (x + y).den ∣ L * K ∧ topOf (L * K) (x + y) = topOf L x * K + topOf K y * L := by
  refine den_dvd (Nat.mul_pos hL hK) ?_
  have e1 := topOf_eq hL h1
  have e2 := topOf_eq hK h2
  have z1 : (L : Rat) ≠ 0 := by exact_mod_cast (by omega : L ≠ 0)
  have z2 : (K : Rat) ≠ 0 := by exact_mod_cast (by omega : K ≠ 0)
  have hz : (L : Rat) * K ≠ 0 := by
    intro h
    rcases Rat.mul_eq_zero.mp h with h | h
    · exact z1 h
    · exact z2 h
  have i1 := Rat.mul_inv_cancel _ hz
  simp only [Rat.intCast_add, Rat.intCast_mul, e1, e2]
  rw [Rat.div_def, show (((L * K : Nat) : Int) : Rat) = (L : Rat) * K by rw [← Rat.natCast_mul]; rfl, show (((K : Nat) : Int) : Rat) = (K : Rat) from rfl, show (((L : Nat) : Int) : Rat) = (L : Rat) from rfl]
  generalize ((L : Rat) * K)⁻¹ = j at i1 ⊢
  grind
theorem PtB.add {n k : Nat} {p q : Pt} (hp : PtB n p) (hq : PtB k q) : PtB (n + k + 1) (ptAdd p q) := by
  obtain ⟨L, h0, h1, h2⟩ := ptb_iff.mp hp
  obtain ⟨K, g0, g1, g2⟩ := ptb_iff.mp hq
  refine ptb_iff.mpr ⟨L * K, Nat.mul_pos h0 g0, ?_, ?_⟩
  · exact Bd.mono (m := n + k) (by have := h1.mul g1; exact_mod_cast this) (by omega)
  · have key : ∀ x y : Rat, x.den ∣ L ∧ Bd n (topOf L x) → y.den ∣ K ∧ Bd k (topOf K y) → (x + y).den ∣ L * K ∧ Bd (n + k + 1) (topOf (L * K) (x + y)) := fun x y ⟨a1, a2⟩ ⟨b1, b2⟩ => by
      obtain ⟨c1, c2⟩ := add_tops h0 g0 a1 b1
      refine ⟨c1, ?_⟩
      rw [c2]
      exact ((a2.mul g1).add (b2.mul h1)).mono (by omega)
    intro r hr
    simp only [qsOf, ptAdd, List.mem_cons, List.not_mem_nil, or_false] at hr
    rcases hr with rfl | rfl | rfl
    · exact key _ _ (h2 _ (by simp [qsOf])) (g2 _ (by simp [qsOf]))
    · exact key _ _ (h2 _ (by simp [qsOf])) (g2 _ (by simp [qsOf]))
    · exact key _ _ (h2 _ (by simp [qsOf])) (g2 _ (by simp [qsOf]))
theorem PtB.neg {n : Nat} {p : Pt} (hp : PtB n p) : PtB n (ptNeg p) := by
  obtain ⟨L, h0, h1, h2⟩ := ptb_iff.mp hp
  refine ptb_iff.mpr ⟨L, h0, h1, fun r hr => ?_⟩
  have key : ∀ x : Rat, x.den ∣ L ∧ Bd n (topOf L x) → (-x).den ∣ L ∧ Bd n (topOf L (-x)) := fun x ⟨a1, a2⟩ => by
    refine ⟨by rw [Rat.neg_den]; exact a1, ?_⟩
    have : topOf L (-x) = - topOf L x := by
      unfold topOf; rw [Rat.neg_num, Rat.neg_den, Int.neg_mul]
    rw [this]; exact a2.neg
  simp only [qsOf, ptNeg, List.mem_cons, List.not_mem_nil, or_false] at hr
  rcases hr with rfl | rfl | rfl
  · exact key _ (h2 _ (by simp [qsOf]))
  · exact key _ (h2 _ (by simp [qsOf]))
  · exact key _ (h2 _ (by simp [qsOf]))
theorem add_made {p q : Rat} : ((p.num * (q.den : Int) + q.num * (p.den : Int) : Int) : Rat) / (((p.den : Int) * (q.den : Int) : Int) : Rat) = p + q := by
  obtain ⟨d1, z1, e1, f1⟩ := fr_parts p
  obtain ⟨d2, z2, e2, f2⟩ := fr_parts q
  simp only [Rat.intCast_add, Rat.intCast_mul, e1, e2, f1, f2]
  have hz : d1 * d2 ≠ 0 := by
    intro h
    rcases Rat.mul_eq_zero.mp h with h | h
    · exact z1 h
    · exact z2 h
  have := Rat.mul_inv_cancel _ hz
  rw [Rat.div_def]
  generalize (d1 * d2)⁻¹ = j at this ⊢
  grind
theorem made_ne {p q : Rat} : (p.den : Int) * (q.den : Int) ≠ 0 := Int.mul_ne_zero (fr_den p) (fr_den q)
/-! ### motions: a four and a point -/
abbrev Mo := List Int × Pt
def moBack (m : Mo) : Mo := (pln (qbk m.1), ptNeg (rot (pln (qbk m.1)) m.2))
/-- sizes of a motion -/
structure MB (m n : Nat) (a : Mo) : Prop where
  len : a.1.length = 4
  nz : ∃ x ∈ a.1, x ≠ 0
  bd : ∀ x ∈ a.1, Bd m x
  pt : PtB n a.2
theorem MB.back {m n : Nat} {a : Mo} (h : MB m n a) : MB m (2 * m + n + 4) (moBack a) := by
  have q := qbk_nz h.len h.nz
  have l : (pln (qbk a.1)).length = 4 := by rw [pln_len, qbk_len h.len]
  have b := pln_bds q (qbk_bd h.bd)
  exact ⟨l, pln_nz q, b, (PtB.rot l (pln_nz q) b h.pt).neg⟩
end Z
set_option Elab.async false
set_option linter.all false
set_option maxRecDepth 100000
set_option exponentiation.threshold 20000
/-! R7: laws of motions. -/
namespace Z
open PySem PySem.Spec PyProof.Rows L2 RZ
theorem rot_add {a : List Int} (ha : a.length = 4) (p q : Pt) : rot a (ptAdd p q) = ptAdd (rot a p) (rot a q) := by
  obtain ⟨w, x, y, z, rfl⟩ := four_of ha
  simp only [rot, rotQ, ptAdd, Prod.mk.injEq]
  generalize (nrm (w : Rat) x y z)⁻¹ = i
  refine ⟨?_, ?_, ?_⟩ <;> grind
/-- the parts that laws of motions ask -/
structure MW (a : Mo) : Prop where
  len : a.1.length = 4
  nz : ∃ x ∈ a.1, x ≠ 0
theorem MB.w {m n : Nat} {a : Mo} (h : MB m n a) : MW a := ⟨h.len, h.nz⟩
theorem MW.back {a : Mo} (h : MW a) : MW (moBack a) :=
  ⟨by simp only [moBack]; rw [pln_len, qbk_len h.len], pln_nz (qbk_nz h.len h.nz)⟩
theorem MB.mono {m n k l : Nat} {a : Mo} (h : MB m n a) (h1 : m ≤ k) (h2 : n ≤ l) : MB k l a := ⟨h.len, h.nz, fun x hx => (h.bd x hx).mono h1, h.pt.mono h2⟩
theorem seq_fr {S : Sto} {q : Rat} : seqOf S (.r (.d (frD q))) = some [.int q.num, .int (q.den : Int)] := rfl
end Z
set_option Elab.async false
set_option linter.all false
set_option maxRecDepth 100000
set_option exponentiation.threshold 20000
/-! R8: ways (three whole numbers), their products; swings and twists. -/
namespace Z
open PySem PySem.Spec PyProof.Rows L2 RZ
def dt : List Int → List Int → Int
  | [a, b, c], [p, q, r] => a * p + b * q + c * r
  | _, _ => 0
def crs : List Int → List Int → List Int
  | [a, b, c], [p, q, r] => [b * r - c * q, c * p - a * r, a * q - b * p]
  | _, _ => []
theorem three_of {a : List Int} (h : a.length = 3) : ∃ x y z, a = [x, y, z] := by
  match a, h with
  | [x, y, z], _ => exact ⟨x, y, z, rfl⟩
theorem nz_three {ms : List Int} (hl : ms.length = 3) (h : ms ≠ [0, 0, 0]) : ∃ n ∈ ms, n ≠ 0 := by
  obtain ⟨p, q, r, rfl⟩ := three_of hl
  by_cases h1 : p = 0
  · by_cases h2 : q = 0
    · by_cases h3 : r = 0
      · subst h1 h2 h3; exact absurd rfl h
      · exact ⟨r, by simp, h3⟩
    · exact ⟨q, by simp, h2⟩
  · exact ⟨p, by simp, h1⟩
theorem ne_three {ms : List Int} (h : ∃ n ∈ ms, n ≠ 0) : ms ≠ [0, 0, 0] := by
  rintro rfl
  obtain ⟨n, hn, h0⟩ := h
  simp at hn; exact h0 hn
theorem crs_len {a b : List Int} (ha : a.length = 3) (hb : b.length = 3) : (crs a b).length = 3 := by
  obtain ⟨p, q, r, rfl⟩ := three_of ha
  obtain ⟨t, u, v, rfl⟩ := three_of hb
  rfl
theorem crs_bd {m n : Nat} {a b : List Int} (h1 : ∀ x ∈ a, Bd m x) (h2 : ∀ x ∈ b, Bd n x) : ∀ x ∈ crs a b, Bd (m + n + 1) x := by
  unfold crs
  split
  · rename_i p q r t u v
    simp only [List.mem_cons, List.not_mem_nil, or_false, forall_eq_or_imp, forall_eq] at h1 h2 ⊢
    obtain ⟨a1, a2, a3⟩ := h1
    obtain ⟨b1, b2, b3⟩ := h2
    exact ⟨((a2.mul b3).sub (a3.mul b2)).mono (by omega), ((a3.mul b1).sub (a1.mul b3)).mono (by omega), ((a1.mul b2).sub (a2.mul b1)).mono (by omega)⟩
  · intro x hx; simp at hx
theorem dt_bd {m n : Nat} {a b : List Int} (h1 : ∀ x ∈ a, Bd m x) (h2 : ∀ x ∈ b, Bd n x) : Bd (m + n + 2) (dt a b) := by
  unfold dt
  split
  · rename_i p q r t u v
    simp only [List.mem_cons, List.not_mem_nil, or_false, forall_eq_or_imp, forall_eq] at h1 h2 ⊢
    obtain ⟨a1, a2, a3⟩ := h1
    obtain ⟨b1, b2, b3⟩ := h2
    exact (((a1.mul b1).add (a2.mul b2)).add (a3.mul b3)).mono (by omega)
  · exact Bd.zero
theorem dt_smul_l {k : Int} {a b : List Int} (ha : a.length = 3) (hb : b.length = 3) : dt (a.map (k * ·)) b = k * dt a b := by
  obtain ⟨p, q, r, rfl⟩ := three_of ha
  obtain ⟨t, u, v, rfl⟩ := three_of hb
  simp only [dt, List.map_cons, List.map_nil]; grind
theorem crs_smul {k : Int} {a b : List Int} (ha : a.length = 3) (hb : b.length = 3) : crs a (b.map (k * ·)) = (crs a b).map (k * ·) := by
  obtain ⟨p, q, r, rfl⟩ := three_of ha
  obtain ⟨t, u, v, rfl⟩ := three_of hb
  simp only [crs, List.map_cons, List.map_nil, List.cons.injEq, and_true]
  refine ⟨?_, ?_, ?_⟩ <;> grind
theorem crs_smul_l {k : Int} {a b : List Int} (ha : a.length = 3) (hb : b.length = 3) : crs (a.map (k * ·)) b = (crs a b).map (k * ·) := by
  obtain ⟨p, q, r, rfl⟩ := three_of ha
  obtain ⟨t, u, v, rfl⟩ := three_of hb
  simp only [crs, List.map_cons, List.map_nil, List.cons.injEq, and_true]
  refine ⟨?_, ?_, ?_⟩ <;> grind
theorem dt_comm {a b : List Int} (ha : a.length = 3) (hb : b.length = 3) : dt a b = dt b a := by
  obtain ⟨p, q, r, rfl⟩ := three_of ha
  obtain ⟨t, u, v, rfl⟩ := three_of hb
  simp only [dt]; grind
theorem dt_pos {a : List Int} (ha : a.length = 3) (hz : ∃ n ∈ a, n ≠ 0) : 0 < dt a a := by
  obtain ⟨p, q, r, rfl⟩ := three_of ha
  obtain ⟨n, hn, h0⟩ := hz
  have a := sq_nn p
  have b := sq_nn q
  have c := sq_nn r
  have e := sq_pos h0
  show 0 < p * p + q * q + r * r
  simp only [List.mem_cons, List.not_mem_nil, or_false] at hn
  rcases hn with rfl | rfl | rfl <;> omega
theorem sm_inj {k : Int} (hk : k ≠ 0) {xs ys : List Int} (h : xs.map (k * ·) = ys.map (k * ·)) : xs = ys :=
  List.map_inj_right (fun _ _ e => Int.eq_of_mul_eq_mul_left hk e) |>.mp h
theorem sm_zero {k : Int} (hk : k ≠ 0) {xs : List Int} {n : Nat} (h : xs.map (k * ·) = List.replicate n 0) : xs = List.replicate n 0 := by
  refine sm_inj hk (h.trans ?_)
  simp
theorem tail_len {f : List Int} (h : f.length = 4) : (f.drop 1).length = 3 := by rw [List.length_drop, h]
def spDt : SpZ := fun rs S W => match rs with
  | [.d (.tup xs), .d (.tup ys)] => ∃ a b : List Int, xs = a.map D.int ∧ ys = b.map D.int ∧ a.length = 3 ∧ b.length = 3 ∧ (∀ x ∈ a, Bd 60000000 x) ∧ (∀ x ∈ b, Bd 60000000 x) ∧ W (.d (.int (dt a b))) S
  | _ => False
def spCrs : SpZ := fun rs S W => match rs with
  | [.d (.tup xs), .d (.tup ys)] => ∃ a b : List Int, xs = a.map D.int ∧ ys = b.map D.int ∧ a.length = 3 ∧ b.length = 3 ∧ (∀ x ∈ a, Bd 60000000 x) ∧ (∀ x ∈ b, Bd 60000000 x) ∧ W (.d (.tup ((crs a b).map D.int))) S
  | _ => False
/-! ### swing and twist -/
def hd (f : List Int) : Int := f.headD 0
/-! scaled -/
theorem hd_map {k : Int} {f : List Int} (h : f.length = 4) : hd (f.map (k * ·)) = k * hd f := by
  obtain ⟨w, x, y, z, rfl⟩ := four_of h
  rfl
end Z
set_option Elab.async false
set_option linter.all false
set_option maxRecDepth 100000
set_option exponentiation.threshold 20000
/-! R9: settings, axes, turns about ways. -/
namespace Z
open PySem PySem.Spec PyProof.Rows L2 RZ
/-- the plain setting -/
def pset (k l : Int) : List Int := (pln [l, k]).reverse
/-- the turn about a way by a setting -/
def abt (a : List Int) (k l : Int) : List Int := l :: a.map (k * ·)
theorem abt_len {a : List Int} (ha : a.length = 3) (k l : Int) : (abt a k l).length = 4 := by simp [abt, ha]
theorem abt_nz {a : List Int} (za : ∃ n ∈ a, n ≠ 0) {k l : Int} (h : ∃ n ∈ [k, l], n ≠ 0) : ∃ n ∈ abt a k l, n ≠ 0 := by
  obtain ⟨n, hn, h0⟩ := h
  simp only [List.mem_cons, List.not_mem_nil, or_false] at hn
  rcases hn with rfl | rfl
  · obtain ⟨m, hm, h1⟩ := nz_map h0 za
    exact ⟨m, List.mem_cons_of_mem _ hm, h1⟩
  · exact ⟨n, by simp [abt], h0⟩
/-! the first part that isn't 0 -/
def fnz : List Int → Nat
  | [] => 0
  | x :: xs => if x = 0 then fnz xs + 1 else 0
/-- the setting by which a turn is one about a way -/
def stab (a f : List Int) : D := if crs a (f.drop 1) = [0, 0, 0] then .tup ((pset ((f.drop 1)[fnz a]!) (a[fnz a]! * hd f)).map D.int) else .non
def rstQ (f : List Int) : Rat := ((hd f * hd f : Int) : Rat) / (nrmI f : Rat)
/-- a way as a point -/
def wayP (a : List Int) : Pt := ((a[0]! : Int), (a[1]! : Int), (a[2]! : Int))
/-! a locked turn behind a taken back twist -/
end Z
set_option Elab.async false
set_option linter.all false
set_option maxRecDepth 100000
set_option exponentiation.threshold 20000
/-! R10: fractions in general; mirrors. -/
namespace Z
open PySem PySem.Spec PyProof.Rows L2 RZ
theorem mul_ne {a b : Rat} (ha : a ≠ 0) (hb : b ≠ 0) : a * b ≠ 0 := fun h => (Rat.mul_eq_zero.mp h).elim ha hb
theorem min_made {p q : Rat} : ((p.num * (q.den : Int) - q.num * (p.den : Int) : Int) : Rat) / (((p.den : Int) * (q.den : Int) : Int) : Rat) = p - q := by
  obtain ⟨d1, z1, e1, f1⟩ := fr_parts p
  obtain ⟨d2, z2, e2, f2⟩ := fr_parts q
  simp only [Rat.intCast_sub, Rat.intCast_mul, e1, e2, f1, f2]
  have := Rat.mul_inv_cancel _ (mul_ne z1 z2)
  rw [Rat.div_def]
  generalize (d1 * d2)⁻¹ = j at this ⊢
  grind
theorem mul_made {p q : Rat} : ((p.num * q.num : Int) : Rat) / (((p.den : Int) * (q.den : Int) : Int) : Rat) = p * q := by
  obtain ⟨d1, z1, e1, f1⟩ := fr_parts p
  obtain ⟨d2, z2, e2, f2⟩ := fr_parts q
  simp only [Rat.intCast_mul, e1, e2, f1, f2]
  have := Rat.mul_inv_cancel _ (mul_ne z1 z2)
  rw [Rat.div_def]
  generalize (d1 * d2)⁻¹ = j at this ⊢
  grind
theorem BQ.add {m n : Nat} {p q : Rat} (hp : BQ m p) (hq : BQ n q) : BQ (m + n + 1) (p + q) := by
  rw [← add_made]
  exact BQ.made made_ne (((hp.1.mul hq.2).add (hq.1.mul hp.2)).mono (by omega)) ((hp.2.mul hq.2).mono (by omega))
theorem BQ.sub {m n : Nat} {p q : Rat} (hp : BQ m p) (hq : BQ n q) : BQ (m + n + 1) (p - q) := by
  rw [← min_made]
  exact BQ.made made_ne (((hp.1.mul hq.2).sub (hq.1.mul hp.2)).mono (by omega)) ((hp.2.mul hq.2).mono (by omega))
theorem BQ.mul {m n : Nat} {p q : Rat} (hp : BQ m p) (hq : BQ n q) : BQ (m + n) (p * q) := by
  rw [← mul_made]
  exact BQ.made made_ne (hp.1.mul hq.1) (hp.2.mul hq.2)
theorem BQ.neg {m : Nat} {p : Rat} (hp : BQ m p) : BQ m (-p) := ⟨by rw [Rat.neg_num]; exact hp.1.neg, by rw [Rat.neg_den]; exact hp.2⟩
theorem BQ.int {n : Nat} {x : Int} (h : Bd n x) : BQ (n + 1) (x : Rat) := ⟨by simpa using h.mono (by omega), by simpa using Bd.lit (n := n + 1) (i := 1) (by simpa using Nat.one_lt_two_pow (by omega))⟩
/-- the product of a point and a way -/
def dq (a : List Int) (p : Pt) : Rat := p.1 * (a[0]! : Int) + p.2.1 * (a[1]! : Int) + p.2.2 * (a[2]! : Int)
/-! mirrors as fours -/
def z4 (a : List Int) : List Int := 0 :: a
end Z
set_option Elab.async false
set_option linter.all false
set_option maxRecDepth 100000
set_option exponentiation.threshold 20000
/-! R11: two mirrors turn. -/
set_option Elab.async false
set_option linter.all false
set_option maxRecDepth 100000
set_option exponentiation.threshold 20000
/-! R12: screws. -/
namespace Z
open PySem PySem.Spec PyProof.Rows L2 RZ
def smP (k : Rat) (p : Pt) : Pt := (k * p.1, k * p.2.1, k * p.2.2)
def sbP (p q : Pt) : Pt := (p.1 - q.1, p.2.1 - q.2.1, p.2.2 - q.2.2)
def dP (p q : Pt) : Rat := p.1 * q.1 + p.2.1 * q.2.1 + p.2.2 * q.2.2
def xP (p q : Pt) : Pt := (p.2.1 * q.2.2 - p.2.2 * q.2.1, p.2.2 * q.1 - p.1 * q.2.2, p.1 * q.2.1 - p.2.1 * q.1)
theorem dq_dP (a : List Int) (p : Pt) : dq a p = dP (wayP a) p := by unfold dq dP wayP; grind
theorem dP_sb (p q r : Pt) : dP p (sbP q r) = dP p q - dP p r := by simp only [dP, sbP]; grind
theorem dP_sm (k : Rat) (p q : Pt) : dP p (smP k q) = k * dP p q := by simp only [dP, smP]; grind
/-! ### the screw of a motion -/
def axI (f : List Int) : List Int := prow ((pln f).drop 1)
def ksI (f : List Int) : Int := ((pln f).drop 1)[fnz (axI f)]!
def lsI (f : List Int) : Int := (axI f)[fnz (axI f)]! * hd (pln f)
def kI (f : List Int) : Int := (pset (ksI f) (lsI f))[0]!
def lI (f : List Int) : Int := (pset (ksI f) (lsI f))[1]!
def slQ (m : Mo) : Rat := dq (axI m.1) m.2 * ((1 : Int) / (dt (axI m.1) (axI m.1) : Int) : Rat)
def rsP (m : Mo) : Pt := sbP m.2 (smP (slQ m) (wayP (axI m.1)))
/-- what is known of the screw -/
structure Scr (f : List Int) : Prop where
  al : (axI f).length = 3
  az : ∃ n ∈ axI f, n ≠ 0
  k0 : kI f ≠ 0
  ab : pln (abt (axI f) (kI f) (lI f)) = pln f
  par : crs (axI f) ((pln f).drop 1) = [0, 0, 0]
theorem Scr.nz {f : List Int} (h : Scr f) : ∃ n ∈ abt (axI f) (kI f) (lI f), n ≠ 0 := abt_nz h.az ⟨kI f, by simp, h.k0⟩
theorem Scr.rot {f : List Int} (h : Scr f) (hf : f.length = 4) (zf : ∃ n ∈ f, n ≠ 0) (p : Pt) : Z.rot (abt (axI f) (kI f) (lI f)) p = Z.rot f p := by
  rw [← rot_pln (abt_len h.al _ _) h.nz, h.ab, rot_pln hf zf]
theorem Scr.up {m : Mo} (h : Scr m.1) : dP (wayP (axI m.1)) (rsP m) = 0 := by
  have hL := dt_pos h.al h.az
  unfold rsP slQ
  rw [dP_sb, dP_sm, dq_dP]
  have hL0 : ((dt (axI m.1) (axI m.1) : Int) : Rat) ≠ 0 := by exact_mod_cast (by omega : dt (axI m.1) (axI m.1) ≠ 0)
  have hi := Rat.mul_inv_cancel _ hL0
  have e : dP (wayP (axI m.1)) (wayP (axI m.1)) = ((dt (axI m.1) (axI m.1) : Int) : Rat) := by
    obtain ⟨p, q, r, ea⟩ := three_of h.al
    rw [ea]
    simp only [dP, wayP, dt, List.getElem!_cons_zero, List.getElem!_cons_succ, Rat.intCast_add, Rat.intCast_mul]
  have c1 : ((1 : Int) : Rat) = 1 := rfl
  rw [e, Rat.div_def, c1]
  generalize ((dt (axI m.1) (axI m.1) : Int) : Rat)⁻¹ = i at *
  grind
end Z
set_option Elab.async false
set_option linter.all false
set_option maxRecDepth 100000
set_option exponentiation.threshold 20000
/-! R13: sizes over one bottom; the promises of screws. -/
namespace Z
open PySem PySem.Spec PyProof.Rows L2 RZ
structure Tp (n : Nat) (B : Int) (q : Rat) : Prop where
  ex : ∃ t : Int, q = (t : Rat) / (B : Rat) ∧ Bd n t
theorem Tp.mono {m n : Nat} {B : Int} {q : Rat} (h : Tp m B q) (k : m ≤ n) : Tp n B q := let ⟨t, e, b⟩ := h.ex; ⟨t, e, b.mono k⟩
theorem Tp.add {m n : Nat} {B : Int} {p q : Rat} (hp : Tp m B p) (hq : Tp n B q) : Tp (max m n + 1) B (p + q) := by
  obtain ⟨t, e1, b1⟩ := hp.ex
  obtain ⟨u, e2, b2⟩ := hq.ex
  refine ⟨t + u, ?_, b1.add b2⟩
  rw [e1, e2, Rat.intCast_add]; simp only [Rat.div_def]; grind
theorem Tp.sub {m n : Nat} {B : Int} {p q : Rat} (hp : Tp m B p) (hq : Tp n B q) : Tp (max m n + 1) B (p - q) := by
  obtain ⟨t, e1, b1⟩ := hp.ex
  obtain ⟨u, e2, b2⟩ := hq.ex
  refine ⟨t - u, ?_, b1.sub b2⟩
  rw [e1, e2, Rat.intCast_sub]; simp only [Rat.div_def]; grind
theorem Tp.frac {m n : Nat} {B c t : Int} {p : Rat} (hp : Tp m B p) (ht : Bd n t) : Tp (m + n) (B * c) (p * ((t : Rat) / (c : Rat))) := by
  obtain ⟨u, e1, b1⟩ := hp.ex
  refine ⟨u * t, ?_, b1.mul ht⟩
  rw [e1, Rat.intCast_mul, Rat.intCast_mul]; simp only [Rat.div_def, Rat.inv_mul_rev]; grind
theorem Tp.up {m n : Nat} {B c : Int} {p : Rat} (hp : Tp m B p) (hc : Bd n c) (h0 : c ≠ 0) : Tp (m + n) (B * c) p := by
  have h := hp.frac (t := c) (c := c) hc
  have e : (c : Rat) / (c : Rat) = 1 := by
    rw [Rat.div_def]; exact Rat.mul_inv_cancel _ (by exact_mod_cast h0)
  rw [e, Rat.mul_one] at h
  exact h
theorem three_mem {α : Type} {P : α → Prop} {x y z : α} (h : ∀ q ∈ [x, y, z], P q) : P x ∧ P y ∧ P z := ⟨h x (by simp), h y (by simp), h z (by simp)⟩
theorem at_bd {n : Nat} {a : List Int} (ba : ∀ x ∈ a, Bd n x) {i : Nat} (h : i < a.length) : Bd n a[i]! := by
  rw [getElem!_pos a i h]
  exact ba _ (List.getElem_mem _)
theorem dot_made7 {x y z u v w : Rat} : ((((0 * (x.den : Int) * (u.den : Int) + x.num * u.num * 1) * (y.den : Int) * (v.den : Int) + y.num * v.num * (1 * (x.den : Int) * (u.den : Int))) * (z.den : Int) * (w.den : Int) + z.num * w.num * (1 * (x.den : Int) * (u.den : Int) * (y.den : Int) * (v.den : Int)) : Int) : Rat) / ((1 * (x.den : Int) * (u.den : Int) * (y.den : Int) * (v.den : Int) * (z.den : Int) * (w.den : Int) : Int) : Rat) = x * u + y * v + z * w := by
  obtain ⟨d1, z1, e1, f1⟩ := fr_parts x
  obtain ⟨d2, z2, e2, f2⟩ := fr_parts y
  obtain ⟨d3, z3, e3, f3⟩ := fr_parts z
  obtain ⟨g1, w1, i1, j1⟩ := fr_parts u
  obtain ⟨g2, w2, i2, j2⟩ := fr_parts v
  obtain ⟨g3, w3, i3, j3⟩ := fr_parts w
  simp only [Rat.intCast_add, Rat.intCast_mul, e1, e2, e3, f1, f2, f3, i1, i2, i3, j1, j2, j3]
  have c0 : ((0 : Int) : Rat) = 0 := rfl
  have c1 : ((1 : Int) : Rat) = 1 := rfl
  rw [c0, c1]
  have hD := mul_ne (mul_ne (mul_ne (mul_ne (mul_ne (mul_ne (show (1 : Rat) ≠ 0 by decide) z1) w1) z2) w2) z3) w3
  have e : ((0 * d1 * g1 + x * d1 * (u * g1) * 1) * d2 * g2 + y * d2 * (v * g2) * (1 * d1 * g1)) * d3 * g3 + z * d3 * (w * g3) * (1 * d1 * g1 * d2 * g2) = (x * u + y * v + z * w) * (1 * d1 * g1 * d2 * g2 * d3 * g3) := by
    clear hD e1 e2 e3 f1 f2 f3 i1 i2 i3 j1 j2 j3 z1 z2 z3 w1 w2 w3
    grind
  rw [e, Rat.div_def, Rat.mul_assoc, Rat.mul_inv_cancel _ hD, Rat.mul_one]
end Z
set_option Elab.async false
set_option linter.all false
set_option maxRecDepth 100000
set_option exponentiation.threshold 20000
/-! R14: what screws do. -/
set_option Elab.async false
set_option linter.all false
set_option maxRecDepth 100000
set_option exponentiation.threshold 20000
/-! R15: purses of three numbers; ways spun. -/
namespace Z
open PySem PySem.Spec PyProof.Rows L2 RZ
/-- the turned way, times the four's size -/
def spn (f a : List Int) : List Int := (rowsI f).map fun r => dt r a
def spSpn : SpZ := fun rs S W => match rs with
  | [.d (.tup xs), .d (.tup ys)] => ∃ f a : List Int, xs = f.map D.int ∧ ys = a.map D.int ∧ f.length = 4 ∧ a.length = 3 ∧ (∀ x ∈ f, Bd 4000 x) ∧ (∀ x ∈ a, Bd 20000 x) ∧ W (.d (.tup ((spn f a).map D.int))) S
  | _ => False
theorem spn_len {f a : List Int} (hf : f.length = 4) : (spn f a).length = 3 := by
  obtain ⟨w, x, y, z, rfl⟩ := four_of hf
  rfl
theorem spn_bd {m n : Nat} {f a : List Int} (hf : ∀ x ∈ f, Bd m x) (ha : ∀ x ∈ a, Bd n x) : ∀ x ∈ spn f a, Bd (m + m + n + 4) x := by
  intro x hx
  obtain ⟨r, hr, rfl⟩ := List.mem_map.mp hx
  exact (dt_bd (rowsI_bd hf r hr) ha).mono (by omega)
theorem spn_sq {f a : List Int} (hf : f.length = 4) (ha : a.length = 3) : dt (spn f a) (spn f a) = nrmI f * nrmI f * dt a a := by
  obtain ⟨w, x, y, z, rfl⟩ := four_of hf
  obtain ⟨p, q, r, rfl⟩ := three_of ha
  simp only [spn, rowsI, dt, nrmI, List.map_cons, List.map_nil]
  grind
theorem spn_nz {f a : List Int} (hf : f.length = 4) (ha : a.length = 3) (zf : ∃ n ∈ f, n ≠ 0) (za : ∃ n ∈ a, n ≠ 0) : ∃ n ∈ spn f a, n ≠ 0 := by
  refine nz_three (spn_len hf) fun h => ?_
  have e := spn_sq hf ha
  rw [h] at e
  have h1 := dt_pos ha za
  have h2 := sq_pos (nrmI_ne hf zf)
  have := Int.mul_pos h2 h1
  have e : (0 : Int) = nrmI f * nrmI f * dt a a := e
  omega
/-- do two ways point alike? -/
def alike (a b : List Int) : Bool := decide (crs a b = [0, 0, 0]) && decide (0 < dt a b)
def spAlike : SpZ := fun rs S W => match rs with
  | [.d (.tup xs), .d (.tup ys)] => ∃ a b : List Int, xs = a.map D.int ∧ ys = b.map D.int ∧ a.length = 3 ∧ b.length = 3 ∧ (∀ x ∈ a, Bd 60000 x) ∧ (∀ x ∈ b, Bd 60000 x) ∧ W (.d (.bl (alike a b))) S
  | _ => False
def ledsTo (f a b : List Int) : Bool := alike (spn f a) b
theorem spn_smul {k : Int} {f a : List Int} (hf : f.length = 4) (ha : a.length = 3) : spn (f.map (k * ·)) a = (spn f a).map ((k * k) * ·) := by
  obtain ⟨w, x, y, z, rfl⟩ := four_of hf
  obtain ⟨p, q, r, rfl⟩ := three_of ha
  simp only [spn, rowsI, dt, List.map_cons, List.map_nil, List.cons.injEq, and_true]
  refine ⟨?_, ?_, ?_⟩ <;> grind
theorem alike_smul {k : Int} (hk : 0 < k) {a b : List Int} (ha : a.length = 3) (hb : b.length = 3) : alike (a.map (k * ·)) b = alike a b := by
  unfold alike
  rw [crs_smul_l ha hb, dt_smul_l ha hb]
  congr 1
  · have : ((crs a b).map (k * ·) = [0, 0, 0]) = (crs a b = [0, 0, 0]) := by
      refine propext ⟨fun h => sm_zero (n := 3) (by omega) h, fun h => by rw [h]; simp⟩
    rw [show decide ((crs a b).map (k * ·) = [0, 0, 0]) = decide (crs a b = [0, 0, 0]) from by simp only [this]]
  · have : (0 < k * dt a b) = (0 < dt a b) := propext ⟨fun h => by
      by_cases h0 : 0 < dt a b
      · exact h0
      · have := Int.mul_nonpos_of_nonneg_of_nonpos (show 0 ≤ k by omega) (show dt a b ≤ 0 by omega); omega, fun h => Int.mul_pos hk h⟩
    rw [show decide (0 < k * dt a b) = decide (0 < dt a b) from by simp only [this]]
theorem ledsTo_smul {k : Int} (hk : k ≠ 0) {f a b : List Int} (hf : f.length = 4) (ha : a.length = 3) (hb : b.length = 3) : ledsTo (f.map (k * ·)) a b = ledsTo f a b := by
  unfold ledsTo
  rw [spn_smul hf ha, alike_smul (sq_pos hk) (spn_len hf) hb]
end Z
set_option Elab.async false
set_option linter.all false
set_option maxRecDepth 100000
set_option exponentiation.threshold 20000
/-! R16: roots; ways led to ways. -/
namespace Z
open PySem PySem.Spec PyProof.Rows L2 RZ
theorem newton {n x : Nat} (hx : n < x * x) : (x + n / x) / 2 < x ∧ n < ((x + n / x) / 2 + 1) * ((x + n / x) / 2 + 1) := by
  have x0 : 0 < x := by
    rcases Nat.eq_zero_or_pos x with h | h
    · subst h; simp at hx
    · exact h
  have hq : n / x < x := (Nat.div_lt_iff_lt_mul x0).mpr hx
  have hm := Nat.lt_div_mul_add (a := n) x0
  generalize n / x = q at *
  refine ⟨by omega, ?_⟩
  have hy : x + q ≤ 2 * ((x + q) / 2) + 1 := by omega
  generalize (x + q) / 2 = y at *
  have s := sq_nn ((y : Int) + 1 - x)
  have e : ((y : Int) + 1 - x) * ((y : Int) + 1 - x) = ((y : Int) + 1) * (y + 1) - (2 * (y + 1)) * x + x * x := by grind
  have l : ((q : Int) + 1) * x ≤ (2 * (y + 1) - x) * x := Int.mul_le_mul_of_nonneg_right (by omega) (by omega)
  have e2 : (2 * ((y : Int) + 1) - x) * x = (2 * (y + 1)) * x - x * x := by grind
  have e3 : ((q : Int) + 1) * x = q * x + x := by grind
  have hm' : (n : Int) < q * x + x := by exact_mod_cast hm
  have : (n : Int) < ((y : Int) + 1) * (y + 1) := by omega
  exact_mod_cast this
theorem bits_ge {n : Nat} : n < 2 ^ Builtin.Int.intBits (n : Int) := by
  unfold Builtin.Int.intBits
  by_cases h : n = 0
  · subst h; decide
  · rw [if_neg (by simpa using h)]
    simpa using Nat.lt_log2_self (n := n)
theorem bits_le {n m : Nat} (h : n < 2 ^ m) : Builtin.Int.intBits (n : Int) ≤ m := by
  unfold Builtin.Int.intBits
  by_cases h0 : n = 0
  · subst h0; simp
  · rw [if_neg (by simpa using h0)]
    have := (Nat.log2_lt h0).mpr h
    rw [Int.natAbs_natCast]; omega
/-- the greatest whole number whose square is no more -/
def spRoot : SpZ := fun rs S W => match rs with
  | [.d (.int n)] => 0 ≤ n ∧ Bd 16000 n ∧ ∀ s : Nat, (s : Int) * s ≤ n → n < ((s : Int) + 1) * (s + 1) → W (.d (.int s)) S
  | _ => False
def spSide : SpZ := fun rs S W => match rs with
  | [.d (.int n)] => 0 ≤ n ∧ Bd 16000 n ∧ (∀ s : Nat, (s : Int) * s = n → W (.d (.int s)) S) ∧ ((∀ s : Nat, (s : Int) * s ≠ n) → W (.d .non) S)
  | _ => False
theorem root_only {n : Int} {s t : Nat} (h1 : (s : Int) * s ≤ n) (h2 : n < ((s : Int) + 1) * (s + 1)) (h : (t : Int) * t = n) : s = t := by
  have a : (s : Int) < t + 1 := by
    by_cases h : (s : Int) < t + 1
    · exact h
    · have : ((t : Int) + 1) * (t + 1) ≤ s * s := Int.mul_le_mul (by omega) (by omega) (by omega) (by omega)
      have e : ((t : Int) + 1) * (t + 1) = t * t + 2 * t + 1 := by grind
      omega
  have b : (t : Int) < s + 1 := by
    by_cases h : (t : Int) < s + 1
    · exact h
    · have : ((s : Int) + 1) * (s + 1) ≤ t * t := Int.mul_le_mul (by omega) (by omega) (by omega) (by omega)
      omega
  omega
/-! ### a turn that leads a way to a way -/
def upr (a : List Int) : List Int := if a[0]! = 0 ∧ a[1]! = 0 then [1, 0, 0] else [-a[1]!, a[0]!, 0]
theorem upr_len (a : List Int) : (upr a).length = 3 := by unfold upr; split <;> rfl
theorem upr_nz (a : List Int) : ∃ n ∈ upr a, n ≠ 0 := by
  unfold upr
  split
  · exact ⟨1, by simp, by decide⟩
  · rename_i h
    by_cases h0 : a[0]! = 0
    · exact ⟨-a[1]!, by simp, fun h1 => h ⟨h0, by omega⟩⟩
    · exact ⟨a[0]!, by simp, h0⟩
theorem upr_dt {a : List Int} (ha : a.length = 3) : dt (upr a) a = 0 := by
  obtain ⟨x, y, z, rfl⟩ := three_of ha
  unfold upr
  simp only [List.getElem!_cons_zero, List.getElem!_cons_succ]
  split
  · rename_i h
    simp only [dt]; omega
  · simp only [dt]; grind
theorem upr_bd {n : Nat} {a : List Int} (ha : a.length = 3) (h : ∀ x ∈ a, Bd n x) : ∀ x ∈ upr a, Bd (n + 1) x := by
  have b0 := at_bd h (i := 0) (by omega)
  have b1 := at_bd h (i := 1) (by omega)
  have one : Bd (n + 1) 1 := Bd.lit (by simpa using Nat.one_lt_two_pow (by omega))
  unfold upr
  split <;> simp only [List.mem_cons, List.not_mem_nil, or_false, forall_eq_or_imp, forall_eq]
  · exact ⟨one, Bd.zero, Bd.zero⟩
  · exact ⟨b1.neg.mono (by omega), b0.mono (by omega), Bd.zero⟩
def ledR (a b : List Int) (s : Int) : List Int := if s + dt a b = 0 then 0 :: upr a else (s + dt a b) :: crs a b
def ledF (a b : List Int) (s : Int) : List Int := pln (ledR a b s)
theorem ledR_len {a b : List Int} (ha : a.length = 3) (hb : b.length = 3) (s : Int) : (ledR a b s).length = 4 := by
  unfold ledR
  split
  · simp [upr_len]
  · simp [crs_len ha hb]
theorem ledR_nz (a b : List Int) (s : Int) : ∃ n ∈ ledR a b s, n ≠ 0 := by
  unfold ledR
  split
  · obtain ⟨n, hn, h0⟩ := upr_nz a
    exact ⟨n, List.mem_cons_of_mem _ hn, h0⟩
  · rename_i h
    exact ⟨_, List.mem_cons_self, h⟩
theorem ledF_len {a b : List Int} (ha : a.length = 3) (hb : b.length = 3) (s : Int) : (ledF a b s).length = 4 := by unfold ledF; rw [pln_len, ledR_len ha hb]
theorem ledF_nz (a b : List Int) (s : Int) : ∃ n ∈ ledF a b s, n ≠ 0 := pln_nz (ledR_nz a b s)
theorem ledR_bd {m n : Nat} {a b : List Int} {s : Int} (ha : a.length = 3) (ba : ∀ x ∈ a, Bd m x) (bb : ∀ x ∈ b, Bd n x) (hs : Bd (m + n + 2) s) : ∀ x ∈ ledR a b s, Bd (m + n + 3) x := by
  unfold ledR
  intro x hx
  split at hx
  · rcases List.mem_cons.mp hx with rfl | hx
    · exact Bd.zero
    · exact (upr_bd ha ba x hx).mono (by omega)
  · rcases List.mem_cons.mp hx with rfl | hx
    · exact (hs.add (dt_bd ba bb)).mono (by omega)
    · exact (crs_bd ba bb x hx).mono (by omega)
theorem lag {a b : List Int} (ha : a.length = 3) (hb : b.length = 3) : dt (crs a b) (crs a b) = dt a a * dt b b - dt a b * dt a b := by
  obtain ⟨x, y, z, rfl⟩ := three_of ha
  obtain ⟨p, q, r, rfl⟩ := three_of hb
  simp only [dt, crs]; grind
theorem dt_nn {a : List Int} (ha : a.length = 3) : 0 ≤ dt a a := by
  obtain ⟨x, y, z, rfl⟩ := three_of ha
  have := sq_nn x; have := sq_nn y; have := sq_nn z
  show 0 ≤ x * x + y * y + z * z
  omega
theorem dt_zero {a : List Int} (ha : a.length = 3) (h : dt a a = 0) : a = [0, 0, 0] := by
  obtain ⟨x, y, z, rfl⟩ := three_of ha
  have := sq_nn x; have := sq_nn y; have := sq_nn z
  have h : x * x + y * y + z * z = 0 := h
  have e1 := int_sq_zero (x := x) (by omega)
  have e2 := int_sq_zero (x := y) (by omega)
  have e3 := int_sq_zero (x := z) (by omega)
  rw [e1, e2, e3]
theorem abs_le_of_sq {s d : Int} (hs : 0 ≤ s) (h : d * d ≤ s * s) : -s ≤ d := by
  by_cases h0 : -s ≤ d
  · exact h0
  · have : (s + 1) * (s + 1) ≤ (-d) * (-d) := Int.mul_le_mul (by omega) (by omega) (by omega) (by omega)
    have e : (s + 1) * (s + 1) = s * s + 2 * s + 1 := by grind
    have e2 : (-d) * (-d) = d * d := by grind
    omega
section
variable {a b : List Int} (ha : a.length = 3) (hb : b.length = 3) (za : ∃ n ∈ a, n ≠ 0) (zb : ∃ n ∈ b, n ≠ 0) {s : Int} (hs : 0 ≤ s) (h : s * s = dt a a * dt b b)
include ha hb za zb hs h
theorem led_s : 0 < s ∧ 0 ≤ s + dt a b := by
  have h1 := dt_pos ha za
  have h2 := dt_pos hb zb
  have h3 := Int.mul_pos h1 h2
  have l := lag ha hb
  have n := dt_nn (crs_len ha hb)
  refine ⟨?_, ?_⟩
  · by_cases h0 : s = 0
    · subst h0; omega
    · omega
  · have := abs_le_of_sq hs (d := dt a b) (by omega)
    omega
theorem ledR_spn : ∃ k : Int, spn (ledR a b s) a = (if s + dt a b = 0 then a else b).map (k * ·) ∧ if s + dt a b = 0 then k < 0 else 0 < k := by
  have hp := led_s ha hb za zb hs h
  have hA := dt_pos ha za
  unfold ledR
  split
  · rename_i h0
    have e := upr_dt ha
    have lu := upr_len a
    have zu := dt_pos lu (upr_nz a)
    generalize upr a = v at *
    refine ⟨-(dt v v), ?_, by omega⟩
    obtain ⟨x, y, z, rfl⟩ := three_of ha
    obtain ⟨p, q, r, rfl⟩ := three_of lu
    simp only [dt] at e
    simp only [spn, rowsI, dt, List.map_cons, List.map_nil, List.cons.injEq, and_true]
    refine ⟨?_, ?_, ?_⟩ <;> grind
  · rename_i h0
    have h1 : 0 < s + dt a b := by omega
    refine ⟨2 * (s + dt a b) * dt a a, ?_, Int.mul_pos (by omega) hA⟩
    obtain ⟨x, y, z, rfl⟩ := three_of ha
    obtain ⟨p, q, r, rfl⟩ := three_of hb
    simp only [dt] at h
    simp only [spn, rowsI, dt, crs, List.map_cons, List.map_nil, List.cons.injEq, and_true]
    refine ⟨?_, ?_, ?_⟩ <;> grind
theorem ledR_leads : ledsTo (ledR a b s) a b = true := by
  have hp := led_s ha hb za zb hs h
  obtain ⟨k, e, hk⟩ := ledR_spn ha hb za zb hs h
  unfold ledsTo alike
  rw [e]
  split at hk
  · rename_i h0
    rw [if_pos h0, crs_smul_l ha hb, dt_smul_l ha hb]
    have l := lag ha hb
    have hd : dt a b = -s := by omega
    have e2 : -s * -s = s * s := by grind
    have c0 : crs a b = [0, 0, 0] := dt_zero (crs_len ha hb) (by rw [l, hd]; omega)
    rw [c0, hd]
    have : 0 < k * -s := Int.mul_pos_of_neg_of_neg hk (by omega)
    simp [this]
  · rename_i h0
    rw [if_neg h0, crs_smul_l hb hb, dt_smul_l hb hb]
    have hB := dt_pos hb zb
    have c0 : crs b b = [0, 0, 0] := by
      obtain ⟨p, q, r, rfl⟩ := three_of hb
      simp only [crs, List.cons.injEq, and_true]
      refine ⟨?_, ?_, ?_⟩ <;> grind
    rw [c0]
    have := Int.mul_pos hk hB
    simp [this]
theorem ledF_leads : ledsTo (ledF a b s) a b = true := by
  have l := ledR_len ha hb s
  have z := ledR_nz a b s
  have e := ledR_leads ha hb za zb hs h
  rw [pln_mul z, ledsTo_smul (fsgl_ne z) (by rw [pln_len, l]) ha hb] at e
  exact e
end
def spLed : SpZ := fun rs S W => match rs with
  | [.d (.tup xs), .d (.tup ys)] => ∃ a b : List Int, xs = a.map D.int ∧ ys = b.map D.int ∧ a.length = 3 ∧ b.length = 3 ∧ (∃ x ∈ a, x ≠ 0) ∧ (∃ x ∈ b, x ≠ 0) ∧ (∀ x ∈ a, Bd 3500 x) ∧ (∀ x ∈ b, Bd 3500 x) ∧ (∀ s : Nat, (s : Int) * s = dt a a * dt b b → W (.d (.tup [.str (PySem.Str.ofString "led"), .tup ((ledF a b s).map D.int)])) S) ∧ ((∀ s : Nat, (s : Int) * s ≠ dt a a * dt b b) → W (.d (.tup [.str (PySem.Str.ofString "none"), .int (dt a a * dt b b)])) S)
  | _ => False
theorem root_bd {m n : Nat} {a b : List Int} {s : Nat} (ba : ∀ x ∈ a, Bd m x) (bb : ∀ x ∈ b, Bd n x) (h : (s : Int) * s = dt a a * dt b b) : Bd (m + n + 2) (s : Int) := by
  have h1 := (dt_bd ba ba).mul (dt_bd bb bb)
  rw [← h] at h1
  have h2 : s * s < 2 ^ ((m + n + 2) + (m + n + 2)) := by
    have := h1.lt
    rw [Int.natAbs_mul, Int.natAbs_natCast] at this
    rwa [show m + m + 2 + (n + n + 2) = (m + n + 2) + (m + n + 2) by omega] at this
  refine Bd.lit ?_
  rw [Int.natAbs_natCast]
  by_cases hl : s < 2 ^ (m + n + 2)
  · exact hl
  · have := Nat.mul_le_mul (show 2 ^ (m + n + 2) ≤ s by omega) (show 2 ^ (m + n + 2) ≤ s by omega)
    rw [← Nat.pow_add] at this
    omega
end Z
set_option Elab.async false
set_option linter.all false
set_option maxRecDepth 100000
set_option exponentiation.threshold 20000
/-! R17: the laws that draw by cells. -/
namespace Z
open PySem PySem.Spec PyProof.Rows L2 RZ
theorem nrmI_smul {k : Int} {f : List Int} (hf : f.length = 4) : nrmI (f.map (k * ·)) = k * k * nrmI f := by
  obtain ⟨w, x, y, z, rfl⟩ := four_of hf
  simp only [nrmI, List.map_cons, List.map_nil]; grind
theorem div_scale {a b c : Rat} (hc : c ≠ 0) : (c * a) / (c * b) = a / b := by
  by_cases hb : b = 0
  · subst hb; simp [Rat.div_def]
  · have i1 := Rat.mul_inv_cancel _ (mul_ne hc hb)
    have i2 := Rat.mul_inv_cancel _ hb
    rw [Rat.div_def, Rat.div_def]
    generalize (c * b)⁻¹ = i at *
    generalize b⁻¹ = j at *
    grind
theorem rstQ_smul {k : Int} (hk : k ≠ 0) {f : List Int} (hf : f.length = 4) : rstQ (f.map (k * ·)) = rstQ f := by
  unfold rstQ
  rw [hd_map hf, nrmI_smul hf]
  have e : k * hd f * (k * hd f) = k * k * (hd f * hd f) := by grind
  have hk2 : ((k * k : Int) : Rat) ≠ 0 := by exact_mod_cast Int.mul_ne_zero hk hk
  rw [e, Rat.intCast_mul (k * k), Rat.intCast_mul (k * k)]
  exact div_scale hk2
theorem rstQ_pln {f : List Int} (hf : f.length = 4) (zf : ∃ n ∈ f, n ≠ 0) : rstQ (pln f) = rstQ f := by
  conv => rhs; rw [pln_mul zf]
  exact (rstQ_smul (fsgl_ne zf) (by rw [pln_len, hf])).symm
theorem rstQ_bk {f : List Int} (hf : f.length = 4) : rstQ (qbk f) = rstQ f := by
  obtain ⟨w, x, y, z, rfl⟩ := four_of hf
  have e : nrmI (qbk [w, x, y, z]) = nrmI [w, x, y, z] := by simp only [qbk, nrmI]; grind
  unfold rstQ
  rw [e]; rfl
theorem rstQ_one {f : List Int} (hf : f.length = 4) (zf : ∃ n ∈ f, n ≠ 0) : decide (rstQ f = 1) = decide (f.drop 1 = [0, 0, 0]) := by
  have hn := nrmI_ne hf zf
  have hr : (nrmI f : Rat) ≠ 0 := by exact_mod_cast hn
  have hi := Rat.mul_inv_cancel _ hr
  have e : rstQ f = 1 ↔ hd f * hd f = nrmI f := by
    unfold rstQ
    rw [Rat.div_def]
    constructor
    · intro h
      have : ((hd f * hd f : Int) : Rat) = (nrmI f : Rat) := by
        generalize (nrmI f : Rat)⁻¹ = i at *
        grind
      exact_mod_cast this
    · intro h
      rw [h]; exact hi
  obtain ⟨w, x, y, z, rfl⟩ := four_of hf
  have h1 : (hd [w, x, y, z] * hd [w, x, y, z] = nrmI [w, x, y, z]) ↔ ([w, x, y, z].drop 1 = [0, 0, 0]) := by
    have s1 := sq_nn x; have s2 := sq_nn y; have s3 := sq_nn z
    simp only [hd, nrmI, List.headD_cons, List.drop_succ_cons, List.drop_zero, List.cons.injEq, and_true]
    constructor
    · intro h
      exact ⟨int_sq_zero (by omega), int_sq_zero (by omega), int_sq_zero (by omega)⟩
    · rintro ⟨rfl, rfl, rfl⟩; omega
  simp only [e, h1]
theorem rstQ_zero {f : List Int} (hf : f.length = 4) (zf : ∃ n ∈ f, n ≠ 0) : decide (rstQ f = 0) = (hd f == 0) := by
  have hn := nrmI_ne hf zf
  have hr : (nrmI f : Rat) ≠ 0 := by exact_mod_cast hn
  have hi := Rat.mul_inv_cancel _ hr
  have e : rstQ f = 0 ↔ hd f = 0 := by
    unfold rstQ
    rw [Rat.div_def]
    constructor
    · intro h
      have : ((hd f * hd f : Int) : Rat) = 0 := by
        generalize (nrmI f : Rat)⁻¹ = i at *
        grind
      have : hd f * hd f = 0 := by exact_mod_cast this
      rcases Int.mul_eq_zero.mp this with h | h <;> exact h
    · intro h
      rw [h, Int.mul_zero]; exact Rat.zero_mul _
  simp only [e]
  by_cases h : hd f = 0
  · simp [h]
  · simp [h]
end Z
set_option Elab.async false
set_option linter.all false
set_option maxRecDepth 100000
set_option exponentiation.threshold 20000
/-! R18: halves. -/
namespace Z
open PySem PySem.Spec PyProof.Rows L2 RZ
theorem root_eq {s t n : Int} (s0 : 0 ≤ s) (t0 : 0 ≤ t) (hs : s * s = n) (ht : t * t = n) : s = t := by
  have e : (s - t) * (s + t) = 0 := by grind
  rcases Int.mul_eq_zero.mp e with h | h <;> omega
/-! ### what a half makes -/
end Z
set_option Elab.async false
set_option linter.all false
set_option maxRecDepth 100000
set_option exponentiation.threshold 20000
/-! R19: what a half is good for. -/
namespace Z
open PySem PySem.Spec PyProof.Rows L2 RZ
theorem root_int {k N v : Int} (hk : k ≠ 0) (h : k * k * v = N * N) (N0 : 0 ≤ N) : ∃ s : Nat, (s : Int) * s = v ∧ (k.natAbs : Int) * s = N := by
  have d : k.natAbs ^ 2 ∣ N.natAbs ^ 2 := by
    refine ⟨v.natAbs, ?_⟩
    have := congrArg Int.natAbs h
    rw [Int.natAbs_mul, Int.natAbs_mul, Int.natAbs_mul] at this
    rw [Nat.pow_two, Nat.pow_two, this]
  have d := (Nat.pow_dvd_pow_iff (by decide)).mp d
  obtain ⟨s, hs⟩ := d
  have e : (k.natAbs : Int) * s = N := by
    have : ((k.natAbs * s : Nat) : Int) = ((N.natAbs : Nat) : Int) := by rw [hs]
    rw [Int.natCast_mul] at this
    omega
  refine ⟨s, ?_, e⟩
  have kk : (k.natAbs : Int) * k.natAbs = k * k := Int.natAbs_mul_self
  rw [← e] at h
  have h2 : (k * k) * v = (k * k) * ((s : Int) * s) := by rw [h, ← kk]; grind
  exact (Int.eq_of_mul_eq_mul_left (Int.mul_ne_zero hk hk) h2).symm
end Z
set_option Elab.async false
set_option linter.all false
set_option maxRecDepth 100000
set_option exponentiation.threshold 20000
/-! R20: two ways led to two ways. -/
namespace Z
open PySem PySem.Spec PyProof.Rows L2 RZ
theorem nrmI_ge {a : List Int} (ha : a.length = 4) (hz : ∃ n ∈ a, n ≠ 0) : 0 < nrmI a := by
  obtain ⟨w, x, y, z, rfl⟩ := four_of ha
  exact nrmI_pos hz
def lin (k : Int) (a : List Int) (l : Int) (b : List Int) : List Int := match a, b with
  | [p, q, r], [t, u, v] => [k * p + l * t, k * q + l * u, k * r + l * v]
  | _, _ => []
theorem lin_len {k l : Int} {a b : List Int} (ha : a.length = 3) (hb : b.length = 3) : (lin k a l b).length = 3 := by
  obtain ⟨p, q, r, rfl⟩ := three_of ha
  obtain ⟨t, u, v, rfl⟩ := three_of hb
  rfl
theorem spn_lin {k l : Int} {f a b : List Int} (hf : f.length = 4) (ha : a.length = 3) (hb : b.length = 3) : spn f (lin k a l b) = lin k (spn f a) l (spn f b) := by
  obtain ⟨w, x, y, z, rfl⟩ := four_of hf
  obtain ⟨p, q, r, rfl⟩ := three_of ha
  obtain ⟨t, u, v, rfl⟩ := three_of hb
  simp only [spn, rowsI, dt, lin, List.map_cons, List.map_nil, List.cons.injEq, and_true]
  refine ⟨?_, ?_, ?_⟩ <;> grind
theorem spn_sm {k : Int} {f a : List Int} (hf : f.length = 4) (ha : a.length = 3) : spn f (a.map (k * ·)) = (spn f a).map (k * ·) := by
  obtain ⟨w, x, y, z, rfl⟩ := four_of hf
  obtain ⟨p, q, r, rfl⟩ := three_of ha
  simp only [spn, rowsI, dt, List.map_cons, List.map_nil, List.cons.injEq, and_true]
  refine ⟨?_, ?_, ?_⟩ <;> grind
theorem spn_dt {f a b : List Int} (hf : f.length = 4) (ha : a.length = 3) (hb : b.length = 3) : dt (spn f a) (spn f b) = nrmI f * nrmI f * dt a b := by
  obtain ⟨w, x, y, z, rfl⟩ := four_of hf
  obtain ⟨p, q, r, rfl⟩ := three_of ha
  obtain ⟨t, u, v, rfl⟩ := three_of hb
  simp only [spn, rowsI, dt, nrmI, List.map_cons, List.map_nil]
  grind
theorem spn_mul {g f a : List Int} (hg : g.length = 4) (hf : f.length = 4) (ha : a.length = 3) : spn (qmul g f) a = spn g (spn f a) := by
  obtain ⟨w, x, y, z, rfl⟩ := four_of hf
  obtain ⟨s, t, u, v, rfl⟩ := four_of hg
  obtain ⟨p, q, r, rfl⟩ := three_of ha
  simp only [spn, rowsI, dt, qmul, List.map_cons, List.map_nil, List.cons.injEq, and_true]
  refine ⟨?_, ?_, ?_⟩ <;> grind
theorem spn_bk {f a : List Int} (hf : f.length = 4) (ha : a.length = 3) : spn (qbk f) (spn f a) = a.map ((nrmI f * nrmI f) * ·) := by
  obtain ⟨w, x, y, z, rfl⟩ := four_of hf
  obtain ⟨p, q, r, rfl⟩ := three_of ha
  simp only [spn, rowsI, dt, qbk, nrmI, List.map_cons, List.map_nil, List.cons.injEq, and_true]
  refine ⟨?_, ?_, ?_⟩ <;> grind
theorem spn_crs {f a b : List Int} (hf : f.length = 4) (ha : a.length = 3) (hb : b.length = 3) : crs (spn f a) (spn f b) = (spn f (crs a b)).map (nrmI f * ·) := by
  obtain ⟨w, x, y, z, rfl⟩ := four_of hf
  obtain ⟨p, q, r, rfl⟩ := three_of ha
  obtain ⟨t, u, v, rfl⟩ := three_of hb
  simp only [spn, rowsI, dt, crs, nrmI, List.map_cons, List.map_nil, List.cons.injEq, and_true]
  refine ⟨?_, ?_, ?_⟩ <;> grind
/-- two ways in one row -/
theorem row_vec {p c : List Int} (hp : p.length = 3) (hc : c.length = 3) (h : crs p c = [0, 0, 0]) : p.map (dt c c * ·) = c.map (dt p c * ·) := by
  obtain ⟨x, y, z, rfl⟩ := three_of hp
  obtain ⟨t, u, v, rfl⟩ := three_of hc
  simp only [crs, List.cons.injEq, and_true] at h
  obtain ⟨h1, h2, h3⟩ := h
  simp only [dt, List.map_cons, List.map_nil, List.cons.injEq, and_true]
  refine ⟨?_, ?_, ?_⟩ <;> grind
theorem crs_self {c : List Int} (hc : c.length = 3) : crs c c = [0, 0, 0] := by
  obtain ⟨t, u, v, rfl⟩ := three_of hc
  simp only [crs, List.cons.injEq, and_true]
  refine ⟨?_, ?_, ?_⟩ <;> grind
section
variable {f a c : List Int} (lf : f.length = 4) (la : a.length = 3) (lc : c.length = 3) (zf : ∃ n ∈ f, n ≠ 0) (za : ∃ n ∈ a, n ≠ 0) (zc : ∃ n ∈ c, n ≠ 0) {s : Int} (s0 : 0 ≤ s) (h : s * s = dt a a * dt c c)
include lf la lc zf za zc s0 h
theorem leads_iff : ledsTo f a c = true ↔ (spn f a).map (dt c c * ·) = c.map ((nrmI f * s) * ·) := by
  have pl := spn_len (a := a) lf
  have N := nrmI_ge lf zf
  have A := dt_pos la za
  have C := dt_pos lc zc
  have sp : 0 < s := (led_s la lc za zc s0 h).1
  have sq := spn_sq lf la
  unfold ledsTo alike
  constructor
  · intro h1
    rw [Bool.and_eq_true, decide_eq_true_eq, decide_eq_true_eq] at h1
    obtain ⟨h1, h2⟩ := h1
    rw [row_vec pl lc h1]
    have l := lag pl lc
    rw [h1, sq] at l
    have l : (0 : Int) = nrmI f * nrmI f * dt a a * dt c c - dt (spn f a) c * dt (spn f a) c := l
    have e : dt (spn f a) c = nrmI f * s := root_eq (n := nrmI f * s * (nrmI f * s)) (by omega) (Int.mul_nonneg (by omega) s0) (by grind) rfl
    rw [e]
  · intro h1
    have e1 := congrArg (fun x => crs x c) h1
    have e2 := congrArg (fun x => dt x c) h1
    simp only [crs_smul_l pl lc, crs_smul_l lc lc, dt_smul_l pl lc, dt_smul_l lc lc, crs_self lc] at e1 e2
    have z1 : crs (spn f a) c = [0, 0, 0] := sm_zero (n := 3) (k := dt c c) (by omega) (by rw [e1]; simp)
    have e3 : dt (spn f a) c = nrmI f * s := by
      have : dt c c * dt (spn f a) c = dt c c * (nrmI f * s) := by rw [e2, Int.mul_comm]
      exact Int.eq_of_mul_eq_mul_left (by omega) this
    have : 0 < nrmI f * s := Int.mul_pos (by omega) sp
    rw [z1, e3]
    simp [this]
end
/-- a four that leads shows that the sizes' product is a square -/
theorem leads_root {f a c : List Int} (lf : f.length = 4) (la : a.length = 3) (lc : c.length = 3) (zf : ∃ n ∈ f, n ≠ 0) (h : ledsTo f a c = true) : ∃ s : Nat, (s : Int) * s = dt a a * dt c c := by
  have pl := spn_len (a := a) lf
  have sq := spn_sq lf la
  have N := nrmI_ge lf zf
  unfold ledsTo alike at h
  rw [Bool.and_eq_true, decide_eq_true_eq, decide_eq_true_eq] at h
  have l := lag pl lc
  rw [h.1, sq] at l
  have l : (0 : Int) = nrmI f * nrmI f * dt a a * dt c c - dt (spn f a) c * dt (spn f a) c := l
  obtain ⟨s, h1, _⟩ := root_int (k := nrmI f) (N := dt (spn f a) c) (v := dt a a * dt c c) (by omega) (by grind) (by omega)
  exact ⟨s, h1⟩
def between (a b c d : List Int) (s t : Int) : Prop := dt a b * (dt c c * dt d d) = s * t * dt c d
/-! ### only one -/
theorem fix_axis {f a : List Int} (lf : f.length = 4) (la : a.length = 3) (h : spn f a = a.map (nrmI f * ·)) (zf : ∃ n ∈ f, n ≠ 0) : crs (f.drop 1) a = [0, 0, 0] := by
  have N := nrmI_ge lf zf
  obtain ⟨w, x, y, z, rfl⟩ := four_of lf
  obtain ⟨p, q, r, rfl⟩ := three_of la
  simp only [spn, rowsI, dt, nrmI, List.map_cons, List.map_nil, List.cons.injEq, and_true] at h N
  obtain ⟨h1, h2, h3⟩ := h
  have e : (w * w + x * x + y * y + z * z) * ((y * r - z * q) * (y * r - z * q) + (z * p - x * r) * (z * p - x * r) + (x * q - y * p) * (x * q - y * p)) = 0 := by grind
  have e2 : (y * r - z * q) * (y * r - z * q) + (z * p - x * r) * (z * p - x * r) + (x * q - y * p) * (x * q - y * p) = 0 := by
    rcases Int.mul_eq_zero.mp e with h | h
    · omega
    · exact h
  exact dt_zero (a := crs [x, y, z] [p, q, r]) rfl e2
theorem crs_both {v a b : List Int} (lv : v.length = 3) (la : a.length = 3) (lb : b.length = 3) (h1 : crs v a = [0, 0, 0]) (h2 : crs v b = [0, 0, 0]) (h : ∃ n ∈ crs a b, n ≠ 0) : v = [0, 0, 0] := by
  have C := dt_pos (crs_len la lb) h
  obtain ⟨x, y, z, rfl⟩ := three_of lv
  obtain ⟨p, q, r, rfl⟩ := three_of la
  obtain ⟨t, u, o, rfl⟩ := three_of lb
  simp only [crs, List.cons.injEq, and_true] at h1 h2
  obtain ⟨a1, a2, a3⟩ := h1
  obtain ⟨b1, b2, b3⟩ := h2
  have C : 0 < dt [q * o - r * u, r * t - p * o, p * u - q * t] [q * o - r * u, r * t - p * o, p * u - q * t] := C
  generalize hc : dt [q * o - r * u, r * t - p * o, p * u - q * t] [q * o - r * u, r * t - p * o, p * u - q * t] = c at *
  simp only [dt] at hc
  have e1 : c * x = 0 := by grind
  have e2 : c * y = 0 := by grind
  have e3 : c * z = 0 := by grind
  have g : ∀ {i : Int}, c * i = 0 → i = 0 := fun h => by
    rcases Int.mul_eq_zero.mp h with h | h
    · omega
    · exact h
  rw [g e1, g e2, g e3]
section
variable {f g a b c d : List Int} (lf : f.length = 4) (lg : g.length = 4) (la : a.length = 3) (lb : b.length = 3) (lc : c.length = 3) (ld : d.length = 3) (zf : ∃ n ∈ f, n ≠ 0) (zg : ∃ n ∈ g, n ≠ 0) (zc : ∃ n ∈ c, n ≠ 0)
include lf lg la lc zf zg zc
/-- what leads a way back to itself -/
theorem there_back (za : ∃ n ∈ a, n ≠ 0) (h1 : ledsTo f a c = true) (h2 : ledsTo g a c = true) : spn (qmul (qbk g) f) a = a.map (nrmI (qmul (qbk g) f) * ·) := by
  obtain ⟨s, hs⟩ := leads_root lf la lc zf h1
  have e1 := (leads_iff lf la lc zf za zc (Int.natCast_nonneg s) hs).mp h1
  have e2 := (leads_iff lg la lc zg za zc (Int.natCast_nonneg s) hs).mp h2
  have C := dt_pos lc zc
  have N := nrmI_ge lg zg
  have kl := qbk_len lg
  have p1 := spn_len (a := a) lf
  have p2 := spn_len (a := a) lg
  have b := spn_bk lg la
  have nk : nrmI (qbk g) = nrmI g := by
    obtain ⟨w, x, y, z, rfl⟩ := four_of lg
    simp only [nrmI, qbk]; grind
  rw [spn_mul kl lf la, nrmI_qmul kl lf, nk]
  -- N(g) f(a) = N(f) g(a)
  have e3 : (spn f a).map (nrmI g * ·) = (spn g a).map (nrmI f * ·) := by
    refine sm_inj (k := dt c c) (by omega) ?_
    have m1 := congrArg (List.map (nrmI g * ·)) e1
    have m2 := congrArg (List.map (nrmI f * ·)) e2
    simp only [List.map_map, Function.comp_def] at m1 m2 ⊢
    have x1 : ∀ k : Int, nrmI g * (dt c c * k) = dt c c * (nrmI g * k) := fun k => by grind
    have x2 : ∀ k : Int, nrmI f * (dt c c * k) = dt c c * (nrmI f * k) := fun k => by grind
    have x3 : ∀ k : Int, nrmI g * (nrmI f * (s : Int) * k) = nrmI f * (nrmI g * (s : Int) * k) := fun k => by grind
    simp only [x1, x2, x3] at m1 m2
    rw [m1, m2]
  have e4 := congrArg (spn (qbk g)) e3
  rw [spn_sm kl p1, spn_sm kl p2, b, List.map_map] at e4
  refine sm_inj (k := nrmI g) (by omega) ?_
  rw [e4, List.map_map]
  refine List.map_congr_left fun k _ => ?_
  simp only [Function.comp_def]; grind
include lb ld
theorem led_only (h : ∃ n ∈ crs a b, n ≠ 0) (za : ∃ n ∈ a, n ≠ 0) (zb : ∃ n ∈ b, n ≠ 0) (zd : ∃ n ∈ d, n ≠ 0) (f1 : ledsTo f a c = true) (f2 : ledsTo f b d = true) (g1 : ledsTo g a c = true) (g2 : ledsTo g b d = true) : pln f = pln g := by
  have x1 := there_back lf lg la lc zf zg zc za f1 g1
  have x2 := there_back lf lg lb ld zf zg zd zb f2 g2
  have kl := qbk_len lg
  have kz := qbk_nz lg zg
  have ql := qmul_len kl lf
  have qz := qmul_nz kl lf kz zf
  have y1 := fix_axis ql la x1 qz
  have y2 := fix_axis ql lb x2 qz
  have v0 := crs_both (tail_len ql) la lb y1 y2 h
  have N := nrmI_ge lg zg
  have Q := nrmI_ge ql qz
  -- g (g' f) = N f
  have key : qmul g (qmul (qbk g) f) = f.map (nrmI g * ·) := by
    obtain ⟨w, x, y, z, rfl⟩ := four_of lg
    obtain ⟨p, q, r, t, rfl⟩ := four_of lf
    simp only [qmul, qbk, nrmI, List.map_cons, List.map_nil, List.cons.injEq, and_true]
    refine ⟨?_, ?_, ?_, ?_⟩ <;> grind
  generalize qmul (qbk g) f = u at *
  obtain ⟨n, x, y, z, rfl⟩ := four_of ql
  simp only [List.drop_succ_cons, List.drop_zero, List.cons.injEq, and_true] at v0
  obtain ⟨rfl, rfl, rfl⟩ := v0
  have key2 : qmul g [n, 0, 0, 0] = g.map (n * ·) := by
    obtain ⟨w, x, y, z, rfl⟩ := four_of lg
    simp only [qmul, List.map_cons, List.map_nil, List.cons.injEq, and_true]
    refine ⟨?_, ?_, ?_, ?_⟩ <;> grind
  rw [key2] at key
  have n0 : n ≠ 0 := by
    rintro rfl
    have Q : (0 : Int) < 0 * 0 + 0 * 0 + 0 * 0 + 0 * 0 := Q
    omega
  exact (pln_ratio (n0) (by omega) zg key).symm
end
/-! ### what of a way is upright to an axis -/
def shd (b c : List Int) : List Int := lin (dt c c) b (-(dt b c)) c
theorem shd_len {b c : List Int} (lb : b.length = 3) (lc : c.length = 3) : (shd b c).length = 3 := lin_len lb lc
theorem shd_up {b c : List Int} (lb : b.length = 3) (lc : c.length = 3) : dt (shd b c) c = 0 := by
  obtain ⟨p, q, r, rfl⟩ := three_of lb
  obtain ⟨t, u, o, rfl⟩ := three_of lc
  simp only [shd, lin, dt]; grind
theorem shd_sq {b c : List Int} (lb : b.length = 3) (lc : c.length = 3) : dt (shd b c) (shd b c) = dt c c * (dt c c * dt b b - dt b c * dt b c) := by
  obtain ⟨p, q, r, rfl⟩ := three_of lb
  obtain ⟨t, u, o, rfl⟩ := three_of lc
  simp only [shd, lin, dt]; grind
theorem shd_nz {b c : List Int} (lb : b.length = 3) (lc : c.length = 3) (zc : ∃ n ∈ c, n ≠ 0) (h : ∃ n ∈ crs b c, n ≠ 0) : ∃ n ∈ shd b c, n ≠ 0 := by
  refine nz_three (shd_len lb lc) fun h0 => ?_
  have e := shd_sq lb lc
  rw [h0] at e
  have l := lag lb lc
  have C := dt_pos lc zc
  have X := dt_pos (crs_len lb lc) h
  have := Int.mul_pos C X
  rw [l, Int.mul_comm (dt b b)] at this
  have e : (0 : Int) = dt c c * (dt c c * dt b b - dt b c * dt b c) := e
  omega
theorem shd_bd {m n : Nat} {b c : List Int} (lb : b.length = 3) (lc : c.length = 3) (hb : ∀ x ∈ b, Bd m x) (hc : ∀ x ∈ c, Bd n x) : ∀ x ∈ shd b c, Bd (m + n + n + 3) x := by
  have d1 := dt_bd hc hc
  have d2 := dt_bd hb hc
  unfold shd
  generalize dt c c = k at *
  generalize dt b c = l at *
  obtain ⟨p, q, r, rfl⟩ := three_of lb
  obtain ⟨t, u, o, rfl⟩ := three_of lc
  simp only [lin, List.mem_cons, List.not_mem_nil, or_false, forall_eq_or_imp, forall_eq] at *
  obtain ⟨b1, b2, b3⟩ := hb
  obtain ⟨c1, c2, c3⟩ := hc
  exact ⟨((d1.mul b1).add (d2.neg.mul c1)).mono (by omega), ((d1.mul b2).add (d2.neg.mul c2)).mono (by omega), ((d1.mul b3).add (d2.neg.mul c3)).mono (by omega)⟩
/-- the turn about an axis that leads u to v -/
def abtR (u v c : List Int) (s : Int) : List Int := if alike u v = true ∨ crs u v ≠ [0, 0, 0] then ledF u v s else 0 :: c
section
variable {u v c : List Int} (lu : u.length = 3) (lv : v.length = 3) (lc : c.length = 3) (zu : ∃ n ∈ u, n ≠ 0) (zv : ∃ n ∈ v, n ≠ 0) (zc : ∃ n ∈ c, n ≠ 0) {s : Int} (s0 : 0 ≤ s) (hs : s * s = dt u u * dt v v) (hu : dt u c = 0) (hv : dt v c = 0)
include lu lv lc zu zv zc
theorem abtR_len : (abtR u v c s).length = 4 := by
  unfold abtR
  split
  · exact ledF_len lu lv s
  · simp [lc]
theorem abtR_nz : ∃ n ∈ abtR u v c s, n ≠ 0 := by
  unfold abtR
  split
  · exact ledF_nz u v s
  · obtain ⟨n, hn, h0⟩ := zc
    exact ⟨n, List.mem_cons_of_mem _ hn, h0⟩
include s0 hs
theorem abtR_leads (hu : dt u c = 0) : ledsTo (abtR u v c s) u v = true := by
  unfold abtR
  split
  · exact ledF_leads lu lv zu zv s0 hs
  · rename_i h
    have h1 : crs u v = [0, 0, 0] := by
      by_cases h1 : crs u v = [0, 0, 0]
      · exact h1
      · exact absurd (.inr h1) h
    have h2 : ¬ (0 < dt u v) := fun h2 => h (.inl (by unfold alike; rw [h1]; simp [h2]))
    have e : spn (0 :: c) u = u.map (-(dt c c) * ·) := by
      obtain ⟨p, q, r, rfl⟩ := three_of lu
      obtain ⟨t, w, o, rfl⟩ := three_of lc
      simp only [dt] at hu
      simp only [spn, rowsI, dt, List.map_cons, List.map_nil, List.cons.injEq, and_true]
      refine ⟨?_, ?_, ?_⟩ <;> grind
    have C := dt_pos lc zc
    have U := dt_pos lu zu
    have V := dt_pos lv zv
    have l := lag lu lv
    rw [h1] at l
    have l : (0 : Int) = dt u u * dt v v - dt u v * dt u v := l
    have UV := Int.mul_pos U V
    have n0 : dt u v < 0 := by
      by_cases h3 : dt u v = 0
      · rw [h3] at l; omega
      · omega
    unfold ledsTo alike
    rw [e, crs_smul_l lu lv, dt_smul_l lu lv, h1]
    have : 0 < -(dt c c) * dt u v := Int.mul_pos_of_neg_of_neg (by omega) n0
    simp [this]
theorem abtR_axis (hu : dt u c = 0) (hv : dt v c = 0) : spn (abtR u v c s) c = c.map (nrmI (abtR u v c s) * ·) := by
  have lr := ledR_len lu lv s
  have zr := ledR_nz u v s
  unfold abtR
  split
  · rename_i h
    have n0 : s + dt u v ≠ 0 := by
      intro h0
      have hp := led_s lu lv zu zv s0 hs
      rcases h with h | h
      · unfold alike at h
        rw [Bool.and_eq_true, decide_eq_true_eq, decide_eq_true_eq] at h
        omega
      · refine h (dt_zero (crs_len lu lv) ?_)
        rw [lag lu lv]
        have : dt u v = -s := by omega
        rw [this]; grind
    have e : ledR u v s = (s + dt u v) :: crs u v := by unfold ledR; rw [if_neg n0]
    have key : spn (ledR u v s) c = c.map (nrmI (ledR u v s) * ·) := by
      rw [e]
      have cc : crs (crs u v) c = [0, 0, 0] := by
        obtain ⟨p, q, r, rfl⟩ := three_of lu
        obtain ⟨t, w, o, rfl⟩ := three_of lv
        obtain ⟨a, b, d, rfl⟩ := three_of lc
        simp only [dt] at hu hv
        simp only [crs, List.cons.injEq, and_true]
        refine ⟨?_, ?_, ?_⟩ <;> grind
      generalize s + dt u v = k at *
      have lw := crs_len lu lv
      generalize crs u v = w at *
      obtain ⟨t, w, o, rfl⟩ := three_of lw
      obtain ⟨a, b, d, rfl⟩ := three_of lc
      simp only [crs, List.cons.injEq, and_true] at cc
      obtain ⟨c1, c2, c3⟩ := cc
      simp only [spn, rowsI, dt, nrmI, List.map_cons, List.map_nil, List.cons.injEq, and_true]
      refine ⟨?_, ?_, ?_⟩ <;> grind
    unfold ledF
    have m := pln_mul zr
    have k0 := fsgl_ne zr
    have pl : (pln (ledR u v s)).length = 4 := by rw [pln_len, lr]
    generalize fs (ledR u v s) * (gl (ledR u v s) : Int) = k at *
    rw [m, spn_smul pl lc, nrmI_smul pl] at key
    refine sm_inj (k := k * k) (Int.mul_ne_zero k0 k0) ?_
    rw [key, List.map_map]
    refine List.map_congr_left fun x _ => ?_
    simp only [Function.comp_def]; grind
  · obtain ⟨t, w, o, rfl⟩ := three_of lc
    simp only [spn, rowsI, dt, nrmI, List.map_cons, List.map_nil, List.cons.injEq, and_true]
    refine ⟨?_, ?_, ?_⟩ <;> grind
end
/-! ### both -/
section
variable {a b c d : List Int} (la : a.length = 3) (lb : b.length = 3) (lc : c.length = 3) (ld : d.length = 3) (za : ∃ n ∈ a, n ≠ 0) (zb : ∃ n ∈ b, n ≠ 0) (zc : ∃ n ∈ c, n ≠ 0) (zd : ∃ n ∈ d, n ≠ 0)
  {s t : Int} (s0 : 0 ≤ s) (hs : s * s = dt a a * dt c c) (t0 : 0 ≤ t) (ht : t * t = dt b b * dt d d) (hb : between a b c d s t) {g : List Int} (lg : g.length = 4) (zg : ∃ n ∈ g, n ≠ 0) (hg : ledsTo g a c = true)
include la lb lc ld za zb zc zd s0 hs t0 ht hb lg zg hg
/-- (E1) -/
theorem both_1 : dt (spn g b) c * dt d d = nrmI g * t * dt c d := by
  have e1 := (leads_iff lg la lc zg za zc s0 hs).mp hg
  have p1 := spn_len (a := a) lg
  have p2 := spn_len (a := b) lg
  have N := nrmI_ge lg zg
  have sp := (led_s la lc za zc s0 hs).1
  have e2 := congrArg (fun x => dt x (spn g b)) e1
  simp only [dt_smul_l p1 p2, dt_smul_l lc p2, spn_dt lg la lb] at e2
  rw [dt_comm lc p2] at e2
  unfold between at hb
  have e3 : (nrmI g * s) * (dt (spn g b) c * dt d d) = (nrmI g * s) * (nrmI g * t * dt c d) := by grind
  exact Int.eq_of_mul_eq_mul_left (Int.mul_ne_zero (by omega) (by omega)) e3
/-- (E2) -/
theorem both_2 : dt d d * dt d d * dt (shd (spn g b) c) (shd (spn g b) c) = (nrmI g * t) * (nrmI g * t) * dt (shd d c) (shd d c) := by
  have e1 := both_1 la lb lc ld za zb zc zd s0 hs t0 ht hb lg zg hg
  have p2 := spn_len (a := b) lg
  rw [shd_sq p2 lc, shd_sq ld lc, spn_sq lg lb, dt_comm ld lc]
  grind
theorem both_root (hd : ∃ n ∈ crs d c, n ≠ 0) : ∃ r : Nat, (r : Int) * r = dt (shd (spn g b) c) (shd (spn g b) c) * dt (shd d c) (shd d c) ∧ dt d d * r = nrmI g * t * dt (shd d c) (shd d c) := by
  have e2 := both_2 la lb lc ld za zb zc zd s0 hs t0 ht hb lg zg hg
  have D := dt_pos ld zd
  have N := nrmI_ge lg zg
  have V := dt_pos (shd_len ld lc) (shd_nz ld lc zc hd)
  obtain ⟨r, h1, h2⟩ := root_int (k := dt d d) (N := nrmI g * t * dt (shd d c) (shd d c)) (v := dt (shd (spn g b) c) (shd (spn g b) c) * dt (shd d c) (shd d c)) (by omega) (by grind) (Int.mul_nonneg (Int.mul_nonneg (by omega) t0) (by omega))
  refine ⟨r, h1, ?_⟩
  rw [← h2]
  congr 1
  omega
theorem shd_spn_nz (hab : ∃ n ∈ crs a b, n ≠ 0) : ∃ n ∈ shd (spn g b) c, n ≠ 0 := by
  have p1 := spn_len (a := a) lg
  have p2 := spn_len (a := b) lg
  have N := nrmI_ge lg zg
  have sp := (led_s la lc za zc s0 hs).1
  refine shd_nz p2 lc zc (nz_three (crs_len p2 lc) fun h0 => ?_)
  have e1 := (leads_iff lg la lc zg za zc s0 hs).mp hg
  have e2 := congrArg (fun x => crs (spn g b) x) e1
  simp only [crs_smul p2 p1, crs_smul p2 lc, h0] at e2
  have e3 : crs (spn g b) (spn g a) = [0, 0, 0] := sm_zero (n := 3) (k := dt c c) (by have := dt_pos lc zc; omega) (by rw [e2]; simp)
  rw [spn_crs lg lb la] at e3
  have e4 := sm_zero (n := 3) (k := nrmI g) (by omega) e3
  have ba : ∃ n ∈ crs b a, n ≠ 0 := by
    refine nz_three (crs_len lb la) fun h1 => ?_
    have : crs a b = [0, 0, 0] := by
      obtain ⟨p, q, r, rfl⟩ := three_of la
      obtain ⟨t, u, o, rfl⟩ := three_of lb
      simp only [crs, List.cons.injEq, and_true] at h1 ⊢
      obtain ⟨x1, x2, x3⟩ := h1
      refine ⟨?_, ?_, ?_⟩ <;> grind
    exact ne_three hab this
  exact ne_three (spn_nz lg (crs_len lb la) zg ba) e4
theorem both_leads (hd : ∃ n ∈ crs d c, n ≠ 0) (hab : ∃ n ∈ crs a b, n ≠ 0) {r : Int} (r0 : 0 ≤ r) (hr : r * r = dt (shd (spn g b) c) (shd (spn g b) c) * dt (shd d c) (shd d c)) :
    ledsTo (qmul (abtR (shd (spn g b) c) (shd d c) c r) g) a c = true ∧ ledsTo (qmul (abtR (shd (spn g b) c) (shd d c) c r) g) b d = true := by
  have p2 := spn_len (a := b) lg
  have lu := shd_len p2 lc
  have lv := shd_len ld lc
  have zu := shd_spn_nz la lb lc ld za zb zc zd s0 hs t0 ht hb lg zg hg hab
  have zv := shd_nz ld lc zc hd
  have u0 := shd_up p2 lc
  have v0 := shd_up ld lc
  have e1 := both_1 la lb lc ld za zb zc zd s0 hs t0 ht hb lg zg hg
  obtain ⟨r', h1, h2⟩ := both_root la lb lc ld za zb zc zd s0 hs t0 ht hb lg zg hg hd
  have er : (r' : Int) = r := root_eq (Int.natCast_nonneg _) r0 h1 hr
  rw [er] at h2
  clear h1 er r'
  have hh : ∀ k, spn k (shd (spn g b) c) = lin (dt c c) (spn k (spn g b)) (-(dt (spn g b) c)) (spn k c) → True := fun _ _ => trivial
  have rl := abtR_len lu lv lc zu zv zc (s := r)
  have rz := abtR_nz lu lv lc zu zv zc (s := r)
  have x1 := abtR_leads lu lv lc zu zv zc r0 hr u0
  have x2 := abtR_axis lu lv lc zu zv zc r0 hr u0 v0
  generalize abtR (shd (spn g b) c) (shd d c) c r = k at *
  have x1 := (leads_iff rl lu lv rz zu zv r0 hr).mp x1
  have kg := qmul_len rl lg
  have kz := qmul_nz rl lg rz zg
  have y1 := (leads_iff lg la lc zg za zc s0 hs).mp hg
  have p1 := spn_len (a := a) lg
  have q1 := spn_len (a := spn g a) rl
  have V := dt_pos lv zv
  have C := dt_pos lc zc
  have D := dt_pos ld zd
  refine ⟨(leads_iff kg la lc kz za zc s0 hs).mpr ?_, (leads_iff kg lb ld kz zb zd t0 ht).mpr ?_⟩
  · rw [spn_mul rl lg la, nrmI_qmul rl lg]
    have := congrArg (spn k) y1
    rw [spn_sm rl p1, spn_sm rl lc, x2] at this
    rw [this, List.map_map]
    refine List.map_congr_left fun x _ => ?_
    simp only [Function.comp_def]; grind
  · rw [spn_mul rl lg lb, nrmI_qmul rl lg]
    have e9 : shd (spn g b) c = lin (dt c c) (spn g b) (-(dt (spn g b) c)) c := rfl
    rw [e9, spn_lin rl p2 lc, x2] at x1
    have q2 := spn_len (a := spn g b) rl
    generalize spn k (spn g b) = w at *
    generalize nrmI k = nk at *
    generalize nrmI g = ng at *
    generalize dt (spn g b) c = be at *
    generalize dt (shd d c) (shd d c) = vv at *
    have ev : shd d c = lin (dt c c) d (-(dt d c)) c := rfl
    rw [ev, dt_comm ld lc] at x1
    refine sm_inj (k := vv * dt c c) (Int.mul_ne_zero (by omega) (by omega)) ?_
    rw [List.map_map, List.map_map]
    clear y1 x2 hh hr zu zv u0 v0 lu lv e9 ev
    clear hb hs ht
    clear hab hd
    generalize dt c c = cc at *
    generalize dt d d = dd at *
    generalize dt c d = cd at *
    obtain ⟨w1, w2, w3, rfl⟩ := three_of q2
    obtain ⟨c1, c2, c3, rfl⟩ := three_of lc
    obtain ⟨d1, d2, d3, rfl⟩ := three_of ld
    simp only [lin, List.map_cons, List.map_nil, List.cons.injEq, and_true, Function.comp_def] at x1 ⊢
    obtain ⟨z1, z2, z3⟩ := x1
    have m : ∀ ci di wi : Int, vv * (cc * wi + -be * (nk * ci)) = nk * r * (cc * di + -cd * ci) → vv * cc * (dd * wi) = vv * cc * (nk * ng * t * di) := by
      intro ci di wi z
      have a1 : dd * (vv * (cc * wi + -be * (nk * ci))) = dd * (nk * r * (cc * di + -cd * ci)) := by rw [z]
      have a2 : dd * (nk * r * (cc * di + -cd * ci)) = nk * (dd * r) * (cc * di + -cd * ci) := by grind
      have a3 : dd * (vv * (cc * wi + -be * (nk * ci))) = vv * cc * (dd * wi) - vv * nk * ci * (be * dd) := by grind
      rw [a2, a3, h2, e1] at a1
      grind
    exact ⟨m _ _ _ z1, m _ _ _ z2, m _ _ _ z3⟩
end
def spBoth : SpZ := fun rs S W => match rs with
  | [.d (.tup x1), .d (.tup x2), .d (.tup x3), .d (.tup x4)] => ∃ a b c d : List Int, x1 = a.map D.int ∧ x2 = b.map D.int ∧ x3 = c.map D.int ∧ x4 = d.map D.int ∧
      a.length = 3 ∧ b.length = 3 ∧ c.length = 3 ∧ d.length = 3 ∧ (∃ n ∈ a, n ≠ 0) ∧ (∃ n ∈ b, n ≠ 0) ∧ (∃ n ∈ c, n ≠ 0) ∧ (∃ n ∈ d, n ≠ 0) ∧ (∃ n ∈ crs a b, n ≠ 0) ∧ (∃ n ∈ crs c d, n ≠ 0) ∧
      (∀ x ∈ a, Bd 100 x) ∧ (∀ x ∈ b, Bd 100 x) ∧ (∀ x ∈ c, Bd 100 x) ∧ (∀ x ∈ d, Bd 100 x) ∧
      ((∀ s : Nat, (s : Int) * s ≠ dt a a * dt c c) → W (.d (.tup [.str (PySem.Str.ofString "none"), .str (PySem.Str.ofString "first")])) S) ∧
      (∀ s : Nat, (s : Int) * s = dt a a * dt c c → 
        ((∀ t : Nat, (t : Int) * t ≠ dt b b * dt d d) → W (.d (.tup [.str (PySem.Str.ofString "none"), .str (PySem.Str.ofString "second")])) S) ∧
        (∀ t : Nat, (t : Int) * t = dt b b * dt d d →
          (¬ between a b c d s t → W (.d (.tup [.str (PySem.Str.ofString "none"), .str (PySem.Str.ofString "between")])) S) ∧
          (between a b c d s t → ∀ F : List Int, F.length = 4 → (∃ n ∈ F, n ≠ 0) → (∀ x ∈ F, Bd 2000 x) → pln F = F → ledsTo F a c = true → ledsTo F b d = true → W (.d (.tup [.str (PySem.Str.ofString "only"), .tup (F.map D.int)])) S)))
  | _ => False
theorem crs_flip {a b : List Int} (la : a.length = 3) (lb : b.length = 3) (h : ∃ n ∈ crs a b, n ≠ 0) : ∃ n ∈ crs b a, n ≠ 0 := by
  refine nz_three (crs_len lb la) fun h1 => ?_
  have : crs a b = [0, 0, 0] := by
    obtain ⟨p, q, r, rfl⟩ := three_of la
    obtain ⟨t, u, o, rfl⟩ := three_of lb
    simp only [crs, List.cons.injEq, and_true] at h1 ⊢
    obtain ⟨x1, x2, x3⟩ := h1
    refine ⟨?_, ?_, ?_⟩ <;> grind
  exact ne_three h this
theorem crs_nz_l {a b : List Int} (la : a.length = 3) (lb : b.length = 3) (h : ∃ n ∈ crs a b, n ≠ 0) : ∃ n ∈ a, n ≠ 0 := by
  refine nz_three la fun h0 => ne_three h ?_
  rw [h0]
  obtain ⟨t, u, o, rfl⟩ := three_of lb
  simp [crs]
end Z
set_option Elab.async false
set_option linter.all false
set_option maxRecDepth 100000
set_option exponentiation.threshold 20000
/-! R21: turns that lead, one behind the other; the greatest rest. -/
namespace Z
open PySem PySem.Spec PyProof.Rows L2 RZ
theorem leads_pln {f a c : List Int} (lf : f.length = 4) (la : a.length = 3) (lc : c.length = 3) (zf : ∃ n ∈ f, n ≠ 0) : ledsTo (pln f) a c = ledsTo f a c := by
  have e := pln_mul zf
  have k0 := fsgl_ne zf
  have pl : (pln f).length = 4 := by rw [pln_len, lf]
  generalize fs f * (gl f : Int) = m at *
  conv => rhs; rw [e, ledsTo_smul k0 pl la lc]
end Z
set_option Elab.async false
set_option linter.all false
set_option maxRecDepth 100000
set_option exponentiation.threshold 20000
/-! R22: tables of turns. -/
set_option Elab.async false
set_option linter.all false
set_option maxRecDepth 100000
set_option exponentiation.threshold 20000
/-! R23: turns about one way. -/
set_option Elab.async false
set_option linter.all false
set_option maxRecDepth 100000
set_option exponentiation.threshold 20000
/-! R25: rows of turns. -/
namespace Z
open PySem PySem.Spec PyProof.Rows L2 RZ
/-- a comprehension whose turns write into the store: J holds of it, G of what is made -/
theorem lcL_inv {k : Nat} {chk : Sto → Prop} {f : R → Rho → Option Rho} {t : PT1} {w : PE1} {r : Rho} {items : List R} (J : Sto → Prop) (G : D → Prop) (hk : ∀ S, J S → S.take k = S) (hc : ∀ S, J S → chk S)
    (h : ∀ x ∈ items, ∀ S, J S → ∃ r1, f x r = some r1 ∧ (∀ W1 : Bool → Sto → Prop, W1 true S → t r1 S W1) ∧ ∀ W1 : PK1, (∀ d S', G d → J S' → W1 (.r (.d d)) S') → w r1 S W1)
    {S : Sto} {W : List D → Sto → Prop} (h0 : J S) (q : ∀ ds S', ds.length = items.length → (∀ d ∈ ds, G d) → J S' → W ds S') : lcL k chk f t w r items S W := by
  induction items generalizing S W with
  | nil => exact ⟨hc S h0, q [] S rfl (by simp) h0⟩
  | cons x xs ih =>
    obtain ⟨r1, h1, h2, h3⟩ := h x (by simp) S h0
    unfold lcL
    refine ⟨hc S h0, ?_⟩
    rw [h1]
    refine h2 _ ?_
    rw [if_pos rfl]
    refine h3 _ fun d S' hd hj => ?_
    show lcL k chk f t w r xs (S'.take k) _
    rw [hk S' hj]
    exact ih (fun y hy => h y (List.mem_cons_of_mem _ hy)) hj fun ds S'' hl hg hj' => q (d :: ds) S'' (by simp [hl]) (by
      intro e he
      rcases List.mem_cons.mp he with rfl | he
      · exact hd
      · exact hg e he) hj'
def prodF (fs : List (List Int)) : List Int := fs.foldl (fun g f => qmul f g) [1, 0, 0, 0]
structure OkF (f : List Int) : Prop where
  len : f.length = 4
  nz : ∃ n ∈ f, n ≠ 0
  bd : ∀ x ∈ f, Bd 100 x
theorem one_l {g : List Int} (lg : g.length = 4) : qmul [1, 0, 0, 0] g = g := by
  rw [qmul_one_l lg]; simp
theorem one_r {g : List Int} (lg : g.length = 4) : qmul g [1, 0, 0, 0] = g := by
  rw [qmul_one_r lg]; simp
end Z
set_option Elab.async false
set_option linter.all false
set_option maxRecDepth 100000
set_option maxHeartbeats 1000000
/-! Z9: zip of a text and a tuple. -/
namespace Z
open PySem PySem.Spec PyProof.Rows L2 RZ
section
variable {X : Cx} {e e2 : Expr} {ws : PA1} {pos : Pos}
abbrev wZipS (ws : PA1) : PI1 := fun r S W => ws r S fun xs S1 => match xs with
  | [.r (.d (.str s)), .r (.d (.tup ys))] => s.cps.all (· < 128) = true ∧ W { items := prs (chrs s) (ys.map R.d) } S1
  | _ => False
end
end Z
set_option Elab.async false
set_option linter.all false
set_option maxRecDepth 100000
/-! Z10: numbers as texts, texts joined, tuples repeated. -/
namespace Z
open PySem PySem.Spec PyProof.Rows L2 RZ
/-- a whole number as a text -/
def numT (i : Int) : Str := PySem.Str.ofString (toString i)
section
variable {X : Cx} {e : Expr} {we wo : PE1} {pos : Pos}
abbrev fStr : PF := fun xs S W => match xs with
  | [.r (.d (.int i))] => i.natAbs.log2 < 1920 ∧ W (.r (.d (.str (numT i)))) S
  | _ => False
/-- a tuple some times -/
abbrev pRepT : P2 := fun x y S W => match x, y with
  | .r (.d (.tup xs)), .r (.d (.int k)) => (1 ≤ xs.length ∧ 2 ≤ k ∧ k ≤ 1000 ∧ xs.length ≤ 1000) ∧ W (.r (.d (.tup (List.replicate k.toNat xs).flatten))) S
  | _, _ => False
/-- a row of texts -/
abbrev strsOf : List D → Option (List Str)
  | [] => some []
  | .str x :: r => (strsOf r).map (x :: ·)
  | _ :: _ => none
/-- s.join(list or tuple) -/
abbrev wJoin (wo we : PE1) : PE1 := fun r S W => wo r S fun x S1 => match x with
  | .r (.d (.str a)) => we r S1 fun y S2 => match seqOf S2 y with
    | some xs => match strsOf xs with
      | some ss => (ss.map (·.length)).sum + ss.length * a.length ≤ 16777216 ∧ W (.r (.d (.str (Txt.join a ss)))) S2
      | none => False
    | none => False
  | _ => False
end
end Z
set_option Elab.async false
set_option linter.all false
set_option maxRecDepth 100000
set_option exponentiation.threshold 20000
/-! R27: things as texts. -/
namespace Z
open PySem PySem.Spec PyProof.Rows L2 RZ
/-- a fraction's text -/
def frT (p : Int × Int) : Str := if p.2 = 1 then numT p.1 else (numT p.1 ++ PySem.Str.ofString "/") ++ numT p.2
def OkPw (p : Int × Int) : Prop := Bd 110 p.1 ∧ Bd 110 p.2
abbrev prD (p : Int × Int) : D := .tup [.int p.1, .int p.2]
abbrev ptT (ps : List (Int × Int)) : Str := Txt.join (PySem.Str.ofString " ") (ps.map frT)
abbrev tbT (qs : List (List (Int × Int))) : Str := Txt.join (PySem.Str.ofString "; ") (qs.map ptT)
abbrev rwT (sep : String) (ns : List Int) : Str := Txt.join (PySem.Str.ofString sep) (ns.map numT)
abbrev ptsD (ps : List (Int × Int)) : D := .tup (ps.map prD)
def OkPt (ps : List (Int × Int)) : Prop := ps.length = 3 ∧ ∀ p ∈ ps, OkPw p
def OkTb (qs : List (List (Int × Int))) : Prop := qs.length = 3 ∧ ∀ q ∈ qs, OkPt q
def OkRw (ns : List Int) : Prop := ns.length ≤ 4 ∧ ∀ n ∈ ns, Bd 110 n
/-- a thing of one of the six kinds, and its text -/
def Thing (kind : Int) (x : D) (W : Str → Prop) : Prop :=
  (kind = 0 ∧ ∃ p, x = prD p ∧ OkPw p ∧ W (frT p)) ∨ (kind = 1 ∧ ∃ ns : List Int, x = .tup (ns.map D.int) ∧ OkRw ns ∧ W (rwT " " ns)) ∨ (kind = 2 ∧ ∃ ns : List Int, x = .tup (ns.map D.int) ∧ OkRw ns ∧ W (rwT " " ns)) ∨
    (kind = 3 ∧ ∃ ps, x = ptsD ps ∧ OkPt ps ∧ W (ptT ps)) ∨ (kind = 4 ∧ ∃ qs, x = .tup (qs.map ptsD) ∧ OkTb qs ∧ W (tbT qs)) ∨ (kind = 5 ∧ ∃ k l, x = .tup [.int k, .int l] ∧ OkPw (k, l) ∧ W (rwT ":" [k, l]))
/-- how deep a thing of a kind is told -/
def dep (kind : Int) : Nat := if kind = 3 then 2 else if kind = 4 then 3 else 1
/-- a comprehension that maps data -/
theorem lcL_mapD {α : Type} {k : Nat} {chk : Sto → Prop} {f : R → Rho → Option Rho} {t : PT1} {w : PE1} {r : Rho} {S : Sto} {W : List D → Sto → Prop} {g : α → D} {xs : List α} (v : α → D) (hk : S.take k = S) (hc : chk S)
    (h : ∀ x ∈ xs, ∃ r1, f (.d (g x)) r = some r1 ∧ (∀ W1 : Bool → Sto → Prop, W1 true S → t r1 S W1) ∧ ∀ W1 : PK1, W1 (.r (.d (v x))) S → w r1 S W1) (q : W (xs.map v) S) :
    lcL k chk f t w r ((xs.map g).map R.d) S W := by
  induction xs generalizing W with
  | nil => exact ⟨hc, q⟩
  | cons x xs ih =>
    obtain ⟨r1, h1, h2, h3⟩ := h x (by simp)
    rw [List.map_cons, List.map_cons]
    unfold lcL
    refine ⟨hc, ?_⟩
    rw [h1]
    refine h2 _ ?_
    rw [if_pos rfl]
    refine h3 _ ?_
    show lcL k chk f t w r _ (S.take k) _
    rw [hk]
    exact ih (fun y hy => h y (by simp [hy])) (by simpa using q)
/-- what may be drawn -/
def Drawn (kind : Int) (W : D → Prop) : Prop :=
  (kind = 0 ∧ ∀ p, OkPw p → W (prD p)) ∨ ((kind = 1 ∨ kind = 2) ∧ ∀ ns : List Int, OkRw ns → W (.tup (ns.map D.int))) ∨ (kind = 3 ∧ ∀ ps, OkPt ps → W (ptsD ps)) ∨ (kind = 4 ∧ ∀ qs, OkTb qs → W (.tup (qs.map ptsD))) ∨
    (kind = 5 ∧ ∀ k l, OkPw (k, l) → W (.tup [.int k, .int l]))
theorem Drawn.of {kind : Int} {V : D → Prop} (k0 : 0 ≤ kind) (k1 : kind < 6) (h : ∀ d t, (∀ W : Str → Prop, W t → Thing kind d W) → V d) : Drawn kind V := by
  rcases (by omega : kind = 0 ∨ kind = 1 ∨ kind = 2 ∨ kind = 3 ∨ kind = 4 ∨ kind = 5) with rfl | rfl | rfl | rfl | rfl | rfl
  · exact .inl ⟨rfl, fun p o => h _ _ fun W w => .inl ⟨rfl, p, rfl, o, w⟩⟩
  · exact .inr (.inl ⟨.inl rfl, fun p o => h _ _ fun W w => .inr (.inl ⟨rfl, p, rfl, o, w⟩)⟩)
  · exact .inr (.inl ⟨.inr rfl, fun p o => h _ _ fun W w => .inr (.inr (.inl ⟨rfl, p, rfl, o, w⟩))⟩)
  · exact .inr (.inr (.inl ⟨rfl, fun p o => h _ _ fun W w => .inr (.inr (.inr (.inl ⟨rfl, p, rfl, o, w⟩)))⟩))
  · exact .inr (.inr (.inr (.inl ⟨rfl, fun p o => h _ _ fun W w => .inr (.inr (.inr (.inr (.inl ⟨rfl, p, rfl, o, w⟩))))⟩)))
  · exact .inr (.inr (.inr (.inr ⟨rfl, fun k l o => h _ _ fun W w => .inr (.inr (.inr (.inr (.inr ⟨rfl, k, l, rfl, o, w⟩))))⟩)))
end Z
set_option Elab.async false
set_option linter.all false
set_option maxRecDepth 100000
/-! Z11: a written dict whose keys are tuples of whole numbers, asked once. -/
namespace Z
open PySem PySem.Spec PyProof.Rows L2 RZ
/-- what is written of a dict: keys and values -/
abbrev KVs := List (List Int × Int)
section
variable {X : Cx} {pos : Pos}
def Ext (H H' : Hp) : Prop := ∀ b o, H b = some o → H' b = some o
theorem RepS.ext {K : PySem.W.Frag} {m : List Addr} {H H' : Hp} {S : Sto} (r : RepS K m H S) (h : Ext H H') (g : Grow m H m H') : RepS K m H' S :=
  ⟨r.nd, r.len, fun n ob e => by
    obtain ⟨a, q1, q2⟩ := r.at_ n ob e
    obtain ⟨u, e2⟩ := q2.some
    exact ⟨a, q1, q2.grow g ((h a u e2).trans e2.symm)⟩, fun P hP => g.tb.tab P (r.tab P hP)⟩
theorem Grow.ext {m : List Addr} {H H' : Hp} (h : Ext H H') : Grow m H m H' := ⟨fun _ _ e => e, fun b xs e => h b _ e, fun b o u e => h b _ e, fun b o e => h b _ e, fun b o e _ _ => h b o e, fun _ q n => absurd q n, TbK.ext h⟩
/-- what a written dict holds at a key, or None -/
def kvLook (kvs : KVs) (k : List Int) (o : Option Int) : Option Int := kvs.foldl (fun o kv => if k = kv.1 then some kv.2 else o) o
def kvGet (kvs : KVs) (k : List Int) : D := match kvLook kvs k none with
  | some v => .int v
  | none => .non
/-- x = {..}; return x.get(e, None) -/
abbrev wDGet (i : Nat) (kvs : KVs) (we : PE1) : PS1 := fun N r S => i < r.length ∧ we (r.set i none) S fun y S1 => match y with
  | .r (.d (.tup xs)) => match intsOf xs with
    | some k => N.rt (.d (kvGet kvs k)) S1
    | none => False
  | _ => False
end
end Z
set_option Elab.async false
set_option linter.all false
set_option maxRecDepth 100000
set_option exponentiation.threshold 20000
/-! R28: how often a turn comes back. -/
set_option Elab.async false
set_option linter.all false
set_option maxRecDepth 100000
/-! Z12: order of data, sorted, a list that a def has handed back put into a row. -/
namespace Z
open PySem PySem.Spec PyProof.Rows L2 RZ
section
variable {X : Cx}
/-- x < y of data -/
abbrev pLtD : P2 := fun x y S W => match pyOf S x, pyOf S y with
  | some d, some e => (PySem.W.alike d e = true ∧ d ≠ .none ∧ min d.depth e.depth ≤ 60) ∧ W (.r (.d (.bl (PySem.W.dataLt d e)))) S
  | _, _ => False
theorem pys_map : ∀ xs : List D, pys xs = xs.map py
  | [] => rfl
  | x :: xs => by rw [pys, List.map_cons, pys_map xs]
/-- sorted -/
def srtD (ds : List D) : List D := ds.mergeSort (PySem.W.dataLe false py)
theorem each_reads {pins : List (Addr × Obj)} {σ : L2.St} {H : Hp} {s : Shared} (I : Inv X pins σ H s) : ∀ {ds : List D} {vs : List V} {its : List Value}, RepDs X.K H ds vs → Vals vs its → PySem.W.EachIs (fun v d => ∃ as, Reads s.heap v d as) its (ds.map py)
  | [], _, _, h, r => by cases h; cases r; exact .nil
  | d :: ds, _, _, ⟨v, t, e, h, q⟩, r => by
    subst e
    cases r with
    | cons r1 r2 => exact .cons (Dp.reads I _ _ _ (RepD.dp d v h) r1) (each_reads I q r2)
theorem each_rep {K : PySem.W.Frag} {H : Hp} : ∀ {ds : List D} {vs : List V} {its : List Value}, RepDs K H ds vs → Vals vs its → PySem.W.EachIs (fun u d => ∃ v, RelV v u ∧ RepD K H d v) its ds
  | [], _, _, h, r => by cases h; cases r; exact .nil
  | d :: ds, _, _, ⟨v, t, e, h, q⟩, r => by
    subst e
    cases r with
    | cons r1 r2 => exact .cons ⟨v, r1, h⟩ (each_rep q r2)
theorem rep_each {K : PySem.W.Frag} {H : Hp} : ∀ {ds : List D} {its : List Value}, PySem.W.EachIs (fun u d => ∃ v, RelV v u ∧ RepD K H d v) its ds → ∃ vs, RepDs K H ds vs ∧ Vals vs its
  | [], _, .nil => ⟨[], rfl, .nil⟩
  | d :: ds, _, .cons ⟨v, r, h⟩ t => by
    obtain ⟨vs, q1, q2⟩ := rep_each t
    exact ⟨v :: vs, ⟨v, vs, rfl, h, q1⟩, .cons r q2⟩
def rSortD (K : PySem.W.Frag) : List V → Hp → VK → Prop := fun vs H Q => ∃ a ds xs, vs = [V.ref a] ∧ SqL K H a xs ∧ RepDs K H ds xs ∧ PySem.W.AllAlike (ds.map py) ∧ PySem.W.Sortable (ds.map py) ∧ (∀ d ∈ ds, (py d).depth ≤ 50) ∧
  ∀ ys p, RepDs K H (srtD ds) ys → H p = none → Q (.ref p) (upd H p (.lst ys))
theorem cr_sortD (hu : X.A.units + 64 < cLine) : CallR X (.builtin "sorted") (rSortD X.K) := by
  intro pins s σ H vs us Q I r h
  obtain ⟨a, ds, xs, rfl, hs, hx, hal, hso, hd, q⟩ := h
  obtain ⟨its, rv, hl, hz⟩ := I.list hs
  obtain ⟨u, rfl, ru⟩ := vals1 r
  obtain rfl : u = Value.ref a := ru
  have I2 : Inv X pins σ H { s with heap := PySem.W.sortingHeap (PySem.W.copyHeap s.heap its) (s.heap.objs.size + 1) its } := I.kept (t' := s.toks) fun b o e => PySem.W.sorting_copy_old e
  have ea := each_reads I2 hx rv
  have st := PySem.W.SortsAt.data (prog := X.prog) (w := X.w) (A := X.A.in1.in1) (s := { s with heap := PySem.W.sortingHeap (PySem.W.copyHeap s.heap its) (s.heap.objs.size + 1) its }) ea hal hso (fun d hm => by
    obtain ⟨e, he, rfl⟩ := List.mem_map.mp hm
    have := hd e he
    show X.A.units + 1 + 1 + _ < _
    omega)
  refine PySem.W.sorted_vals hl.isList st (by rw [← rv.length]; exact hz) ?_
  have er := PySem.W.keyedOut_each (rev := false) py ⟨_, _, hal, rfl, ea⟩ (each_rep hx rv)
  obtain ⟨ys, y1, y2⟩ := rep_each er
  obtain ⟨ee, he⟩ := sortedAll_at s.heap its (PySem.W.sortVals (PySem.W.dataKind (PySem.W.sortingHeap (PySem.W.copyHeap s.heap its) (s.heap.objs.size + 1) its) (ds.map py)) false its its).toArray
  refine ⟨.ref (s.heap.objs.size + 1), upd H (s.heap.objs.size + 1) (.lst ys), I.laid (t' := s.toks) (fun b o e => sortedAll_old e) (Nat.le_succ _) ⟨?_, _, ee, y2, he⟩, rfl, q ys _ y1 (I.hok.fresh (Nat.le_succ _))⟩
  have l1 := y1.len
  have l2 := hx.len
  have l3 : (srtD ds).length = ds.length := List.length_mergeSort ds
  show ys.length ≤ _
  rw [l1]
  show (srtD ds).length ≤ _
  rw [l3, ← l2]; exact hz
abbrev fSorted : PF := fun xs S W => match xs with
  | [x] => match isLst x, seqOf S x with
    | true, some ds => (PySem.W.AllAlike (ds.map py) ∧ PySem.W.Sortable (ds.map py) ∧ ∀ d ∈ ds, (py d).depth ≤ 50) ∧ W (.f (srtD ds)) S
    | _, _ => False
  | _ => False
theorem f_sorted (hu : X.A.units + 64 < cLine) : FnP X (.builtin "sorted") fSorted := by
  refine ⟨_, cr_sortD hu, fun xs S W vs m H H0 Q r q w f => ?_⟩
  unfold fSorted at w
  split at w
  · rename_i x
    obtain ⟨v, rfl, q1⟩ := q.one
    split at w
    · rename_i ds hl e
      obtain ⟨p, us, rfl, h1, h2⟩ := q1.seq r e
      rw [if_pos hl] at h2
      exact ⟨p, ds, us, rfl, h2, h1, w.1.1, w.1.2.1, w.1.2.2, fun ys p hr hp => f.lst r hr w.2 p hp⟩
    · exact w.elim
  · exact w.elim
/-- a list that has just come into the store, and that nobody will write: from here on it is data -/
abbrev wFzL (w : PE1) : PE1 := fun r S W => w r S fun x S1 => match x with
  | .r (.loc n) => match S1[n]? with
    | some (.lst xs) => (S.length ≤ n ∧ n + 1 = S1.length) ∧ W (.r (.d (.lst xs))) (S1.take n)
    | _ => False
  | .f xs => W (.r (.d (.lst xs))) S1
  | .r y => W (.r y) S1
end
end Z
set_option Elab.async false
set_option linter.all false
set_option maxRecDepth 100000
/-! Z13: the lesser and the greater of two alike data. -/
namespace PySem
namespace W
end W
end PySem
namespace Z
open PySem PySem.Spec PyProof.Rows L2 RZ
section
variable {X : Cx}
abbrev fMin2D : PF := fun xs S W => match xs with
  | [.r (.d d), .r (.d e)] => (PySem.W.AlikeAll [py d, py e] ∧ (py d).depth ≤ 50 ∧ (py e).depth ≤ 50) ∧ W (.r (.d (if PySem.W.dataLt (py e) (py d) then e else d))) S
  | _ => False
abbrev fMax2D : PF := fun xs S W => match xs with
  | [.r (.d d), .r (.d e)] => (PySem.W.AlikeAll [py d, py e] ∧ (py d).depth ≤ 50 ∧ (py e).depth ≤ 50) ∧ W (.r (.d (if PySem.W.dataLt (py d) (py e) then e else d))) S
  | _ => False
end
end Z
set_option Elab.async false
set_option linter.all false
set_option maxRecDepth 100000
/-! Z14: a written dict of texts, read at once: {"x": "y", ..}[e]. -/
namespace Z
open PySem PySem.Spec PyProof.Rows L2 RZ
/-- what is written: texts by texts -/
abbrev SVs := List (Str × Str)
def svLook (kvs : SVs) (k : Str) (o : Option Str) : Option Str := kvs.foldl (fun o kv => if k = kv.1 then some kv.2 else o) o
/-- {"x": "y", ..}[e] -/
abbrev wDIx (kvs : SVs) (we : PE1) : PE1 := fun r S W => we r S fun y S1 => match y with
  | .r (.d (.str k)) => match svLook kvs k none with
    | some v => W (.r (.d (.str v))) S1
    | none => False
  | _ => False
end Z
set_option Elab.async false
set_option linter.all false
set_option maxRecDepth 100000
/-! Z15: x[::-1] of texts and tuples, the least and the greatest of a list of data. -/
namespace PySem.W
end PySem.W
namespace Z
open PySem PySem.Spec PyProof.Rows L2 RZ
/-- a text the other way about -/
def revS (x : Str) : Str := ⟨x.cps.toList.reverse.toArray⟩
section
variable {X : Cx}
/-- x[::-1] of a text or a tuple -/
abbrev wRvX (w : PE1) : PE1 := fun r S W => w r S fun x S1 => match x with
  | .r (.d (.tup xs)) => W (.r (.d (.tup xs.reverse))) S1
  | .r (.d (.str z)) => z.length ≤ 16777216 ∧ W (.r (.d (.str (revS z)))) S1
  | _ => False
/-- min of a list of two data -/
abbrev fMin1D : PF := fun xs S W => match xs with
  | [x] => match isLst x, seqOf S x with
    | true, some [d, e] => (PySem.W.AlikeAll [py d, py e] ∧ (py d).depth ≤ 50 ∧ (py e).depth ≤ 50) ∧ W (.r (.d (if PySem.W.dataLt (py e) (py d) then e else d))) S
    | _, _ => False
  | _ => False
abbrev fMax1D : PF := fun xs S W => match xs with
  | [x] => match isLst x, seqOf S x with
    | true, some [d, e] => (PySem.W.AlikeAll [py d, py e] ∧ (py d).depth ≤ 50 ∧ (py e).depth ≤ 50) ∧ W (.r (.d (if PySem.W.dataLt (py d) (py e) then e else d))) S
    | _, _ => False
  | _ => False
end
end Z
set_option Elab.async false
set_option linter.all false
set_option maxRecDepth 100000
/-! Z18: len(set(row of whole numbers)); a row of items the other way about; two lists put together, also such that stay as they are. -/
namespace Z
open PySem PySem.Spec PyProof.Rows L2 RZ
section
variable {X : Cx} {e : Expr} {we : PE1}
/-- how many unlike ones -/
def metN (ns : List Int) : Nat := (firstMet (fun i => ns.getD i 0) ns.length).length
/-- len(set(x)) -/
abbrev wUnlike (w : PE1) : PE1 := fun r S W => w r S fun x S1 => match isLst x, seqOf S1 x with
  | true, some ds => match intsOf ds with
    | some ns => ns.length ≤ 4000 ∧ W (.r (.d (.int (metN ns : Nat)))) S1
    | none => False
  | _, _ => False
/-- x[::-1] of a list -/
abbrev wRvL (w : PE1) : PE1 := fun r S W => w r S fun x S1 => match isLst x, seqOf S1 x with
  | true, some ds => W (.f ds.reverse) S1
  | _, _ => False
abbrev pCatQ : P2 := fun x y S W => match isLst x && isLst y, seqOf S x, seqOf S y with
  | true, some xs, some ys => xs.length + ys.length ≤ 16777216 ∧ W (.f (xs ++ ys)) S
  | _, _, _ => False
end
end Z
set_option Elab.async false
set_option linter.all false
set_option maxRecDepth 100000
set_option exponentiation.threshold 20000
/-! R38: stands, the rests of their steps, calm ways looked at. -/
namespace Z
open PySem PySem.Spec PyProof.Rows L2 RZ
abbrev fsL (fs : List (List Int)) : List D := fs.map fun f => D.tup (f.map D.int)
def atF (fs : List (List Int)) (i : Int) : List Int := fs.getD i.toNat []
def stQ (fs : List (List Int)) (i j : Int) : Rat := rstQ (pln (qmul (atF fs j) (pln (qbk (atF fs i)))))
def OkFs (fs : List (List Int)) : Prop := ∀ f ∈ fs, OkF f
structure OkG (f : List Int) : Prop where
  len : f.length = 4
  nz : ∃ n ∈ f, n ≠ 0
  bd : ∀ x ∈ f, Bd 400 x
theorem OkF.g {f : List Int} (o : OkF f) : OkG f := ⟨o.len, o.nz, fun x hx => (o.bd x hx).mono (by decide)⟩
def OkGs (fs : List (List Int)) : Prop := ∀ f ∈ fs, OkG f
theorem OkFs.g {fs : List (List Int)} (h : OkFs fs) : OkGs fs := fun f hf => (h f hf).g
def InP (fs : List (List Int)) (i : Int) : Prop := 0 ≤ i ∧ i < fs.length
theorem at_get {fs : List (List Int)} {i : Int} (h : InP fs i) : getI (fsL fs) i = some (.tup ((atF fs i).map D.int)) ∧ atF fs i ∈ fs := by
  obtain ⟨h0, h1⟩ := h
  have hl : i.toNat < fs.length := by omega
  have e : atF fs i = fs[i.toNat] := by unfold atF; rw [List.getD_eq_getElem?_getD, List.getElem?_eq_getElem hl]; rfl
  rw [e]
  refine ⟨?_, List.getElem_mem hl⟩
  rw [getI_of h0 (by simpa using h1), List.getElem?_map, List.getElem?_eq_getElem hl]; rfl
/-! ### places -/
instance {fs : List (List Int)} {i : Int} : Decidable (InP fs i) := by unfold InP; infer_instance
/-! ### the least of some rests -/
/-! ### no step out of some places -/
end Z
set_option Elab.async false
set_option linter.all false
set_option maxRecDepth 100000
set_option exponentiation.threshold 20000
/-! R39: more for calm ways. -/
namespace Z
open PySem PySem.Spec PyProof.Rows L2 RZ
theorem lcL_filD {α : Type} {k : Nat} {chk : Sto → Prop} {f : R → Rho → Option Rho} {t : PT1} {w : PE1} {r : Rho} {S : Sto} {W : List D → Sto → Prop} {g : α → D} {xs : List α} (p : α → Bool) (v : α → D) (hk : S.take k = S) (hc : chk S)
    (h : ∀ x ∈ xs, ∃ r1, f (.d (g x)) r = some r1 ∧ (∀ W1 : Bool → Sto → Prop, W1 (p x) S → t r1 S W1) ∧ (p x = true → ∀ W1 : PK1, W1 (.r (.d (v x))) S → w r1 S W1)) (q : W ((xs.filter p).map v) S) :
    lcL k chk f t w r ((xs.map g).map R.d) S W := by
  induction xs generalizing W with
  | nil => exact ⟨hc, q⟩
  | cons x xs ih =>
    obtain ⟨r1, h1, h2, h3⟩ := h x (by simp)
    rw [List.map_cons, List.map_cons]
    unfold lcL
    refine ⟨hc, ?_⟩
    rw [h1]
    refine h2 _ ?_
    cases hp : p x with
    | true =>
      rw [if_pos rfl]
      refine h3 hp _ ?_
      simp only [hk]
      refine ih (fun y hy => h y (List.mem_cons_of_mem _ hy)) ?_
      rw [List.filter_cons_of_pos hp] at q
      exact q
    | false =>
      rw [if_neg (by decide), hk]
      refine ih (fun y hy => h y (List.mem_cons_of_mem _ hy)) ?_
      rw [List.filter_cons_of_neg (by simp [hp])] at q
      exact q
end Z
set_option Elab.async false
set_option linter.all false
set_option maxRecDepth 100000
/-! Z19: dicts of the store whose keys are tuples. -/
namespace Z
open PySem PySem.Spec PyProof.Rows L2
/-- a key that a dict takes -/
def keyOk (x : D) : Bool := match keyN x with
  | some k => decide (k.depth ≤ 8)
  | none => false
theorem keyOk_get {x : D} (h : keyOk x = true) : ∃ k, keyN x = some k ∧ k.depth ≤ 8 := by
  unfold keyOk at h
  split at h
  · rename_i k e; exact ⟨k, e, of_decide_eq_true h⟩
  · cases h
def getT (kvs : List (D × D)) (k : D) : Option D := (kvs.find? fun p => decide (keyN p.1 = keyN k)).map (·.2)
def putT (kvs : List (D × D)) (k v : D) : List (D × D) := if (getT kvs k).isSome then kvs.map (fun p => if keyN p.1 = keyN k then (p.1, v) else p) else kvs ++ [(k, v)]
mutual
theorem keyN_tup (xs : List D) (k : NestedKey) (h : keyN (.tup xs) = some k) : ∃ ks, keysN xs = some ks ∧ k = .tup ks := by
  simp only [keyN] at h
  split at h
  · rename_i ks e; cases h; exact ⟨ks, e, rfl⟩
  · cases h
end
theorem keysN_cons {x : D} {xs : List D} {ks : List NestedKey} (h : keysN (x :: xs) = some ks) : ∃ a as, keyN x = some a ∧ keysN xs = some as ∧ ks = a :: as := by
  simp only [keysN] at h
  split at h
  · rename_i a as e1 e2; cases h; exact ⟨a, as, e1, e2, rfl⟩
  · cases h
mutual
theorem hashN (w w' : World) : ∀ (x : D) (k : NestedKey), keyN x = some k → k.hash w = k.hash w'
  | .non, k, e => by simp only [keyN] at e; cases e; rfl
  | .int i, k, e => by simp only [keyN] at e; cases e; rfl
  | .tup xs, k, e => by
    obtain ⟨ks, e1, rfl⟩ := keyN_tup xs k e
    simp only [NestedKey.hash]
    rw [hashNs w w' xs ks e1]
  | .bl _, k, e => by simp [keyN] at e
  | .str _, k, e => by simp [keyN] at e
  | .lst _, k, e => by simp [keyN] at e
theorem hashNs (w w' : World) : ∀ (xs : List D) (ks : List NestedKey), keysN xs = some ks → NestedKey.hashes w ks = NestedKey.hashes w' ks
  | [], ks, e => by simp only [keysN] at e; cases e; rfl
  | x :: xs, ks, e => by
    obtain ⟨a, as, e1, e2, rfl⟩ := keysN_cons e
    simp only [NestedKey.hashes]
    rw [hashN w w' x a e1, hashNs w w' xs as e2]
end
mutual
theorem keyN_inj : ∀ (x y : D) (k : NestedKey), keyN x = some k → keyN y = some k → x = y
  | .non, y, k, e, q => by
    simp only [keyN] at e; cases e
    cases y with
    | non => rfl
    | int i => simp [keyN] at q
    | tup ys => obtain ⟨_, _, h⟩ := keyN_tup ys _ q; cases h
    | bl _ => simp [keyN] at q
    | str _ => simp [keyN] at q
    | lst _ => simp [keyN] at q
  | .int i, y, k, e, q => by
    simp only [keyN] at e; cases e
    cases y with
    | non => simp [keyN] at q
    | int j => simp [keyN] at q; rw [q]
    | tup ys => obtain ⟨_, _, h⟩ := keyN_tup ys _ q; cases h
    | bl _ => simp [keyN] at q
    | str _ => simp [keyN] at q
    | lst _ => simp [keyN] at q
  | .tup xs, y, k, e, q => by
    obtain ⟨ks, e1, rfl⟩ := keyN_tup xs k e
    cases y with
    | non => simp [keyN] at q
    | int j => simp [keyN] at q
    | tup ys => obtain ⟨ls, h1, h⟩ := keyN_tup ys _ q; cases h; rw [keysN_inj xs ys ks e1 h1]
    | bl _ => simp [keyN] at q
    | str _ => simp [keyN] at q
    | lst _ => simp [keyN] at q
  | .bl _, _, _, e, _ => by simp [keyN] at e
  | .str _, _, _, e, _ => by simp [keyN] at e
  | .lst _, _, _, e, _ => by simp [keyN] at e
theorem keysN_inj : ∀ (xs ys : List D) (ks : List NestedKey), keysN xs = some ks → keysN ys = some ks → xs = ys
  | [], ys, ks, e, q => by
    simp only [keysN] at e; cases e
    cases ys with
    | nil => rfl
    | cons y ys => obtain ⟨a, as, _, _, h⟩ := keysN_cons q; cases h
  | x :: xs, ys, ks, e, q => by
    obtain ⟨a, as, e1, e2, rfl⟩ := keysN_cons e
    cases ys with
    | nil => simp [keysN] at q
    | cons y ys =>
      obtain ⟨b, bs, q1, q2, h⟩ := keysN_cons q
      cases h
      rw [keyN_inj x y a e1 q1, keysN_inj xs ys as e2 q2]
end
theorem keyN_eq {x y : D} (h : keyOk x = true) : keyN x = keyN y ↔ x = y := by
  obtain ⟨k, e, _⟩ := keyOk_get h
  exact ⟨fun q => keyN_inj x y k e (q ▸ e), fun q => by rw [q]⟩
theorem keysN_ints (ns : List Int) : keysN (ns.map D.int) = some (ns.map .num) := by
  induction ns with
  | nil => rfl
  | cons n ns ih => simp only [List.map_cons, keysN, keyN, ih]
theorem depth_nums (ns : List Int) : NestedKey.depthAll (ns.map .num) = 0 := by
  induction ns with
  | nil => rfl
  | cons n ns ih => simp [NestedKey.depthAll, NestedKey.depth, ih]
/-- tuples of ints -/
theorem keyOk_ints (ns : List Int) : keyOk (.tup (ns.map D.int)) = true := by
  unfold keyOk
  simp only [keyN, keysN_ints, NestedKey.depth, depth_nums]
  decide
section
variable {X : Cx} {pins : List (Addr × Obj)} {σ : L2.St} {H H1 : Hp} {s : Shared} {a b : Addr}
mutual
theorem nest_of (I : Inv X pins σ H s) : ∀ (x : D) (v : V) (u : Value) (k : NestedKey), RepD X.K H x v → RelV v u → keyN x = some k → NestedIs s.heap k u
  | .non, v, u, k, h, r, e => by
    simp only [keyN] at e; cases e
    obtain rfl : v = .non := h
    obtain rfl : u = .none := r
    exact .none
  | .int i, v, u, k, h, r, e => by
    simp only [keyN] at e; cases e
    obtain rfl : v = .int i := h
    obtain ⟨t, rfl⟩ : ∃ t, u = Value.int i t := r
    exact .int _ t
  | .tup xs, v, u, k, h, r, e => by
    obtain ⟨ks, e1, rfl⟩ := keyN_tup xs k e
    obtain ⟨p, vs, rfl, h1, h2⟩ := h
    obtain rfl : u = .ref p := r
    obtain ⟨its, q1, ⟨o, q2, q3, n, q4⟩, _⟩ := I.tuple h1
    exact .tup q2 q3 q4 (nests_of I xs vs its ks h2 q1 e1)
  | .bl _, _, _, k, _, _, e => by simp [keyN] at e
  | .str _, _, _, k, _, _, e => by simp [keyN] at e
  | .lst _, _, _, k, _, _, e => by simp [keyN] at e
theorem nests_of (I : Inv X pins σ H s) : ∀ (xs : List D) (vs : List V) (us : List Value) (ks : List NestedKey), RepDs X.K H xs vs → Vals vs us → keysN xs = some ks → NestedAll s.heap ks us
  | [], vs, us, ks, h, r, e => by
    simp only [keysN] at e; cases e
    obtain rfl : vs = [] := h
    cases r; exact .nil
  | x :: xs, vs, us, ks, h, r, e => by
    obtain ⟨a, as, e1, e2, rfl⟩ := keysN_cons e
    obtain ⟨v, vs', rfl, h1, h2⟩ := h
    cases r with
    | cons r1 r2 => exact .cons (nest_of I x v _ a h1 r1 e1) (nests_of I xs vs' _ as h2 r2 e2)
end
abbrev PX (K : PySem.W.Frag) (H : Hp) : List (D × D) → List (NestedKey × Addr × Value) → Prop :=
  Paired fun p x => keyN p.1 = some x.1 ∧ x.1.depth ≤ 8 ∧ RepD K H p.1 (.ref x.2.1) ∧ ∃ v, RelV v x.2.2 ∧ RepD K H p.2 v
theorem ent_of {P : Program} {w : World} {K : PySem.W.Frag} {kvs : List (D × D)} {es : List DictEntry} (h : Paired (RepEn K H) kvs es) : ∃ xs, es = xs.map (entryOfKey (nestedKind P w)) ∧ PX K H kvs xs := by
  induction h with
  | nil => exact ⟨[], rfl, .nil⟩
  | @cons p e ps es hd tl ih =>
    obtain ⟨xs, e1, px⟩ := ih
    obtain ⟨b, k, h1, h2, h3, h4, h5, v, h6, h7⟩ := hd
    refine ⟨(k, b, e.val) :: xs, ?_, .cons ⟨h2, h3, h5, v, h6, h7⟩ px⟩
    rw [List.map_cons, ← e1]
    congr 1
    cases e with
    | mk eh ek ev =>
      simp only at h1 h4
      subst h1
      show DictEntry.mk eh (.ref b) ev = DictEntry.mk (k.hash w) (.ref b) ev
      rw [h4 w]
theorem PX.en {P : Program} {w : World} {K : PySem.W.Frag} {kvs : List (D × D)} {xs : List (NestedKey × Addr × Value)} (h : PX K H kvs xs) : Paired (RepEn K H) kvs (xs.map (entryOfKey (nestedKind P w))) := by
  induction h with
  | nil => exact .nil
  | @cons p x ps xs hd tl ih =>
    obtain ⟨h1, h2, h3, v, h4, h5⟩ := hd
    exact .cons ⟨x.2.1, x.1, rfl, h1, h2, fun w' => hashN w w' p.1 x.1 h1, h3, v, h4, h5⟩ ih
theorem PX.keys {K : PySem.W.Frag} {kvs : List (D × D)} {xs : List (NestedKey × Addr × Value)} (h : PX K H kvs xs) : (kvs.map fun p => keyN p.1) = (xs.map (·.1)).map some := by
  induction h with
  | nil => rfl
  | cons hd tl ih => rw [List.map_cons, List.map_cons, List.map_cons, hd.1, ih]
theorem PX.val {K : PySem.W.Frag} {kvs : List (D × D)} {xs : List (NestedKey × Addr × Value)} {k : D} {kk : NestedKey} (h : PX K H kvs xs) (ek : keyN k = some kk) :
    (getT kvs k = none ∧ atKey xs kk = none) ∨ ∃ d p v, getT kvs k = some d ∧ atKey xs kk = some p ∧ RelV v p.2 ∧ RepD K H d v := by
  induction h with
  | nil => exact .inl ⟨rfl, rfl⟩
  | @cons p x ps xs hd tl ih =>
    obtain ⟨h1, h2, h3, v, h4, h5⟩ := hd
    by_cases e : x.1 = kk
    · refine .inr ⟨p.2, x.2, v, ?_, ?_, h4, h5⟩
      · unfold getT; rw [List.find?_cons_of_pos (by simp [h1, ek, e])]; rfl
      · unfold atKey; rw [List.find?_cons_of_pos (by simp [e])]; rfl
    · have e1 : getT (p :: ps) k = getT ps k := by unfold getT; rw [List.find?_cons_of_neg (by simp [h1, ek, e])]
      have e2 : atKey (x :: xs) kk = atKey xs kk := by unfold atKey; rw [List.find?_cons_of_neg (by simp [e])]
      rw [e1, e2]; exact ih
theorem PX.repl {K : PySem.W.Frag} {kvs : List (D × D)} {xs : List (NestedKey × Addr × Value)} {k d : D} {kk : NestedKey} {v : V} {u : Value} (h : PX K H kvs xs) (ek : keyN k = some kk) (rv : RelV v u) (hd : RepD K H d v) :
    PX K H (kvs.map fun p => if keyN p.1 = keyN k then (p.1, d) else p) (xs.map (putAt kk u)) := by
  induction h with
  | nil => exact .nil
  | @cons p x ps xs hd' tl ih =>
    rw [List.map_cons, List.map_cons]
    refine .cons ?_ ih
    obtain ⟨h1, h2, h3, v', h4, h5⟩ := hd'
    unfold putAt
    by_cases e : x.1 = kk
    · rw [if_pos e, if_pos (by rw [h1, ek, e])]; exact ⟨h1, h2, h3, v, rv, hd⟩
    · rw [if_neg e, if_neg (by rw [h1, ek]; exact fun q => e (Option.some.inj q))]; exact ⟨h1, h2, h3, v', h4, h5⟩
theorem PX.put {K : PySem.W.Frag} {kvs : List (D × D)} {xs : List (NestedKey × Addr × Value)} {k d : D} {kk : NestedKey} {v : V} {u : Value} (h : PX K H kvs xs) (ek : keyN k = some kk) (dk : kk.depth ≤ 8) (hb : RepD K H k (.ref b)) (rv : RelV v u) (hd : RepD K H d v) :
    PX K H (putT kvs k d) (storedH xs kk b u) := by
  unfold putT storedH
  rcases h.val ek with ⟨e1, e2⟩ | ⟨d', p, v', e1, e2, _⟩
  · rw [e1, e2]
    exact Paired.snoc h ⟨ek, dk, hb, v, rv, hd⟩
  · rw [e1, e2]
    exact h.repl ek rv hd
theorem PX.via {K : PySem.W.Frag} (f : ∀ x v, RepD K H x v → RepD K H1 x v) {kvs : List (D × D)} {xs : List (NestedKey × Addr × Value)} (h : PX K H kvs xs) : PX K H1 kvs xs :=
  Paired.mapP h fun _ _ z => let ⟨h1, h2, h3, v, h4, h5⟩ := z; ⟨h1, h2, f _ _ h3, v, h4, f _ _ h5⟩
theorem nodup_some {α : Type} : ∀ {l : List α}, (l.map some).Nodup ↔ l.Nodup
  | [] => by simp
  | x :: l => by rw [List.map_cons, List.nodup_cons, List.nodup_cons, nodup_some (l := l)]; simp
theorem putT_len (kvs : List (D × D)) (k v : D) : (putT kvs k v).length ≤ kvs.length + 1 := by
  unfold putT
  split
  · rw [List.length_map]; omega
  · rw [List.length_append]; simp
/-- a dict of the store, in the heap -/
theorem dctH (I : Inv X pins σ H s) {ep : Nat} {kvs : List (D × D)} (h : RepO X.K H a (.dct ep kvs)) :
    ∃ xs, s.heap.DictOfH (nestedKind X.prog X.w) a xs ∧ (a == sysModules) = false ∧ kvs.length ≤ sizeLine ∧ PX X.K H kvs xs ∧ H a = some (DX a ep (xs.map (entryOfKey (nestedKind X.prog X.w)))) := by
  obtain ⟨es, h1, h2, h3, h4, h5⟩ := h
  obtain ⟨xs, rfl, px⟩ := ent_of (P := X.prog) (w := X.w) h4
  refine ⟨xs, ?_, h2, h3, px, h1⟩
  obtain ⟨⟨o, q1, q2, q3⟩, q4⟩ := (show ObjOk X.prog X.w H s.heap a (DX a ep _) from I.hok a _ h1)
  refine ⟨o, _, ep, q1, q2, q3, by simp, ?_, nodup_some.mp (by rw [← px.keys]; exact h5)⟩
  clear h1 h2 h3 h4 h5 q1 q2 q3 q4
  induction px with
  | nil => intro x hx; cases hx
  | @cons p x ps xs hd tl ih =>
    intro y hy
    rcases List.mem_cons.mp hy with rfl | hy
    · obtain ⟨h1, h2, h3, _⟩ := hd
      exact ⟨nest_of I p.1 _ _ _ h3 rfl h1, h2⟩
    · exact ih y hy
theorem dctO {K : PySem.W.Frag} {P : Program} {w : World} {ep : Nat} {kvs : List (D × D)} {xs : List (NestedKey × Addr × Value)} (px : PX K H kvs xs) (e : H a = some (DX a ep (xs.map (entryOfKey (nestedKind P w))))) (h2 : (a == sysModules) = false) (h3 : kvs.length ≤ sizeLine) (nd : (xs.map (·.1)).Nodup) :
    RepO K H a (.dct ep kvs) := ⟨_, e, h2, h3, px.en, by rw [px.keys]; exact nodup_some.mpr nd⟩
theorem dx_ok {P : Program} {w : World} {h : Heap} {ep : Nat} {es : List DictEntry} (e : ∃ (o : Obj), h.get? a = some o ∧ o.ExactDict ∧ o.data = .dict es.toArray ep) : ObjOk P w H1 h a (DX a ep es) := by
  obtain ⟨o, q1, q2, q3⟩ := e
  exact ⟨⟨o, q1, q2, q3⟩, ⟨o, q1⟩, fun h1 h2 ⟨o, k1, k2⟩ q => ⟨o, q o k1, k2⟩⟩
/-! ### rules -/
/-- {} -/
abbrev wDNew : PE1 := fun r S W => W (.r (.loc S.length)) (S ++ [.dct 0 []])
def tDNewX : TE := fun _ H Q => ∀ p, H p = none → (p == sysModules) = false → Q (.ref p) (upd H p (DX p 0 []))
theorem pe_dnewX {pos : Pos} : PE X (.Dict [] [] pos) tDNewX := ⟨fun pins s σ H Q I h =>
  wpAny_Dict_empty ⟨.ref s.heap.objs.size, _, I.laid (a := s.heap.objs.size) (o := DX _ 0 []) (t' := s.toks) (fun _ _ q => Heap.get?_push_of_some _ q) (Nat.le_refl _) (dx_ok ⟨_, Heap.get?_push_size _ rfl, ⟨rfl, rfl, rfl⟩, rfl⟩), rfl,
    h _ (I.hok.fresh (Nat.le_refl _)) (beq_eq_false_iff_ne.mpr (Ne.symm (Nat.ne_of_lt I.big)))⟩⟩
theorem we_dnew {pos : Pos} : WE X (.Dict [] [] pos) wDNew := ⟨peImp pe_dnewX fun s H Q ⟨m, r, S, W, hE, hS, hw, hf⟩ p hp hsm => by
  have g : Grow m H (m ++ [p]) (upd H p (DX p 0 [])) := Grow.push hp (Grow.alloc hp)
  exact hf _ _ _ _ _ hw g ((hS.alloc hp).pushO (hS.notmem hp) ⟨[], upd_same, hsm, Nat.zero_le _, .nil, List.nodup_nil⟩) ⟨p, by rw [← hS.len]; simp, rfl⟩⟩
/-- k in d -/
abbrev pInD (neg : Bool) : P2 := fun x y S W => match x, y with
  | .r (.d (.tup ks)), .r (.loc n) => match S[n]? with
    | some (.dct _ kvs) => keyOk (.tup ks) = true ∧ W (.r (.d (.bl (if neg then !(getT kvs (.tup ks)).isSome else (getT kvs (.tup ks)).isSome)))) S
    | _ => False
  | _, _ => False
theorem RepD.tupRef {K : PySem.W.Frag} {ks : List D} {v : V} (h : RepD K H (.tup ks) v) : ∃ b, v = .ref b := let ⟨b, _, e, _⟩ := h; ⟨b, e⟩
/-- d[k] -/
abbrev pIxD : P2 := fun x y S W => match x, y with
  | .r (.loc n), .r (.d (.tup ks)) => match S[n]? with
    | some (.dct _ kvs) => match getT kvs (.tup ks) with
      | some z => keyOk (.tup ks) = true ∧ W (.r (.d z)) S
      | none => False
    | _ => False
  | _, _ => False
/-- d[k] = v -/
abbrev wDPut (wo wi we : PE1) : PS1 := fun N r S => we r S fun x S1 => wo r S1 fun o S2 => wi r S2 fun k S3 => match o, k, x with
  | .r (.loc n), .r (.d (.tup ks)), .r (.d z) => match S3[n]? with
    | some (.dct _ kvs) => (keyOk (.tup ks) = true ∧ kvs.length < 16777216) ∧ ∀ ep, N.nx r (S3.set n (.dct ep (putT kvs (.tup ks) z)))
    | _ => False
  | _, _, _ => False
theorem ps_dputX {o i value : Expr} {pos pos' : Pos} {td ty tv : TE} (hu : X.A.units + 64 < cLine) (ho : PE X o td) (hi : PE X i ty) (hv : PE X value tv) (hs : swapsWith value (some (.Subscript o i pos')) pos.line X.env = pure false) :
    PS X (.Assign [.Subscript o i pos'] value pos) (fun D σ H => tv σ H fun v H1 => td σ H1 fun x H2 => ty σ H2 fun y H3 =>
      ∃ (ks : List Z.D) (a : Addr) (ep : Nat) (kvs : List (Z.D × Z.D)) (z : Z.D), x = .ref a ∧ RepD X.K H3 (.tup ks) y ∧ RepO X.K H3 a (.dct ep kvs) ∧ keyOk (.tup ks) = true ∧ kvs.length < sizeLine ∧ RepD X.K H3 z v ∧
        ∀ u ep2 es, H3 a = some u → Wr a u → (Grow [a] H3 [a] (upd H3 a (DX a ep2 es)) → RepO X.K (upd H3 a (DX a ep2 es)) a (.dct ep2 (putT kvs (.tup ks) z))) → D.nx σ (upd H3 a (DX a ep2 es))) := by
  refine ⟨fun pins s σ H D I h => ?_⟩
  refine wpAny_Assign_Subscript (thn (hv.run pins s σ H _ I h) fun r s1 ⟨v, H1, I1, rv, q1⟩ => thn (ho.run pins s1 σ H1 _ I1 q1) fun u s2 ⟨x, H2, I2, rx, q2⟩ => thn (hi.run pins s2 σ H2 _ I2 q2) fun iv s3 ⟨y, H3, I3, ry, ks, a, ep0, kvs, z, ex, hk, hO, ok, hl, hz, q3⟩ => ?_) hs
  subst ex
  obtain rfl : u = Value.ref a := rx
  obtain ⟨b, rfl⟩ := hk.tupRef
  obtain rfl : iv = .ref b := ry
  obtain ⟨kk, ek, dk⟩ := keyOk_get ok
  obtain ⟨xs, hm, hd, hl2, px, eH⟩ := dctH I3 hO
  have lx : kvs.length = xs.length := Paired.length px
  refine wpAny_setItem_heap (knd := nestedKind X.prog X.w) (hsz := by omega) (by show X.A.units + 1 + 8 < cLine; omega) (k := kk) ⟨nest_of I3 _ _ _ kk hk rfl ek, dk⟩ hm fun h' dd' hs' => ?_
  obtain ⟨q, es, ep, hq, k2, k3, k4, _, k5⟩ := dd'
  have ees : es = ((storedH xs kk b r).map (entryOfKey (nestedKind X.prog X.w))).toArray := by rw [← k4]
  refine ⟨σ, _, I3.write (x := a) (e := a) (o := DX a ep ((storedH xs kk b r).map (entryOfKey (nestedKind X.prog X.w)))) (t' := _) (by rw [eH]; exact True.intro) (.inl rfl) (fun b q hb z => (hs'.2 b hb).trans z) ⟨q, hq⟩ (dx_ok ⟨q, hq, k2, by rw [k3, ees]⟩), ?_⟩
  refine q3 _ _ _ eH wr_dx fun g => ?_
  have px2 := px.put (k := .tup ks) ek dk hk rv hz
  exact dctO (px2.via fun x v => RepD.grow g x v) upd_same hd (by have := putT_len kvs (.tup ks) z; omega) k5
theorem ws_dput {o i e : Expr} {pos p2 : Pos} {wo wi we : PE1} (hu : X.A.units + 64 < cLine) (ho : WE X o wo) (hi : WE X i wi) (he : WE X e we) (hs : swapsWith e (some (.Subscript o i p2)) pos.line X.env = pure false := by rfl) : WS X (.Assign [.Subscript o i p2] e pos) (wDPut wo wi we) :=
  ⟨psImp (ps_dputX hu ho.pe hi.pe he.pe hs) fun D s H ⟨m, r, S, N, hE, hS, hw, hf⟩ => up1 hE hS hw fun x S1 v m1 H1 h1 g1 r1 q1 => up2 (hE.grow g1) r1 h1 fun y z S3 u w m3 H3 h3 g3 r3 qo qi => by
    split at h3
    · rename_i n ks d
      split at h3
      · rename_i ep kvs e1
        obtain ⟨a, k1, rfl⟩ := qo
        obtain ⟨a', k1', hO⟩ := r3.at_ n _ e1
        rw [k1] at k1'; cases k1'
        have qd : RepD X.K H3 d v := RepD.grow g3 d v q1
        refine ⟨ks, a, ep, kvs, d, rfl, qi, hO, h3.1.1, h3.1.2, qd, fun u ep2 es eu wu hg => ?_⟩
        have gw := Grow.writeO (m := m3) (u' := DX a ep2 es) k1 eu wu
        have ho' := hg (Grow.writeO (m := [a]) (n := 0) rfl eu wu)
        exact hf.nx r _ s m3 _ (h3.2 ep2) ((g1.trans g3).trans gw) (((hE.grow g1).grow g3).grow gw) (r3.writeO k1 eu wu ho')
      · exact h3.elim
    · exact h3.elim⟩
/-- len(d) -/
abbrev fLenD : PF := fun xs S W => match xs with
  | [.r (.loc n)] => match S[n]? with
    | some (.dct _ kvs) => W (.r (.d (.int kvs.length))) S
    | _ => False
  | _ => False
end
end Z
set_option Elab.async false
set_option linter.all false
set_option maxRecDepth 100000
set_option exponentiation.threshold 20000
/-! R40: words over fours, dicts of fours and of words. -/
namespace Z
open PySem PySem.Spec PyProof.Rows L2 RZ
abbrev tI (ns : List Int) : D := .tup (ns.map D.int)
theorem tI_inj {a b : List Int} : tI a = tI b ↔ a = b := by
  constructor
  · intro e
    injection e with e
    exact (List.map_inj_right fun x y h => by injection h).mp e
  · rintro rfl; rfl
theorem keyN_tI {a b : List Int} : keyN (tI a) = keyN (tI b) ↔ a = b := by
  rw [keyN_eq (keyOk_ints a), tI_inj]
/-- the turn of a word -/
def trn (fs : List (List Int)) (ws : List Int) : List Int := pln (prodF (ws.map fun w => fs[w.toNat]!))
def InW (n : Nat) (ws : List Int) : Prop := ∀ w ∈ ws, 0 ≤ w ∧ w < n
instance {n : Nat} {ws : List Int} : Decidable (InW n ws) := by unfold InW; infer_instance
theorem trn_nil (fs : List (List Int)) : trn fs [] = [1, 0, 0, 0] := by
  show pln (prodF []) = _
  decide
/-! ### unlike ones -/
def insF (ks : List (List Int)) (f : List Int) : List (List Int) := if f ∈ ks then ks else ks ++ [f]
/-! ### dicts -/
theorem getT_cons (p : D × D) (kvs : List (D × D)) (k : D) : getT (p :: kvs) k = if keyN p.1 = keyN k then some p.2 else getT kvs k := by
  unfold getT
  by_cases e : keyN p.1 = keyN k
  · rw [List.find?_cons_of_pos (by simp [e]), if_pos e]; rfl
  · rw [List.find?_cons_of_neg (by simp [e]), if_neg e]
/-- fours that were seen -/
abbrev seenD (ks : List (List Int)) : List (D × D) := ks.map fun f => (tI f, .bl true)
theorem getT_seen (ks : List (List Int)) (f : List Int) : getT (seenD ks) (tI f) = if f ∈ ks then some (.bl true) else none := by
  induction ks with
  | nil => simp [getT]
  | cons k ks ih =>
    rw [seenD, List.map_cons, getT_cons, ← seenD, ih]
    by_cases e : k = f
    · subst e; simp
    · rw [if_neg (fun z => e (keyN_tI.mp z))]
      have e' : ¬ f = k := fun z => e z.symm
      simp [e']
theorem putT_seen (ks : List (List Int)) (f : List Int) : putT (seenD ks) (tI f) (.bl true) = seenD (insF ks f) := by
  unfold putT insF
  rw [getT_seen]
  by_cases h : f ∈ ks
  · rw [if_pos h, if_pos (by simp), if_pos h]
    unfold seenD
    rw [List.map_map]
    refine List.map_congr_left fun g _ => ?_
    simp only [Function.comp]
    split <;> rfl
  · rw [if_neg h, if_neg (by simp), if_neg h, seenD, seenD, List.map_append]; rfl
theorem dp_tI (f : List Int) : (py (tI f)).depth ≤ 2 := by
  have := depth_ints f
  simp only [py, PyData.depth]; omega
/-! ### pools of turns -/
/-! ### words that are unlike -/
end Z
set_option Elab.async false
set_option linter.all false
set_option maxRecDepth 100000
/-! Z20: dicts of the store whose keys are ints and texts. -/
namespace Z
open PySem PySem.Spec PyProof.Rows L2
def keyK : D → Option Key
  | .int i => some (.inl i)
  | .str x => some (.inr x)
  | _ => none
def getK (kvs : List (Key × D)) (k : Key) : Option D := (kvs.find? fun p => decide (p.1 = k)).map (·.2)
def putD (kvs : List (Key × D)) (k : Key) (v : D) : List (Key × D) := if (kvs.any fun p => decide (p.1 = k)) = true then kvs.map (fun p => if p.1 = k then (p.1, v) else p) else kvs ++ [(k, v)]
abbrev PK (K : PySem.W.Frag) (H : Hp) : List (Key × D) → List (Key × V) → Prop := Paired (fun (p : Key × D) (q : Key × V) => q.1 = p.1 ∧ RepD K H p.2 q.2)
section
variable {K : PySem.W.Frag} {H H1 : Hp} {kvs : List (Key × D)} {ks : List (Key × V)} {k : Key} {d : D} {v : V}
theorem PK.val (h : PK K H kvs ks) (k : Key) : (getK kvs k = none ∧ valV ks k = none) ∨ ∃ d v, getK kvs k = some d ∧ valV ks k = some v ∧ RepD K H d v := by
  unfold PK at h
  induction h with
  | nil => exact .inl ⟨rfl, rfl⟩
  | @cons p q ps qs hd tl ih =>
    by_cases e : p.1 = k
    · refine .inr ⟨p.2, q.2, ?_, valV_pos (hd.1.trans e), hd.2⟩
      unfold getK; rw [List.find?_cons_of_pos (by simp [e])]; rfl
    · rw [valV_neg (by rw [hd.1]; exact e)]
      have e2 : getK (p :: ps) k = getK ps k := by unfold getK; rw [List.find?_cons_of_neg (by simp [e])]
      rw [e2]; exact ih
theorem PK.any (h : PK K H kvs ks) (k : Key) : (kvs.any fun p => decide (p.1 = k)) = ks.any fun p => decide (p.1 = k) := by
  unfold PK at h
  induction h with
  | nil => rfl
  | @cons p q ps qs hd tl ih => rw [List.any_cons, List.any_cons, ih, hd.1]
theorem PK.put (h : PK K H kvs ks) (k : Key) (hd : RepD K H d v) : PK K H (putD kvs k d) (putK ks k v) := by
  unfold putD putK
  rw [h.any k]
  split
  · rename_i e0
    clear e0
    unfold PK at h
    induction h with
    | nil => exact .nil
    | @cons p q ps qs hh tl ih =>
      rw [List.map_cons, List.map_cons]
      refine .cons ?_ ih
      by_cases e : p.1 = k
      · rw [if_pos e, if_pos (hh.1.trans e)]; exact ⟨hh.1, hd⟩
      · rw [if_neg e, if_neg (by rw [hh.1]; exact e)]; exact hh
  · exact Paired.snoc h ⟨rfl, hd⟩
theorem PK.via (f : ∀ x v, RepD K H x v → RepD K H1 x v) (h : PK K H kvs ks) : PK K H1 kvs ks := Paired.mapP h fun _ _ z => ⟨z.1, f _ _ z.2⟩
theorem PK.keys (h : PK K H kvs ks) : ks.map (fun p => kV p.1) = kvs.map (fun p => kV p.1) := by
  unfold PK at h
  induction h with
  | nil => rfl
  | @cons p q ps qs hd tl ih => rw [List.map_cons, List.map_cons, ih, hd.1]
end
section
variable {X : Cx}
/-- {} -/
abbrev wKNew : PE1 := fun r S W => W (.r (.loc S.length)) (S ++ [.dk []])
/-- {k: v} -/
abbrev wKNew1 (wk we : PE1) : PE1 := fun r S W => wk r S fun x S1 => we r S1 fun y S2 => match x, y with
  | .r (.d k), .r (.d z) => match keyK k with
    | some kk => W (.r (.loc S2.length)) (S2 ++ [.dk [(kk, z)]])
    | none => False
  | _, _ => False
/-- a dict of the store -/
theorem RepS.dk {K : PySem.W.Frag} {m : List Addr} {H : Hp} {S : Sto} {n : Nat} {kvs : List (Key × D)} {v : V} (r : RepS K m H S) (q : RepR K m H (.loc n) v) (e : S[n]? = some (.dk kvs)) : ∃ a ks, v = .ref a ∧ m[n]? = some a ∧ H a = some (.dK ks) ∧ PK K H kvs ks := by
  obtain ⟨a, h1, rfl⟩ := q
  obtain ⟨a', h2, ks, h3, h4⟩ := r.at_ n _ e
  rw [h1] at h2; cases h2
  exact ⟨a, ks, rfl, h1, h3, h4⟩
/-- k in d -/
abbrev pInK (neg : Bool) : P2 := fun x y S W => match x, y with
  | .r (.d k), .r (.loc n) => match S[n]?, keyK k with
    | some (.dk kvs), some kk => W (.r (.d (.bl (if neg then !(getK kvs kk).isSome else (getK kvs kk).isSome)))) S
    | _, _ => False
  | _, _ => False
/-- d[k] -/
abbrev pIxK : P2 := fun x y S W => match x, y with
  | .r (.loc n), .r (.d k) => match S[n]?, keyK k with
    | some (.dk kvs), some kk => match getK kvs kk with
      | some z => W (.r (.d z)) S
      | none => False
    | _, _ => False
  | _, _ => False
/-- d[k] = v -/
abbrev wKPut (wo wi we : PE1) : PS1 := fun N r S => we r S fun x S1 => wo r S1 fun o S2 => wi r S2 fun k S3 => match o, k, x with
  | .r (.loc n), .r (.d k), .r (.d z) => match S3[n]?, keyK k with
    | some (.dk kvs), some kk => kvs.length < 16777216 ∧ N.nx r (S3.set n (.dk (putD kvs kk z)))
    | _, _ => False
  | _, _, _ => False
/-- len(d) -/
abbrev fLenK : PF := fun xs S W => match xs with
  | [.r (.loc n)] => match S[n]? with
    | some (.dk kvs) => W (.r (.d (.int kvs.length))) S
    | _ => False
  | _ => False
/-- list(d) -/
def keyD : Key → D
  | .inl i => .int i
  | .inr x => .str x
abbrev fListK : PF := fun xs S W => match xs with
  | [.r (.loc n)] => match S[n]? with
    | some (.dk kvs) => W (.f (kvs.map fun p => keyD p.1)) S
    | _ => False
  | _ => False
end
end Z
set_option Elab.async false
set_option linter.all false
set_option maxRecDepth 100000
/-! Z21: tuples that hold lists of the store. -/
namespace Z
open PySem PySem.Spec PyProof.Rows L2
/-! ### a comprehension within a comprehension -/
def relab (sc S : Scope) : Scope := { sc with names := sc.names.map fun (n, k) => if (k == .free && S.kind == .function && S.names.lookup n == some .cell) then (n, .cell) else (n, k) }
theorem blkOk_in {N : List Str} {sc0 scope S : Scope} {env : Env} {own : List (Str × Nat)} (hs : env.scope = S) (h : blkC N (relab sc0 S) scope own = true) : BlkOk N (relabel sc0 env) scope own := by
  subst hs
  exact blkOk_by h
section
variable {X : Cx} {e a b : Expr} {es : List Expr} {pos : Pos} {we wa wb : PE1} {was : PA1}
/-- a new list is given its number right here -/
abbrev wNum (w : PE1) : PE1 := fun r S W => w r S fun x S1 => match x with
  | .f xs => W (.r (.loc S1.length)) (S1 ++ [.lst xs])
  | .r y => W (.r y) S1
theorem we_num (h : WE X e we) : WE X e (wNum we) := ⟨peImp h.pe fun s H Q ⟨m, r, S, W, hE, hS, hw, hf⟩ => ⟨m, r, S, _, hE, hS, hw, fun x S1 v m1 H1 h1 g1 r1 q1 => by
  cases x with
  | r y => exact hf _ S1 v m1 H1 h1 g1 r1 q1
  | f xs =>
    obtain ⟨a, vs, rfl, k1, k2, k3, k4⟩ := q1
    exact hf _ _ _ (m1 ++ [a]) H1 h1 (Grow.push k3 g1) (r1.push k2 k1 k4) ⟨a, by rw [← r1.len]; simp, rfl⟩⟩⟩
/-- a tuple of values -/
abbrev wTupR (ws : PA1) : PE1 := fun r S W => ws r S fun xs S1 => match rsOf xs with
  | some rs => rs.length ≤ 16777216 ∧ W (.r (.tr rs)) S1
  | none => False
theorem we_tupR {x1} (h : WA X es was) : WE X (.Tuple es x1 pos) (wTupR was) :=
  ⟨peImp (pe_tup h.pa) fun s H Q ⟨m, r, S, W, hE, hS, hw, hf⟩ => ⟨m, r, S, _, hE, hS, hw, fun xs S1 vs m1 H1 h1 g1 r1 q1 => by
    split at h1
    · rename_i rs e
      have q := rsOf_ok q1 e
      refine ⟨by rw [q.len, sizeLine_eq]; exact h1.1, fun p hp => ?_⟩
      exact (hf.later g1 r1) _ S1 _ m1 _ h1.2 (Grow.alloc hp) (r1.alloc hp) ⟨p, vs, rfl, .inl (.inl upd_same), RepRs.grow (m1 := m1) (Grow.alloc hp) rs vs q⟩
    · exact h1.elim⟩⟩
def getR (xs : List R) (k : Int) : Option R := if 0 ≤ k then xs[k.toNat]? else none
theorem getR_0 {a : R} {xs : List R} : getR (a :: xs) 0 = some a := rfl
theorem getR_1 {a b : R} {xs : List R} : getR (a :: b :: xs) 1 = some b := rfl
theorem getR_2 {a b c : R} {xs : List R} : getR (a :: b :: c :: xs) 2 = some c := rfl
/-- an item of a tuple of values -/
abbrev pIxT : P2 := fun x y S W => match x, y with
  | .r (.tr xs), .r (.d (.int k)) => match getR xs k with
    | some z => W (.r z) S
    | none => False
  | _, _ => False
theorem we_ixT (ha : WE X a wa) (hb : WE X b wb) (hs : PlainIx b) : WE X (.Subscript a b pos) (wBin pIxT wa wb) := by
  refine ⟨peImp (pe_ix ix_tup ha.pe hb.pe hs) fun s H Q ⟨m, ρ, S, W, hE, hS, hw, hf⟩ => up2 hE hS hw fun x y S2 v u m2 H2 z g2 r2 qx qy => ?_⟩
  unfold pIxT at z
  split at z
  · rename_i xs k
    split at z
    · rename_i d e2
      obtain ⟨p, vs, rfl, h1, h2⟩ := qx
      unfold getR at e2
      split at e2
      · rename_i h0
        obtain ⟨w, h3, h4⟩ := RepRs.get h2 e2
        refine ⟨p, vs, k, w, rfl, qy, h1, ?_, (hf.later g2 r2).here r2 (x := .r d) h4 z⟩
        unfold L2.atI ixN
        have : k.toNat < vs.length := (List.getElem?_eq_some_iff.mp h3).1
        rw [if_pos h0, if_pos (by omega)]
        exact h3
      · cases e2
    · exact z.elim
  · exact z.elim
abbrev fLenT : PF := fun xs S W => match xs with
  | [.r (.tr xs)] => W (.r (.d (.int xs.length))) S
  | _ => False
theorem f_lenT : FnP X (.builtin "len") fLenT := by
  refine ⟨_, call_len_seq, fun xs S W vs m H H0 Q r q w f => ?_⟩
  unfold fLenT at w
  split at w
  · rename_i ys
    obtain ⟨v, rfl, q1⟩ := q.one
    obtain ⟨p, us, rfl, h1, h2⟩ := q1
    refine ⟨p, us, rfl, .inr h1, ?_⟩
    rw [RepRs.len h2]
    exact f.here r (x := svi _) rfl w
  · exact w.elim
end
end Z
set_option Elab.async false
set_option linter.all false
set_option maxRecDepth 100000
set_option exponentiation.threshold 20000
/-! R41: ways from place to place, what is come to. -/
namespace Z
open PySem PySem.Spec PyProof.Rows L2 RZ
def InN (n : Nat) (i : Int) : Prop := 0 ≤ i ∧ i < n
/-- come to by steps -/
inductive Rch (n : Nat) (E : Int → Int → Prop) (a : Int) : Int → Prop
  | refl : Rch n E a a
  | step {b c : Int} : Rch n E a b → InN n c → E b c → Rch n E a c
theorem Rch.inN {n : Nat} {E : Int → Int → Prop} {a b : Int} (h : Rch n E a b) (ha : InN n a) : InN n b := by
  cases h with
  | refl => exact ha
  | step _ k _ => exact k
theorem Rch.mono {n : Nat} {E F : Int → Int → Prop} {a b : Int} (h : Rch n E a b) (k : ∀ u v, E u v → F u v) : Rch n F a b := by
  induction h with
  | refl => exact .refl
  | step _ i e ih => exact .step ih i (k _ _ e)
theorem Rch.trans {n : Nat} {E : Int → Int → Prop} {a b c : Int} (h : Rch n E a b) (k : Rch n E b c) : Rch n E a c := by
  induction k with
  | refl => exact h
  | step _ i e ih => exact .step ih i e
theorem Rch.symm {n : Nat} {E : Int → Int → Prop} {a b : Int} (s : ∀ u v, E u v → E v u) (ha : InN n a) (h : Rch n E a b) : Rch n E b a := by
  induction h with
  | refl => exact .refl
  | @step b c h i e ih => exact (Rch.step .refl (h.inN ha) (s _ _ e)).trans ih
/-! ### places with the one ahead -/
abbrev kpK (kp : List (Int × Int)) : List Int := kp.map (·.1)
structure Part (n : Nat) (E : Int → Int → Prop) (a : Int) (kp : List (Int × Int)) : Prop where
  nd : (kpK kp).Nodup
  hd : kp[0]? = some (a, a)
  inN : ∀ k ∈ kpK kp, InN n k
  prd : ∀ (i : Nat) k p, kp[i + 1]? = some (k, p) → E p k ∧ ∃ (j : Nat) (q : Int), j < i + 1 ∧ kp[j]? = some (p, q)
section
variable {n : Nat} {E : Int → Int → Prop} {a : Int} {kp : List (Int × Int)}
theorem nodup_inN {l : List Int} (h : l.Nodup) (k : ∀ x ∈ l, InN n x) : l.length ≤ n := by
  have := h.length_le_of_subset (l₂ := (List.range n).map fun i : Nat => (i : Int)) fun x hx => by
    obtain ⟨h0, h1⟩ := k x hx
    exact List.mem_map.mpr ⟨x.toNat, List.mem_range.mpr (by omega), by omega⟩
  simpa using this
theorem Part.first (h : Part n E a kp) : a ∈ kpK kp := List.mem_map.mpr ⟨_, List.mem_of_getElem? h.hd, rfl⟩
theorem Part.rch (h : Part n E a kp) : ∀ (i : Nat) k p, kp[i]? = some (k, p) → Rch n E a k := by
  intro i
  induction i using Nat.strongRecOn with
  | ind i ih =>
    intro k p e
    cases i with
    | zero => rw [h.hd] at e; cases e; exact .refl
    | succ i =>
      obtain ⟨e1, j, q, hj, e2⟩ := h.prd i k p e
      exact .step (ih j hj p q e2) (h.inN k (List.mem_map.mpr ⟨_, List.mem_of_getElem? e, rfl⟩)) e1
theorem Part.one (ha : InN n a) : Part n E a [(a, a)] := ⟨by simp, rfl, fun k hk => by simp at hk; subst hk; exact ha, fun i k p e => by simp at e⟩
theorem Part.snoc (h : Part n E a kp) {k p : Int} (hk : k ∉ kpK kp) (ik : InN n k) (hp : p ∈ kpK kp) (e : E p k) : Part n E a (kp ++ [(k, p)]) := by
  have hl : 0 < kp.length := by
    cases kp with
    | nil => simp at hp
    | cons x xs => simp
  refine ⟨?_, ?_, fun x hx => ?_, fun i u v hi => ?_⟩
  · rw [kpK, List.map_append, List.nodup_append]
    exact ⟨h.nd, by simp, fun x hx y hy => by simp at hy; subst hy; exact fun q => hk (q ▸ hx)⟩
  · rw [List.getElem?_append_left hl]; exact h.hd
  · rw [kpK, List.map_append] at hx
    rcases List.mem_append.mp hx with q | q
    · exact h.inN x q
    · simp at q; subst q; exact ik
  · by_cases hi' : i + 1 < kp.length
    · rw [List.getElem?_append_left hi'] at hi
      obtain ⟨e1, j, q, hj, e2⟩ := h.prd i u v hi
      exact ⟨e1, j, q, hj, by rw [List.getElem?_append_left (by omega)]; exact e2⟩
    · have hl2 := (List.getElem?_eq_some_iff.mp hi).1
      simp only [List.length_append, List.length_cons, List.length_nil] at hl2
      have ei : i + 1 = kp.length := by omega
      rw [ei, List.getElem?_append_right (Nat.le_refl _)] at hi
      simp at hi
      obtain ⟨rfl, rfl⟩ := hi
      obtain ⟨⟨p', q⟩, hm, e3⟩ := List.mem_map.mp hp
      obtain ⟨j, hj⟩ := List.getElem?_of_mem hm
      have lj := (List.getElem?_eq_some_iff.mp hj).1
      simp only at e3; subst e3
      exact ⟨e, j, q, by omega, by rw [List.getElem?_append_left lj]; exact hj⟩
end
/-! ### as a dict -/
/-! ### stands -/
theorem stQ_comm {fs : List (List Int)} (h : OkGs fs) {i j : Int} (hi : InP fs i) (hj : InP fs j) : stQ fs i j = stQ fs j i := by
  have comm : ∀ f g : List Int, OkG f → OkG g → rstQ (pln (qmul g (pln (qbk f)))) = rstQ (pln (qmul f (pln (qbk g)))) := by
    intro f g o k
    have q1 := qmul_len k.len (qbk_len o.len)
    have z1 := qmul_nz k.len (qbk_len o.len) k.nz (qbk_nz o.len o.nz)
    have q2 := qmul_len o.len (qbk_len k.len)
    have z2 := qmul_nz o.len (qbk_len k.len) o.nz (qbk_nz k.len k.nz)
    rw [pln_qmul_r k.len (qbk_len o.len) k.nz (qbk_nz o.len o.nz), pln_qmul_r o.len (qbk_len k.len) o.nz (qbk_nz k.len k.nz), rstQ_pln q1 z1, rstQ_pln q2 z2]
    have e : qmul f (qbk g) = qbk (qmul g (qbk f)) := by
      have lf := o.len
      have lg := k.len
      obtain ⟨w, x, y, z, rfl⟩ := four_of lf
      obtain ⟨p, q, r, s, rfl⟩ := four_of lg
      simp only [qmul, qbk, List.cons.injEq, and_true]
      refine ⟨?_, ?_, ?_, ?_⟩ <;> grind
    rw [e, rstQ_bk q1]
  unfold stQ
  exact comm _ _ (h _ (at_get hi).2) (h _ (at_get hj).2)
/-- the greatest rest with which one place is come to from another one -/
structure Best (n : Nat) (w : Int → Int → Rat) (one other : Int) (g : Rat) : Prop where
  rch : Rch n (fun u v => g ≤ w u v) one other
  no : ¬ Rch n (fun u v => g < w u v) one other
/-! ### calm ways -/
/-- the way back: each place's one ahead -/
structure Walk (kp : List (Int × Int)) (E : Int → Int → Prop) (qs : List Int) (u : Int) : Prop where
  last : qs.getLast? = some u
  mem : ∀ x ∈ qs, x ∈ kpK kp
  low : ∀ x ∈ qs, (kpK kp).idxOf u ≤ (kpK kp).idxOf x
  down : qs.Pairwise fun u v => (kpK kp).idxOf v < (kpK kp).idxOf u
  e : ∀ z ∈ qs.zip qs.tail, E z.2 z.1
theorem Walk.one {kp : List (Int × Int)} {E : Int → Int → Prop} {u : Int} (h : u ∈ kpK kp) : Walk kp E [u] u := ⟨rfl, fun x hx => by simp at hx; subst hx; exact h, fun x hx => by simp at hx; subst hx; exact Nat.le_refl _, by simp, by simp⟩
/-! ### sorted whole numbers -/
def unI : D → Int
  | .int i => i
  | _ => 0
theorem Walk.len {fs : List (List Int)} {E : Int → Int → Prop} {a u : Int} {kp : List (Int × Int)} {qs : List Int} (w : Walk kp E qs u) (h : Part fs.length E a kp) : qs.length ≤ fs.length :=
  nodup_inN (w.down.imp fun h e => by subst e; omega) fun x hx => h.inN x (w.mem x hx)
/-- the fraction that is told of two places -/
def FarP (fs : List (List Int)) (p : Int × Int) (q : Rat) : Prop := if p.1 = p.2 then q = 1 else Best fs.length (stQ fs) p.1 p.2 q
end Z
set_option Elab.async false
set_option linter.all false
set_option maxRecDepth 100000
set_option exponentiation.threshold 20000
/-! R42: the same rests of other stands. -/
namespace Z
open PySem PySem.Spec PyProof.Rows L2 RZ
structure Fr (f : List Int) : Prop where
  len : f.length = 4
  nz : ∃ x ∈ f, x ≠ 0
/-! ### other lists of stands -/
theorem Rch.map {n m : Nat} {E F : Int → Int → Prop} {a b : Int} (φ : Int → Int) (h : Rch n E a b) (ha : InN n a) (i : ∀ v, InN n v → InN m (φ v)) (e : ∀ u v, InN n u → InN n v → E u v → F (φ u) (φ v)) : Rch m F (φ a) (φ b) := by
  induction h with
  | refl => exact .refl
  | step h k q ih => exact .step ih (i _ k) (e _ _ (h.inN ha) k q)
theorem Best.map {n : Nat} {w x : Int → Int → Rat} {a b : Int} {g : Rat} (φ : Int → Int) (h : Best n w a b g) (ha : InN n a) (i : ∀ v, InN n v → InN n (φ v)) (inv : ∀ v, InN n v → φ (φ v) = v) (e : ∀ u v, InN n u → InN n v → x (φ u) (φ v) = w u v) : Best n x (φ a) (φ b) g := by
  have e' : ∀ u v, InN n u → InN n v → w (φ u) (φ v) = x u v := fun u v iu iv => by
    have := e (φ u) (φ v) (i u iu) (i v iv)
    rw [inv u iu, inv v iv] at this
    exact this.symm
  have ib := h.rch.inN ha
  refine ⟨h.rch.map φ ha i fun u v iu iv q => by rw [e u v iu iv]; exact q, fun q => h.no ?_⟩
  have := q.map φ (i a ha) i (F := fun u v => g < w u v) fun u v iu iv q => by rw [e' u v iu iv]; exact q
  rw [inv a ha, inv b ib] at this
  exact this
theorem FarP.same {fs gs : List (List Int)} {p : Int × Int} {q : Rat} (h : FarP fs p q) (hl : gs.length = fs.length) (i1 : InP fs p.1) (e : ∀ u v, InP fs u → InP fs v → stQ gs u v = stQ fs u v) : FarP gs p q := by
  unfold FarP at *
  by_cases he : p.1 = p.2
  · rw [if_pos he] at h ⊢; exact h
  · rw [if_neg he] at h ⊢
    rw [hl]
    exact h.map (fun v => v) i1 (fun _ k => k) (fun _ _ => rfl) fun u v iu iv => e u v iu iv
theorem FarP.swap {fs : List (List Int)} {a b : Int} {q : Rat} (ok : OkGs fs) (h : FarP fs (a, b) q) (ia : InP fs a) (ib : InP fs b) : FarP fs (b, a) q := by
  unfold FarP at *
  simp only at *
  by_cases he : a = b
  · rw [if_pos he] at h; rw [if_pos he.symm]; exact h
  · rw [if_neg he] at h; rw [if_neg (fun z => he z.symm)]
    have sy : ∀ (f : Rat → Prop), (∀ u v, InP fs u → InP fs v → f (stQ fs u v) → f (stQ fs v u)) := fun f u v iu iv q => by rw [stQ_comm ok iv iu]; exact q
    have rv : ∀ (f : Rat → Prop) x y, InP fs x → Rch fs.length (fun u v => f (stQ fs u v)) x y → Rch fs.length (fun u v => f (stQ fs u v)) y x := by
      intro f x y ix r
      induction r with
      | refl => exact .refl
      | @step c d r i e ih => exact (Rch.step .refl (r.inN ix) (sy f c d (r.inN ix) i e)).trans ih
    exact ⟨rv (fun x => q ≤ x) a b ia h.rch, fun r => h.no (rv (fun x => q < x) b a ib r)⟩
end Z
set_option Elab.async false
set_option linter.all false
set_option maxRecDepth 100000
set_option exponentiation.threshold 20000
/-! R43: all ways, lots. -/
namespace Z
open PySem PySem.Spec PyProof.Rows L2 RZ
/-! ### a rest is from 0 to 1 -/
theorem rat_div_le {a b : Int} (hb : 0 < b) (h0 : 0 ≤ a) (h1 : a ≤ b) : (0 : Rat) ≤ (a : Rat) / (b : Rat) ∧ (a : Rat) / (b : Rat) ≤ 1 := by
  have hb' : (0 : Rat) < (b : Rat) := by exact_mod_cast hb
  constructor
  · refine Rat.not_lt.mp fun q => ?_
    rw [Rat.div_lt_iff hb', Rat.zero_mul] at q
    have : a < 0 := by exact_mod_cast q
    omega
  · refine Rat.not_lt.mp fun q => ?_
    have e : (a : Rat) / (b : Rat) * (b : Rat) = a := Rat.div_mul_cancel (by intro z; rw [z] at hb'; exact Rat.lt_irrefl hb')
    have h2 := (Rat.mul_lt_mul_right hb').mpr q
    rw [e, Rat.one_mul] at h2
    have : b < a := by exact_mod_cast h2
    omega
theorem sq_nn' (w : Int) : 0 ≤ w * w := by have := @Int.natAbs_mul_self w; omega
theorem rstQ_le {f : List Int} (o : Fr f) : 0 ≤ rstQ f ∧ rstQ f ≤ 1 := by
  obtain ⟨l, z0⟩ := o
  have hn := nrmI_ne l z0
  obtain ⟨w, x, y, z, rfl⟩ := four_of l
  have h1 := sq_nn' w
  have h2 := sq_nn' x
  have h3 := sq_nn' y
  have h4 := sq_nn' z
  have e : nrmI [w, x, y, z] = w * w + x * x + y * y + z * z := by simp only [nrmI] <;> omega
  unfold rstQ
  rw [e] at hn ⊢
  exact rat_div_le (a := hd [w, x, y, z] * hd [w, x, y, z]) (by omega) h1 (by show w * w ≤ _; omega)
/-! ### all ways of unlike places -/
def extW (n : Nat) (ps : List Int) : List (List Int) := ((List.range n).filter fun j : Nat => decide ((j : Int) ∉ ps)).map fun j : Nat => ps ++ [(j : Int)]
def grow (n : Nat) (K : List (List Int)) : List (List Int) := K.flatMap (extW n)
/-! ### sorted whole numbers -/
/-! ### lots -/
open Classical in
/-- the places that are come to from a, rising -/
noncomputable def cls (n : Nat) (E : Int → Int → Prop) (a : Int) : List Int := ((List.range n).filter fun j : Nat => decide (Rch n E a (j : Int))).map fun j : Nat => (j : Int)
end Z
set_option Elab.async false
set_option linter.all false
set_option maxRecDepth 100000
/-! Z22: enumerate; a written dict of one tuple; sorted(d), list(d.values()) of dicts whose keys are tuples. -/
namespace Z
open PySem PySem.Spec PyProof.Rows L2 RZ
section
variable {X : Cx} {e a b : Expr} {es : List Expr} {pos : Pos} {we wa wb : PE1} {was ws : PA1}
/-! ### enumerate -/
def enR (k : Nat) : List R → List R
  | [] => []
  | .d x :: xs => .d (.tup [.int (k : Nat), x]) :: enR (k + 1) xs
  | x :: xs => x :: enR (k + 1) xs
abbrev wEnum (ws : PA1) : PI1 := fun r S W => ws r S fun xs S1 => match xs with
  | [x] => match itOf S1 x with
    | some it => (isLst x = true ∧ allD it.items = true) ∧ W ⟨enR 0 it.items, it.chk⟩ S1
    | none => False
  | _ => False
/-! ### {k: v}, k a tuple -/
abbrev wDNew1 (wk we : PE1) : PE1 := fun r S W => wk r S fun x S1 => we r S1 fun y S2 => match x, y with
  | .r (.d (.tup ks)), .r (.d z) => keyOk (.tup ks) = true ∧ ∀ ep, W (.r (.loc S2.length)) (S2 ++ [.dct ep [(.tup ks, z)]])
  | _, _ => False
/-! ### what a dict holds, as a new list -/
abbrev fSortX : PF := fun xs S W => match xs with
  | [.r (.loc n)] => match S[n]? with
    | some (.dct _ kvs) => (PySem.W.AllAlike ((kvs.map (·.1)).map py) ∧ PySem.W.Sortable ((kvs.map (·.1)).map py) ∧ ∀ d ∈ kvs.map (·.1), (py d).depth ≤ 50) ∧ W (.f (srtD (kvs.map (·.1)))) S
    | _ => False
  | _ => False
abbrev wVals (wo : PE1) : PE1 := fun r S W => wo r S fun x S1 => match x with
  | .r (.loc n) => match S1[n]? with
    | some (.dct _ kvs) => W (.f (kvs.map (·.2))) S1
    | _ => False
  | _ => False
end
end Z
set_option Elab.async false
set_option linter.all false
set_option maxRecDepth 100000
set_option exponentiation.threshold 20000
/-! R44: all turns that some turns lead to, told in order; groups of turns. -/
namespace Z
open PySem PySem.Spec PyProof.Rows L2 RZ
abbrev Fo := List Int
/-- the new ones of a turn -/
def addN (c : Fo) (fs ws : List Fo) : List Fo := fs.foldl (fun ws f => insF ws (pln (qmul f c))) ws
def stp (fs : List Fo) : Nat → List Fo
  | 0 => [[1, 0, 0, 0]]
  | n + 1 => if n < (stp fs n).length then addN ((stp fs n)[n]!) fs (stp fs n) else stp fs n
theorem insF_pre (ws : List Fo) (f : Fo) : ws <+: insF ws f := by
  unfold insF
  split
  · exact List.prefix_rfl
  · exact List.prefix_append _ _
theorem addN_pre (c : Fo) (fs ws : List Fo) : ws <+: addN c fs ws := by
  unfold addN
  induction fs generalizing ws with
  | nil => exact List.prefix_rfl
  | cons f fs ih => exact (insF_pre ws _).trans (ih _)
theorem addN_part (c : Fo) (fs ws : List Fo) (j : Nat) : addN c (fs.take j) ws <+: addN c fs ws := by
  have : addN c fs ws = addN c (fs.drop j) (addN c (fs.take j) ws) := by
    unfold addN
    rw [← List.foldl_append, List.take_append_drop]
  rw [this]; exact addN_pre _ _ _
/-! ### with words -/
abbrev Wo := List (Fo × List Int)
abbrev fstW (ps : Wo) : List Fo := ps.map (·.1)
structure Pw (fs : List Fo) (n : Nat) (ps : Wo) : Prop where
  nd : (fstW ps).Nodup
  wd : ∀ (i : Nat) p, ps[i]? = some p → InW fs.length p.2 ∧ p.2.length ≤ i ∧ p.2.length ≤ n ∧ trn fs p.2 = p.1
theorem Pw.mono {fs : List Fo} {m n : Nat} {ps : Wo} (h : Pw fs m ps) (k : m ≤ n) : Pw fs n ps := ⟨h.nd, fun i p e => let ⟨a, b, c, d⟩ := h.wd i p e; ⟨a, b, Nat.le_trans c k, d⟩⟩
theorem Pw.mem {fs : List Fo} {n : Nat} {ps : Wo} (h : Pw fs n ps) {f : Fo} (hf : f ∈ fstW ps) : ∃ w, InW fs.length w ∧ w.length ≤ n ∧ trn fs w = f := by
  obtain ⟨p, hp, rfl⟩ := List.mem_map.mp hf
  obtain ⟨i, hi⟩ := List.getElem?_of_mem hp
  obtain ⟨a, _, c, d⟩ := h.wd i p hi
  exact ⟨p.2, a, c, d⟩
theorem Pw.start (fs : List Fo) : Pw fs 0 [([1, 0, 0, 0], [])] := ⟨by simp, fun i p e => by
  cases i with
  | zero => cases e; exact ⟨fun w hw => by simp at hw, by simp, by simp, trn_nil fs⟩
  | succ i => simp at e⟩
theorem Pw.add {fs : List Fo} {n : Nat} {ps : Wo} (h : Pw fs n ps) {f : Fo} {w : List Int} (hf : f ∉ fstW ps) (h1 : InW fs.length w) (h2 : w.length ≤ ps.length) (h3 : w.length ≤ n) (h4 : trn fs w = f) : Pw fs n (ps ++ [(f, w)]) := by
  refine ⟨?_, fun i p e => ?_⟩
  · unfold fstW
    rw [List.map_append, List.nodup_append]
    refine ⟨h.nd, by simp, fun a ha b hb => ?_⟩
    simp at hb; subst hb
    rintro rfl; exact hf ha
  · by_cases hi : i < ps.length
    · rw [List.getElem?_append_left hi] at e; exact h.wd i p e
    · rw [List.getElem?_append_right (by omega)] at e
      by_cases h0 : i = ps.length
      · subst h0; simp at e; subst e; exact ⟨h1, h2, h3, h4⟩
      · rw [List.getElem?_eq_none (by simp; omega)] at e; cases e
/-- within a turn: j of the turns were set behind the one at a -/
structure Inn (fs : List Fo) (a j : Nat) (ps : Wo) : Prop where
  eq : fstW ps = addN ((stp fs a)[a]!) (fs.take j) (stp fs a)
  pw : Pw fs (a + 1) ps
  lt : a < (stp fs a).length
theorem Inn.start {fs : List Fo} {a : Nat} {ps : Wo} (e : fstW ps = stp fs a) (h : Pw fs a ps) (k : a < ps.length) : Inn fs a 0 ps := ⟨by rw [e]; rfl, h.mono (by omega), by rw [← e, List.length_map]; exact k⟩
theorem Inn.done {fs : List Fo} {a : Nat} {ps : Wo} (h : Inn fs a fs.length ps) : fstW ps = stp fs (a + 1) := by
  rw [h.eq, List.take_length, stp, if_pos h.lt]
theorem Inn.up {fs : List Fo} {a j : Nat} {ps : Wo} (h : Inn fs a j ps) : ps.length ≤ (stp fs (a + 1)).length := by
  have := (addN_part ((stp fs a)[a]!) fs (stp fs a) j).length_le
  rw [← h.eq, List.length_map] at this
  rw [stp, if_pos h.lt]; exact this
/-! ### the words themselves -/
/-! ### order of fours -/
theorem four_data {f : Fo} : py (tI f) = .tuple (f.map PyData.int) := by
  show PyData.tuple (pys (f.map D.int)) = _
  rw [pys_map, List.map_map]; rfl
theorem alike_ints : ∀ {f g : List Int}, PySem.W.alikeAll (f.map PyData.int) (g.map PyData.int) = true
  | [], [] => rfl
  | [], _ :: _ => rfl
  | _ :: _, [] => rfl
  | a :: f, b :: g => by
    simp only [List.map_cons, PySem.W.alikeAll, Bool.and_eq_true]
    exact ⟨rfl, alike_ints⟩
theorem four_sort {ws : List Fo} (h4 : ∀ f ∈ ws, f.length = 4) : (PySem.W.AllAlike ((fsL ws).map py) ∧ PySem.W.Sortable ((fsL ws).map py)) ∧ ∀ d ∈ fsL ws, (py d).depth ≤ 50 := by
  refine ⟨⟨fun a ha b hb => ?_, .inl fun a ha => ?_⟩, fun d hd => ?_⟩
  · obtain ⟨x, hx, rfl⟩ := List.mem_map.mp ha
    obtain ⟨y, hy, rfl⟩ := List.mem_map.mp hb
    obtain ⟨f, hf, rfl⟩ := List.mem_map.mp hx
    obtain ⟨g, hg, rfl⟩ := List.mem_map.mp hy
    rw [show py (.tup (f.map D.int)) = _ from four_data, show py (.tup (g.map D.int)) = _ from four_data]
    exact alike_ints
  · obtain ⟨x, hx, rfl⟩ := List.mem_map.mp ha
    obtain ⟨f, hf, rfl⟩ := List.mem_map.mp hx
    rw [show py (.tup (f.map D.int)) = _ from four_data]
    obtain ⟨a, b, c, d, rfl⟩ := four_of (h4 f hf)
    exact ⟨_, _, rfl⟩
  · obtain ⟨f, hf, rfl⟩ := List.mem_map.mp hd
    have := dp_tI f
    exact Nat.le_trans this (by decide)
/-! ### the groups of the pools -/
/-- a turn led to other axes -/
def led (b q : Fo) : Fo := qmul (qmul b q) (qbk b)
/-- these lead to 24 turns at most -/
def Few (fs : List Fo) : Prop := ∃ G : List Fo, G.length ≤ 24 ∧ (∀ w, InW fs.length w → trn fs w ∈ G) ∧ ∀ g ∈ G, ∀ x ∈ g, Bd 90 x
theorem Few.len {fs : List Fo} (h : Few fs) {n : Nat} {ps : Wo} (p : Pw fs n ps) : ps.length ≤ 24 := by
  obtain ⟨G, h1, h2, _⟩ := h
  have : (fstW ps).length ≤ G.length := List.Nodup.length_le_of_subset p.nd fun f hf => by
    obtain ⟨w, a, _, c⟩ := p.mem hf
    rw [← c]; exact h2 w a
  rw [List.length_map] at this
  omega
/-! ### sorted fours -/
def unF : D → List Int
  | .tup xs => xs.map unI
  | _ => []
theorem unF_f (f : Fo) : unF (.tup (f.map D.int)) = f := by
  show (f.map D.int).map unI = f
  rw [List.map_map, show unI ∘ D.int = id from rfl, List.map_id]
theorem unF_fs (fs : List Fo) : (fsL fs).map unF = fs := by
  rw [fsL, List.map_map]
  conv => rhs; rw [← List.map_id fs]
  exact List.map_congr_left fun f _ => unF_f f
theorem srt_fs (ws : List Fo) : ∃ us : List Fo, srtD (fsL ws) = fsL us ∧ us.Perm ws := by
  have p : (srtD (fsL ws)).Perm (fsL ws) := List.mergeSort_perm _ _
  refine ⟨(srtD (fsL ws)).map unF, ?_, ?_⟩
  · have : ∀ l : List D, (∀ d ∈ l, ∃ f : Fo, d = .tup (f.map D.int)) → l = fsL (l.map unF) := by
      intro l
      induction l with
      | nil => intro _; rfl
      | cons d l ih =>
        intro h
        obtain ⟨f, rfl⟩ := h d (by simp)
        rw [List.map_cons, unF_f, fsL, List.map_cons, ← fsL, ← ih fun e he => h e (by simp [he])]
    refine this _ fun d hd => ?_
    obtain ⟨f, _, rfl⟩ := List.mem_map.mp (p.mem_iff.mp hd)
    exact ⟨f, rfl⟩
  · have := p.map unF
    rw [unF_fs] at this
    exact this
/-! ### promises -/
end Z
set_option Elab.async false
set_option linter.all false
set_option maxRecDepth 100000
/-! Z23: list.clear, list.count. -/
namespace Z
open PySem PySem.Spec PyProof.Rows L2 RZ
section
variable {X : Cx} {e : Expr} {pos : Pos} {we : PE1}
/-- xs.clear() -/
abbrev wClr (wo : PE1) : PE1 := fun r S W => wo r S fun x S1 => match x with
  | .r (.loc n) => isLo S1 n = true ∧ W (.r (.d .non)) (S1.set n (.lst []))
  | _ => False
/-- xs.count(k), whole numbers -/
abbrev wCntL (wo we : PE1) : PE1 := fun r S W => wo r S fun x S1 => match isLst x, seqOf S1 x with
  | true, some _ => we r S1 fun y S2 => match y with
    | .r (.d (.int k)) => match seqOf S2 x with
      | some xs => match intsOf xs with
        | some ns => W (.r (.d (.int (ns.count k : Nat)))) S2
        | none => False
      | none => False
    | _ => False
  | _, _ => False
end
end Z
set_option Elab.async false
set_option linter.all false
set_option maxRecDepth 100000
/-! Z24: for k in d (keys are tuples), d.get(k, c), sorted(d.items()) (keys are whole numbers or texts). -/
namespace Z
open PySem PySem.Spec PyProof.Rows L2 RZ
/-! ### for k in d -/
/-- the keys of the dict at d, as it stands at each turn (never written meanwhile) -/
def ItX (d : Addr) (ep n : Nat) : It :=
  ⟨fun i H => ∃ es, H d = some (DX d ep es) ∧ es.length = n ∧ ∃ en b, es[i]? = some en ∧ en.key = .ref b,
   fun i H x H' => H' = H ∧ ∀ es, H d = some (DX d ep es) → ∃ en b, es[i]? = some en ∧ en.key = .ref b ∧ x = .ref b,
   fun i H => ∃ es, H d = some (DX d ep es) ∧ es.length = n ∧ n ≤ i⟩
section
variable {P : Program} {w : World} {K : PySem.W.Frag} {tg : Expr} {d : Addr} {ep n : Nat}
theorem dx_get {X : Cx} {pins : List (Addr × Obj)} {σ : L2.St} {H : Hp} {s : Shared} {es : List DictEntry} (I : Inv X pins σ H s) (e : H d = some (DX d ep es)) : ∃ o, s.heap.get? d = some o ∧ o.ExactDict ∧ o.data = .dict es.toArray ep :=
  (show ObjOk X.prog X.w H s.heap d (DX d ep es) from I.hok d _ e).1
theorem turn_X (it : Addr) : Turn P w K tg (ItX d ep n) [it] it (fun i h => h.IsKeyIter it d i n ep) where
  mem := by simp
  obj := fun i h st b hb => by
    have e : b = it := by simpa using hb
    subst e
    obtain ⟨oi, e, c, dd⟩ := st
    exact ⟨oi, e, fun v z => by rw [dd] at z; cases z⟩
  keep := fun i h h' st k => st.at fun oi e => k it (by simp) oi e
  item := by
    intro X hP hw hK hc i pins s σ H E I hf st hg
    subst hP hw hK
    obtain ⟨es, hd, hl, en, b, hen, hkey⟩ := hg
    obtain ⟨f0, f1, f2, f3, f4, f5⟩ := hf it (by simp)
    obtain ⟨od, hgd, hx, hdt⟩ := dx_get I hd
    refine next_key_item st hgd hdt (by simpa using hl) (en := en) (by simpa using hen) fun h' st' sb => ?_
    have I1 : Inv X pins σ H { s with heap := h' } := I.turned (t' := s.toks) (fun b ob hb e => (sb.2 b hb).trans e) f0 f1 f3 f4 f5
    obtain ⟨oi, e, c, dd⟩ := id st'
    refine ⟨en.key, rfl, go_of (s := { s with heap := h' }) e c dd (by decide) ⟨.ref b, H, I1, hkey, ⟨rfl, fun es2 h2 => ?_⟩, st', fun b hb => (hf b hb).1⟩⟩
    obtain ⟨od2, hgd2, _, hdt2⟩ := dx_get I h2
    rw [hgd] at hgd2; cases hgd2
    obtain ⟨q1, _⟩ := dict_ep hdt hdt2
    have q2 : es2 = es := by simpa using q1
    subst q2
    exact ⟨en, b, hen, hkey, rfl⟩
  done := by
    intro X hP hw hK hc i pins s σ H E I hf st hg
    subst hP hw hK
    obtain ⟨es, hd, hl, hi⟩ := hg
    obtain ⟨f0, f1, f2, f3, f4, f5⟩ := hf it (by simp)
    obtain ⟨od, hgd, hx, hdt⟩ := dx_get I hd
    exact next_key_end (I.ok.hd hc) st hgd hdt (by simpa using hl) hi fun h' eb => ⟨rfl, I.turned (t' := s.toks) (fun b ob hb e => eb b ob hb e) f0 f1 f3 f4 f5⟩
  self := fun A i s Q E st h => by
    refine wpAny_pyIter_slot st.typeIs PySem.F.slot_dict_keyiterator_iter (wpAny_call_entry PySem.F.slot_dict_keyiterator_iter st.typeIs PySem.F.entry_dict_keyiterator_iter ?_ (PySem.F.args_dict_keyiterator_iter_1 _))
    show wpAny _ _ (ret (.ref it)) _ _ s
    exact wpAny_pure ⟨_, rfl, "dict_keyiterator", _, st.typeIs, PySem.F.slot_dict_keyiterator_next.lookup, h⟩
end
section
variable {X : Cx} {tg e : Expr} {pos : Pos} {we : PE1}
theorem pi_X {td : TE} (he : PE X e td) : PI X tg e (fun σ H R => td σ H fun x H1 => ∃ d ep es, x = .ref d ∧ H1 d = some (DX d ep es) ∧ (d == sysModules) = false ∧ R (ItX d ep es.length) H1) := by
  refine ⟨fun pins s σ H R I h => ?_⟩
  refine thn (he.run pins s σ H _ I h) fun u s1 ⟨x, H1, I1, rx, d, ep, es, ex, hd, hs, q⟩ => ?_
  subst ex
  obtain rfl : u = Value.ref d := rx
  obtain ⟨od, hgd, hx, hdt⟩ := dx_get I1 hd
  refine iter_keys hs hgd hx hdt (pi_one (tk := s1.toks) I1 _ (turn_X _) ⟨_, Heap.get?_push_size _ rfl, rfl, ?_⟩ q)
  simp
abbrev wItX (w : PE1) : PI1 := fun r S W => w r S fun x S1 => match x with
  | .r (.loc n) => match S1[n]? with
    | some (.dct ep kvs) => W ⟨kvs.map (fun p => R.d p.1), fun S => S[n]? = some (.dct ep kvs)⟩ S1
    | _ => False
  | _ => False
theorem paired_get' {α β : Type} {R : α → β → Prop} : ∀ {xs : List α} {ys : List β} {i : Nat} {x : α}, Paired R xs ys → xs[i]? = some x → ∃ y, ys[i]? = some y ∧ R x y
  | _, _, _, _, .nil, e => by simp at e
  | _, _, 0, _, .cons h _, e => by simp at e; subst e; exact ⟨_, rfl, h⟩
  | _, _, i + 1, _, .cons _ t, e => by
    obtain ⟨x, h1, h2⟩ := paired_get' (i := i) t (by simpa using e)
    exact ⟨x, by simpa using h1, h2⟩
theorem wi_X (he : WE X e we) : WI X tg e (wItX we) := ⟨piImp (pi_X he.pe) fun s H R ⟨m, r, S, W, hE, hS, hw, hf⟩ => ⟨m, r, S, _, hE, hS, hw, fun x S1 v m1 H1 h1 g1 r1 q1 => by
  split at h1
  · rename_i n
    split at h1
    · rename_i ep kvs e1
      obtain ⟨a, k1, rfl⟩ := q1
      obtain ⟨a', k1', es, ho, hs, hz, pr, hn⟩ := r1.at_ n _ e1
      rw [k1] at k1'; cases k1'
      refine ⟨a, ep, es, rfl, ho, hs, hf _ S1 m1 H1 _ h1 g1 r1 ⟨fun i m2 H2 S2 g2 r2 hc => ?_⟩⟩
      have k2 := g2.pre n a k1
      obtain ⟨a2, k3, es2, ho2, _, _, pr2, _⟩ := r2.at_ n _ hc
      rw [k2] at k3; cases k3
      have l1 : kvs.length = es.length := Paired.length pr
      have l2 : kvs.length = es2.length := Paired.length pr2
      refine ⟨fun x ex => ?_, fun ex => ⟨es2, ho2, by omega, ?_⟩⟩
      · rw [List.getElem?_map, Option.map_eq_some_iff] at ex
        obtain ⟨p, hp, rfl⟩ := ex
        obtain ⟨en, hen, b, k, hb, _, _, _, hrep, _⟩ := paired_get' pr2 hp
        refine ⟨⟨es2, ho2, by omega, en, b, hen, hb⟩, fun v H' ⟨e2, hv⟩ => ?_⟩
        subst e2
        obtain ⟨en', b', he', hb', rfl⟩ := hv es2 ho2
        rw [hen] at he'; cases he'
        rw [hb] at hb'; cases hb'
        exact ⟨Grow.refl, r2, hrep⟩
      · have := List.getElem?_eq_none_iff.mp ex
        rw [List.length_map] at this
        show es.length ≤ i
        omega
    · exact h1.elim
  · exact h1.elim⟩⟩
/-! ### d.get(k, c) -/
abbrev wGetK (wo wk wc : PE1) : PE1 := fun r S W => wo r S fun x S1 => match x with
  | .r (.loc n) => match S1[n]? with
    | some (.dk _) => wk r S1 fun y S2 => wc r S2 fun z S3 => match y, z with
      | .r (.d k), .r (.d c) => match S3[n]?, keyK k with
        | some (.dk kvs), some kk => W (.r (.d ((getK kvs kk).getD c))) S3
        | _, _ => False
      | _, _ => False
    | _ => False
  | _ => False
/-! ### sorted(d.items()) -/
abbrev pairsD (kvs : List (Key × D)) : List D := kvs.map fun p => .tup [keyD p.1, p.2]
abbrev wItemsS (wo : PE1) : PE1 := fun r S W => wo r S fun x S1 => match x with
  | .r (.loc n) => match S1[n]? with
    | some (.dk kvs) => (PySem.W.AllAlike ((pairsD kvs).map py) ∧ PySem.W.Sortable ((pairsD kvs).map py) ∧ ∀ d ∈ pairsD kvs, (py d).depth ≤ 50) ∧ W (.f (srtD (pairsD kvs))) S1
    | _ => False
  | _ => False
end
end Z
set_option Elab.async false
set_option linter.all false
set_option maxRecDepth 100000
set_option exponentiation.threshold 20000
/-! R45: groups of turns looked at. -/
namespace Z
open PySem PySem.Spec PyProof.Rows L2 RZ
/-! ### the first ones of their kind -/
section
variable {α : Type} [DecidableEq α]
def insG (ks : List α) (x : α) : List α := if x ∈ ks then ks else ks ++ [x]
def distG (l : List α) : List α := l.foldl insG []
theorem distG_snoc (l : List α) (x : α) : distG (l ++ [x]) = insG (distG l) x := by unfold distG; rw [List.foldl_append]; rfl
theorem snocG {P : List α → Prop} (h0 : P []) (h1 : ∀ l x, P l → P (l ++ [x])) (l : List α) : P l := by
  have : ∀ n (l : List α), l.length = n → P l := by
    intro n
    induction n with
    | zero => intro l h; rw [List.length_eq_zero_iff.mp h]; exact h0
    | succ n ih =>
      intro l h
      rcases List.eq_nil_or_concat l with rfl | ⟨ys, y, rfl⟩
      · simp at h
      · rw [List.concat_eq_append] at h ⊢
        exact h1 _ _ (ih ys (by simpa using h))
  exact this _ l rfl
theorem distG_mem (l : List α) : ∀ x, x ∈ distG l ↔ x ∈ l := by
  refine snocG (P := fun l => ∀ x, x ∈ distG l ↔ x ∈ l) (by simp [distG]) (fun l y ih x => ?_) l
  rw [distG_snoc]
  unfold insG
  split
  · rename_i h
    rw [ih]
    simp only [List.mem_append, List.mem_singleton]
    refine ⟨.inl, fun q => ?_⟩
    rcases q with q | rfl
    · exact q
    · exact (ih x).mp h
  · simp [ih]
theorem distG_nodup (l : List α) : (distG l).Nodup := by
  refine snocG (P := fun l => (distG l).Nodup) (by simp [distG]) (fun l x ih => ?_) l
  rw [distG_snoc]
  unfold insG
  split
  · exact ih
  · rename_i h
    rw [List.nodup_append]
    refine ⟨ih, by simp, fun a ha b hb => ?_⟩
    simp at hb; subst hb
    rintro rfl; exact h ha
end
/-! ### points in dicts -/
abbrev ptL (ps : List Pt) : List D := ps.map ptD
theorem pt_sort (ps : List Pt) : (PySem.W.AllAlike ((ptL ps).map py) ∧ PySem.W.Sortable ((ptL ps).map py)) ∧ ∀ d ∈ ptL ps, (py d).depth ≤ 50 := by
  refine ⟨⟨fun a ha b hb => ?_, .inl fun a ha => ?_⟩, fun d hd => ?_⟩
  · obtain ⟨x, hx, rfl⟩ := List.mem_map.mp ha
    obtain ⟨y, hy, rfl⟩ := List.mem_map.mp hb
    obtain ⟨f, hf, rfl⟩ := List.mem_map.mp hx
    obtain ⟨g, hg, rfl⟩ := List.mem_map.mp hy
    simp only [ptD, frD, py, pys, PySem.W.alike, PySem.W.alikeAll]
    rfl
  · obtain ⟨x, hx, rfl⟩ := List.mem_map.mp ha
    obtain ⟨f, hf, rfl⟩ := List.mem_map.mp hx
    exact ⟨_, _, rfl⟩
  · obtain ⟨f, hf, rfl⟩ := List.mem_map.mp hd
    simp [ptD, frD, py, pys, PyData.depth, PyData.depthAll]
def BP (p : Pt) : Prop := ∀ q ∈ qsOf p, BQ 600 q
theorem BP.tb {p : Pt} (h : BP p) {a : Fo} (o : OkF a) : TB a p := ⟨100, 2400, by decide, o.bd, PtB.of (h _ (by simp [qsOf])) (h _ (by simp [qsOf])) (h _ (by simp [qsOf]))⟩
def stay (fs : List Fo) (p : Pt) : List Fo := (fs.filter fun f => decide (rot f p = p)).map pln
end Z
set_option Elab.async false
set_option linter.all false
set_option maxRecDepth 100000
set_option maxHeartbeats 1000000
/-! Z25: zip of a tuple and a list. -/
namespace Z
open PySem PySem.Spec PyProof.Rows L2 RZ
section
variable {X : Cx} {e e2 : Expr} {ws : PA1} {pos : Pos}
/-! ### zip of two lists, of two tuples, of a tuple and a list -/
abbrev wZipX (ws : PA1) : PI1 := fun r S W => ws r S fun xs S1 => match xs with
  | [x, y] => match itOf S1 x, itOf S1 y with
    | some i, some j => ((isLst x = true → isLst y = true) ∧ allD i.items = true ∧ allD j.items = true) ∧ W ⟨prs i.items j.items, fun S => i.chk S ∧ j.chk S⟩ S1
    | _, _ => False
  | _ => False
end
end Z
set_option Elab.async false
set_option linter.all false
set_option maxRecDepth 100000
set_option exponentiation.threshold 20000
/-! R46: how often the turns of a group come back. -/
namespace Z
open PySem PySem.Spec PyProof.Rows L2 RZ
/-! ### turns of a finite group -/
theorem den_sq {m : Int} {e : Nat} (he : 0 < e) (hg : Int.gcd m e = 1) : (((m : Rat) / ((e : Int) : Rat)) * ((m : Rat) / ((e : Int) : Rat))).den = e * e := by
  have h0 : ((e : Int) : Rat) ≠ 0 := by exact_mod_cast (by omega : (e : Int) ≠ 0)
  have e1 : ((m : Rat) / ((e : Int) : Rat)) * ((m : Rat) / ((e : Int) : Rat)) = ((m * m : Int) : Rat) / (((e : Int) * (e : Int) : Int) : Rat) := by
    rw [Rat.intCast_mul, Rat.intCast_mul]; grind
  rw [e1]
  have pos : 0 < (e : Int) * (e : Int) := Int.mul_pos (by omega) (by omega)
  have d := made_den (t := m * m) (b := (e : Int) * (e : Int)) (by omega)
  rw [if_neg (by omega)] at d
  have g : Int.gcd (m * m) ((e : Int) * (e : Int)) = 1 := by
    have c : Nat.Coprime m.natAbs e := by simpa [Int.gcd] using hg
    have c2 : Nat.Coprime (m.natAbs * m.natAbs) (e * e) := (c.mul_left c).mul_right (c.mul_left c)
    have : Int.gcd (m * m) ((e : Int) * (e : Int)) = Nat.gcd (m.natAbs * m.natAbs) (e * e) := by
      simp only [Int.gcd, Int.natAbs_mul, Int.natAbs_natCast]
    rw [this]; exact c2
  rw [g] at d
  have f1 : ((e : Int) * (e : Int)).fdiv ((1 : Nat) : Int) = (e : Int) * (e : Int) := by simp
  rw [f1] at d
  exact_mod_cast d
theorem rat_nd (q : Rat) : q = (q.num : Rat) / ((q.den : Int) : Rat) := by
  rw [← Rat.divInt_eq_div]
  exact (Rat.num_divInt_den q).symm
theorem den_odd {q : Rat} (h : q.den % 2 = 1) : ((2 * q - 1) * (2 * q - 1)).den = q.den * q.den := by
  have h0 : ((q.den : Int) : Rat) ≠ 0 := by exact_mod_cast (by have := q.den_pos; omega : (q.den : Int) ≠ 0)
  have e : 2 * q - 1 = ((2 * q.num - (q.den : Int) : Int) : Rat) / ((q.den : Int) : Rat) := by
    conv => lhs; rw [rat_nd q]
    rw [Rat.intCast_sub, Rat.intCast_mul]; grind
  rw [e]
  refine den_sq q.den_pos ?_
  have c := q.reduced
  have : Int.gcd (2 * q.num - (q.den : Int)) (q.den : Int) ∣ 1 := by
    have a1 : (Int.gcd (2 * q.num - (q.den : Int)) (q.den : Int) : Int) ∣ (q.den : Int) := Int.gcd_dvd_right ..
    have a2 : (Int.gcd (2 * q.num - (q.den : Int)) (q.den : Int) : Int) ∣ 2 * q.num := by
      have := Int.dvd_add (Int.gcd_dvd_left (a := 2 * q.num - (q.den : Int)) (b := (q.den : Int))) a1
      simpa using this
    generalize Int.gcd (2 * q.num - (q.den : Int)) (q.den : Int) = d at *
    have b1 : d ∣ q.den := by exact_mod_cast a1
    have b2 : d ∣ 2 * q.num.natAbs := by
      have := Int.natAbs_dvd_natAbs.mpr a2
      rw [Int.natAbs_mul] at this
      simpa using this
    have od : d % 2 = 1 := by
      obtain ⟨k, hk⟩ := b1
      rw [hk] at h
      rcases Nat.mod_two_eq_zero_or_one d with z | z
      · rw [Nat.mul_mod, z] at h; simp at h
      · exact z
    have cd : Nat.Coprime d 2 := by
      show Nat.gcd d 2 = 1
      rw [Nat.gcd_comm, Nat.gcd_rec, od]; rfl
    have b3 : d ∣ q.num.natAbs := cd.dvd_of_dvd_mul_left b2
    have := Nat.dvd_gcd b3 b1
    rwa [c] at this
  exact Nat.dvd_one.mp this
theorem den_even {q : Rat} {c : Nat} (h : q.den = 2 * c) : ((2 * q - 1) * (2 * q - 1)).den = c * c := by
  have hp := q.den_pos
  have h0 : ((c : Int) : Rat) ≠ 0 := by exact_mod_cast (by omega : (c : Int) ≠ 0)
  have e : 2 * q - 1 = ((q.num - (c : Int) : Int) : Rat) / ((c : Int) : Rat) := by
    conv => lhs; rw [rat_nd q]
    rw [h, Rat.intCast_sub]
    have : (((2 * c : Nat) : Int) : Rat) = 2 * ((c : Int) : Rat) := by rw [Int.natCast_mul, Rat.intCast_mul]; rfl
    rw [this]; grind
  rw [e]
  refine den_sq (by omega) ?_
  have cp := q.reduced
  have : Int.gcd (q.num - (c : Int)) (c : Int) ∣ 1 := by
    have a1 : (Int.gcd (q.num - (c : Int)) (c : Int) : Int) ∣ (c : Int) := Int.gcd_dvd_right ..
    have a2 : (Int.gcd (q.num - (c : Int)) (c : Int) : Int) ∣ q.num := by
      have := Int.dvd_add (Int.gcd_dvd_left (a := q.num - (c : Int)) (b := (c : Int))) a1
      simpa using this
    generalize Int.gcd (q.num - (c : Int)) (c : Int) = d at *
    have b1 : d ∣ c := by exact_mod_cast a1
    have b2 : d ∣ q.num.natAbs := by
      have := Int.natAbs_dvd_natAbs.mpr a2
      simpa using this
    have cd : c ∣ q.den := ⟨2, by omega⟩
    have := Nat.dvd_gcd b2 (Nat.dvd_trans b1 cd)
    rwa [cp] at this
  exact Nat.dvd_one.mp this
/-- doubled again and again -/
def dbl (f : Fo) : Nat → Fo
  | 0 => f
  | n + 1 => pln (qmul (dbl f n) (dbl f n))
theorem rst_dbl {g : Fo} (hl : g.length = 4) (hz : ∃ x ∈ g, x ≠ 0) : rstQ (pln (qmul g g)) = (2 * rstQ g - 1) * (2 * rstQ g - 1) := by
  rw [rstQ_pln (qmul_len hl hl) (qmul_nz hl hl hz hz)]
  have hn := nrmI_ne hl hz
  have hq := nrmI_qmul hl hl
  have e1 : hd (qmul g g) = 2 * (hd g * hd g) - nrmI g := by
    obtain ⟨w, x, y, z, rfl⟩ := four_of hl
    simp only [qmul, hd, nrmI, List.headD_cons]; grind
  unfold rstQ
  rw [e1, hq]
  have h0 : (nrmI g : Rat) ≠ 0 := by exact_mod_cast hn
  generalize hd g * hd g = a at *
  generalize nrmI g = t at *
  simp only [Rat.intCast_mul, Rat.intCast_sub]
  have : ((2 : Int) : Rat) = 2 := rfl
  rw [this]
  grind
theorem den_grows {q : Rat} (h1 : q.den ≠ 1) (h2 : q.den ≠ 2) (h4 : q.den ≠ 4) : q.den < ((2 * q - 1) * (2 * q - 1)).den ∧ 9 ≤ ((2 * q - 1) * (2 * q - 1)).den := by
  have hp := q.den_pos
  rcases Nat.mod_two_eq_zero_or_one q.den with z | z
  · have e : q.den = 2 * (q.den / 2) := by omega
    rw [den_even e]
    generalize q.den / 2 = c at *
    have c3 : 3 ≤ c := by omega
    have := Nat.mul_le_mul_right c c3
    have := Nat.mul_le_mul c3 c3
    omega
  · rw [den_odd z]
    have c3 : 3 ≤ q.den := by omega
    have := Nat.mul_le_mul_right q.den c3
    have := Nat.mul_le_mul c3 c3
    omega
theorem den_few {ks : List Fo} (h24 : ks.length ≤ 24) (cl : ∀ a ∈ ks, ∀ b ∈ ks, pln (qmul b a) ∈ ks) (h4 : ∀ a ∈ ks, a.length = 4 ∧ ∃ x ∈ a, x ≠ 0) {f : Fo} (hf : f ∈ ks) : (rstQ f).den = 1 ∨ (rstQ f).den = 2 ∨ (rstQ f).den = 4 := by
  have mem : ∀ n, dbl f n ∈ ks := fun n => by
    induction n with
    | zero => exact hf
    | succ n ih => exact cl _ ih _ ih
  by_cases q : (rstQ f).den = 1 ∨ (rstQ f).den = 2 ∨ (rstQ f).den = 4
  · exact q
  · have no : ∀ n, (rstQ (dbl f n)).den ≠ 1 ∧ (rstQ (dbl f n)).den ≠ 2 ∧ (rstQ (dbl f n)).den ≠ 4 := fun n => by
      induction n with
      | zero => exact ⟨fun z => q (.inl z), fun z => q (.inr (.inl z)), fun z => q (.inr (.inr z))⟩
      | succ n ih =>
        obtain ⟨l, z⟩ := h4 _ (mem n)
        have := (den_grows ih.1 ih.2.1 ih.2.2).2
        rw [← rst_dbl l z] at this
        show (rstQ (pln (qmul (dbl f n) (dbl f n)))).den ≠ 1 ∧ (rstQ (pln (qmul (dbl f n) (dbl f n)))).den ≠ 2 ∧ (rstQ (pln (qmul (dbl f n) (dbl f n)))).den ≠ 4
        omega
    have up : ∀ n, (rstQ (dbl f n)).den < (rstQ (dbl f (n + 1))).den := fun n => by
      obtain ⟨l, z⟩ := h4 _ (mem n)
      have := (den_grows (no n).1 (no n).2.1 (no n).2.2).1
      rw [← rst_dbl l z] at this
      exact this
    have up' : ∀ m n, m < n → (rstQ (dbl f m)).den < (rstQ (dbl f n)).den := fun m n h => by
      induction h with
      | refl => exact up m
      | step _ ih => exact Nat.lt_trans ih (up _)
    have nd : ((List.range 25).map (dbl f)).Nodup := by
      rw [List.nodup_iff_pairwise_ne, List.pairwise_map]
      exact List.pairwise_lt_range.imp fun {a b} h e => by
        have := up' a b h
        rw [e] at this; omega
    have := nd.length_le_of_subset (l₂ := ks) fun x hx => by
      obtain ⟨n, _, rfl⟩ := List.mem_map.mp hx
      exact mem n
    simp at this
    omega
end Z
set_option Elab.async false
set_option linter.all false
set_option maxRecDepth 100000
set_option exponentiation.threshold 20000
/-! R47: counts of turns. -/
namespace Z
open PySem PySem.Spec PyProof.Rows L2 RZ
theorem in_pt (ps : List Pt) (p : Pt) : ((pys (ptL ps)).any fun z => PyData.eqv z (py (ptD p))) = decide (p ∈ ps) := by
  induction ps with
  | nil => simp [pys]
  | cons q ps ih =>
    simp only [ptL, List.map_cons, pys, List.any_cons, List.mem_cons, Bool.decide_or] at *
    rw [ih, eqv_pt]
    congr 1
    rw [decide_eq_decide]; exact eq_comm
end Z
set_option Elab.async false
set_option linter.all false
set_option maxRecDepth 100000
set_option exponentiation.threshold 20000
/-! R48: groups of turns: inverses, cosets, counting. -/
namespace Z
open PySem PySem.Spec PyProof.Rows L2 RZ
/-- a plain four -/
structure Pf (f : Fo) : Prop where
  len : f.length = 4
  nz : ∃ x ∈ f, x ≠ 0
  pl : pln f = f
theorem Pf.of {f : Fo} (l : f.length = 4) (z : ∃ x ∈ f, x ≠ 0) : Pf (pln f) := ⟨by rw [pln_len, l], pln_nz z, pln_pln z⟩
abbrev oneF : Fo := [1, 0, 0, 0]
theorem Pf.one : Pf oneF := ⟨rfl, ⟨1, by simp, by decide⟩, by decide⟩
/-- b first, then a -/
def mu (a b : Fo) : Fo := pln (qmul a b)
theorem Pf.mu {a b : Fo} (ha : Pf a) (hb : Pf b) : Pf (mu a b) := Pf.of (qmul_len ha.len hb.len) (qmul_nz ha.len hb.len ha.nz hb.nz)
def inv (a : Fo) : Fo := pln (qbk a)
theorem Pf.inv {a : Fo} (ha : Pf a) : Pf (inv a) := Pf.of (qbk_len ha.len) (qbk_nz ha.len ha.nz)
theorem mu_assoc {a b c : Fo} (ha : Pf a) (hb : Pf b) (hc : Pf c) : mu (mu a b) c = mu a (mu b c) := by
  unfold mu
  rw [pln_qmul_l (qmul_len ha.len hb.len) hc.len (qmul_nz ha.len hb.len ha.nz hb.nz) hc.nz, pln_qmul_r ha.len (qmul_len hb.len hc.len) ha.nz (qmul_nz hb.len hc.len hb.nz hc.nz), qmul_assoc ha.len hb.len hc.len]
theorem one_mu {a : Fo} (ha : Pf a) : mu oneF a = a := by unfold mu; rw [one_l ha.len, ha.pl]
theorem mu_one {a : Fo} (ha : Pf a) : mu a oneF = a := by unfold mu; rw [one_r ha.len, ha.pl]
theorem inv_mu {a : Fo} (ha : Pf a) : mu (inv a) a = oneF := by
  unfold mu inv
  rw [pln_qmul_l (qbk_len ha.len) ha.len (qbk_nz ha.len ha.nz) ha.nz, qmul_bk_l ha.len ha.nz]
theorem mu_inv {a : Fo} (ha : Pf a) : mu a (inv a) = oneF := by
  unfold mu inv
  rw [pln_qmul_r ha.len (qbk_len ha.len) ha.nz (qbk_nz ha.len ha.nz), qmul_bk_r ha.len ha.nz]
theorem mu_cancel {a b c : Fo} (ha : Pf a) (hb : Pf b) (hc : Pf c) (h : mu a b = mu a c) : b = c := by
  have := congrArg (mu (inv a)) h
  rw [← mu_assoc ha.inv ha hb, ← mu_assoc ha.inv ha hc, inv_mu ha, one_mu hb, one_mu hc] at this
  exact this
theorem mu_cancel_r {a b c : Fo} (ha : Pf a) (hb : Pf b) (hc : Pf c) (h : mu b a = mu c a) : b = c := by
  have this : mu (mu b a) (inv a) = mu (mu c a) (inv a) := by rw [h]
  rw [mu_assoc hb ha ha.inv, mu_assoc hc ha ha.inv, mu_inv ha, mu_one hb, mu_one hc] at this
  exact this
theorem inv_of {a b : Fo} (ha : Pf a) (hb : Pf b) (h : mu a b = oneF) : b = inv a := mu_cancel ha hb ha.inv (by rw [h, mu_inv ha])
theorem rot_mu {a b : Fo} (ha : Pf a) (hb : Pf b) (p : Pt) : rot (mu a b) p = rot a (rot b p) := by
  unfold mu
  rw [rot_pln (qmul_len ha.len hb.len) (qmul_nz ha.len hb.len ha.nz hb.nz), rot_comp hb.len ha.len]
theorem rot_inv {a : Fo} (ha : Pf a) (p : Pt) : rot (inv a) (rot a p) = p := by rw [← rot_mu ha.inv ha, inv_mu ha, rot_one]
theorem rot_inv' {a : Fo} (ha : Pf a) (p : Pt) : rot a (rot (inv a) p) = p := by rw [← rot_mu ha ha.inv, mu_inv ha, rot_one]
/-- a list that is a group -/
structure Grp (ks : List Fo) : Prop where
  pf : ∀ f ∈ ks, Pf f
  nd : ks.Nodup
  one : oneF ∈ ks
  cl : ∀ a ∈ ks, ∀ b ∈ ks, mu a b ∈ ks
/-- as many and no other: all of them -/
theorem all_of {l m : List Fo} (nl : l.Nodup) (h : l ⊆ m) (e : m.length ≤ l.length) : m ⊆ l := fun x hx => by
  by_cases q : x ∈ l
  · exact q
  · have : (x :: l).length ≤ m.length := List.Nodup.length_le_of_subset (List.nodup_cons.mpr ⟨q, nl⟩) fun y hy => by
      rcases List.mem_cons.mp hy with rfl | hy
      · exact hx
      · exact h hy
    rw [List.length_cons] at this
    omega
theorem nodup_mapF {l : List Fo} {f : Fo → Fo} (nd : l.Nodup) (h : ∀ a ∈ l, ∀ b ∈ l, f a = f b → a = b) : (l.map f).Nodup := by
  rw [List.nodup_iff_pairwise_ne, List.pairwise_map]
  rw [List.nodup_iff_pairwise_ne] at nd
  exact List.Pairwise.imp_of_mem (fun ha hb ne e => ne (h _ ha _ hb e)) nd
theorem Grp.inv {ks : List Fo} (g : Grp ks) {a : Fo} (ha : a ∈ ks) : inv a ∈ ks := by
  have pa := g.pf a ha
  have nd : (ks.map (mu a)).Nodup := nodup_mapF g.nd fun x hx y hy e => mu_cancel pa (g.pf x hx) (g.pf y hy) e
  have sub : ks.map (mu a) ⊆ ks := fun x hx => by
    obtain ⟨y, hy, rfl⟩ := List.mem_map.mp hx
    exact g.cl a ha y hy
  obtain ⟨b, hb, e⟩ := List.mem_map.mp (all_of nd sub (by rw [List.length_map]; exact Nat.le_refl _) g.one)
  rw [← inv_of pa (g.pf b hb) e]; exact hb
/-! ### counting by what a function answers -/
section
variable {α β : Type} [DecidableEq α] [DecidableEq β]
theorem sum_hit {qs : List β} (nd : qs.Nodup) {q : β} (h : q ∈ qs) : (qs.map fun r => if q = r then 1 else 0).sum = 1 := by
  induction qs with
  | nil => cases h
  | cons r qs ih =>
    rw [List.nodup_cons] at nd
    rw [List.map_cons, List.sum_cons]
    by_cases e : q = r
    · subst e
      rw [if_pos rfl]
      have : (qs.map fun r => if q = r then 1 else 0) = qs.map fun _ => 0 := List.map_congr_left fun r hr => by
        rw [if_neg]
        rintro rfl
        exact nd.1 hr
      rw [this]
      have z : ∀ l : List β, (l.map fun _ => 0).sum = 0 := fun l => by induction l with
        | nil => rfl
        | cons x l ih => rw [List.map_cons, List.sum_cons, ih]
      rw [z]
    · rw [if_neg e, ih nd.2 (by rcases List.mem_cons.mp h with z | z; exact absurd z e; exact z)]
theorem sum_add (qs : List β) (f g : β → Nat) : (qs.map fun r => f r + g r).sum = (qs.map f).sum + (qs.map g).sum := by
  induction qs with
  | nil => rfl
  | cons r qs ih => simp only [List.map_cons, List.sum_cons, ih]; omega
/-- as many as lie behind each answer -/
theorem count_by {qs : List β} (nd : qs.Nodup) (g : α → β) : ∀ l : List α, (∀ x ∈ l, g x ∈ qs) → l.length = (qs.map fun q => (l.filter fun x => decide (g x = q)).length).sum
  | [], _ => by
    have z : ∀ l : List β, (l.map fun _ => 0).sum = 0 := fun l => by induction l with
      | nil => rfl
      | cons x l ih => rw [List.map_cons, List.sum_cons, ih]
    simp [z]
  | x :: l, h => by
    have ih := count_by nd g l fun y hy => h y (List.mem_cons_of_mem _ hy)
    have e : (qs.map fun q => ((x :: l).filter fun x => decide (g x = q)).length) = qs.map fun q => (if g x = q then 1 else 0) + (l.filter fun x => decide (g x = q)).length := List.map_congr_left fun q _ => by
      by_cases z : g x = q
      · rw [List.filter_cons_of_pos (by simpa using z), if_pos z, List.length_cons]; omega
      · rw [List.filter_cons_of_neg (by simpa using z), if_neg z]; omega
    rw [e, sum_add, sum_hit nd (h x (by simp)), ← ih, List.length_cons]; omega
theorem sum_same (qs : List β) {f : β → Nat} {n : Nat} (h : ∀ q ∈ qs, f q = n) : (qs.map f).sum = qs.length * n := by
  induction qs with
  | nil => simp
  | cons q qs ih =>
    rw [List.map_cons, List.sum_cons, h q (by simp), ih fun r hr => h r (List.mem_cons_of_mem _ hr), List.length_cons, Nat.succ_mul]; omega
end
/-! ### points of a group -/
abbrev orbP (ks : List Fo) (p : Pt) : List Pt := distG (ks.map fun f => rot f p)
abbrev stabF (ks : List Fo) (p : Pt) : List Fo := ks.filter fun f => decide (rot f p = p)
theorem orb_mem {ks : List Fo} {p q : Pt} : q ∈ orbP ks p ↔ ∃ f ∈ ks, rot f p = q := by rw [distG_mem, List.mem_map]
theorem stab_mem {ks : List Fo} {p : Pt} {f : Fo} : f ∈ stabF ks p ↔ f ∈ ks ∧ rot f p = p := by rw [List.mem_filter, decide_eq_true_iff]
theorem fibre {ks : List Fo} (g : Grp ks) {p q : Pt} (h : q ∈ orbP ks p) : (ks.filter fun f => decide (rot f p = q)).length = (stabF ks p).length := by
  obtain ⟨f0, h0, e0⟩ := orb_mem.mp h
  have p0 := g.pf f0 h0
  refine Nat.le_antisymm ?_ ?_
  · have nd : ((ks.filter fun f => decide (rot f p = q)).map (mu (inv f0))).Nodup := nodup_mapF (g.nd.filter _) fun x hx y hy e => mu_cancel p0.inv (g.pf x (List.mem_filter.mp hx).1) (g.pf y (List.mem_filter.mp hy).1) e
    have := List.Nodup.length_le_of_subset (l₂ := stabF ks p) nd fun x hx => by
      obtain ⟨y, hy, rfl⟩ := List.mem_map.mp hx
      obtain ⟨h1, h2⟩ := List.mem_filter.mp hy
      have h2 := of_decide_eq_true h2
      refine stab_mem.mpr ⟨g.cl _ (g.inv h0) _ h1, ?_⟩
      rw [rot_mu p0.inv (g.pf y h1), h2, ← e0, rot_inv p0]
    rw [List.length_map] at this
    exact this
  · have nd : ((stabF ks p).map (mu f0)).Nodup := nodup_mapF (g.nd.filter _) fun x hx y hy e => mu_cancel p0 (g.pf x (stab_mem.mp hx).1) (g.pf y (stab_mem.mp hy).1) e
    have := List.Nodup.length_le_of_subset (l₂ := ks.filter fun f => decide (rot f p = q)) nd fun x hx => by
      obtain ⟨y, hy, rfl⟩ := List.mem_map.mp hx
      obtain ⟨h1, h2⟩ := stab_mem.mp hy
      refine List.mem_filter.mpr ⟨g.cl _ h0 _ h1, decide_eq_true ?_⟩
      rw [rot_mu p0 (g.pf y h1), h2, e0]
    rw [List.length_map] at this
    exact this
/-- as many images times as many that stay -/
theorem orb_stab {ks : List Fo} (g : Grp ks) (p : Pt) : (orbP ks p).length * (stabF ks p).length = ks.length := by
  have := count_by (distG_nodup (ks.map fun f => rot f p)) (fun f => rot f p) ks fun f hf => (distG_mem _ _).mpr (List.mem_map.mpr ⟨f, hf, rfl⟩)
  rw [this, sum_same _ fun q hq => fibre g hq]
/-- those that stay are a group -/
theorem Grp.stab {ks : List Fo} (g : Grp ks) (p : Pt) : Grp (stabF ks p) :=
  ⟨fun f hf => g.pf f (stab_mem.mp hf).1, g.nd.filter _, stab_mem.mpr ⟨g.one, rot_one p⟩, fun a ha b hb => by
    obtain ⟨a1, a2⟩ := stab_mem.mp ha
    obtain ⟨b1, b2⟩ := stab_mem.mp hb
    exact stab_mem.mpr ⟨g.cl a a1 b b1, by rw [rot_mu (g.pf a a1) (g.pf b b1), b2, a2]⟩⟩
end Z
set_option Elab.async false
set_option linter.all false
set_option maxRecDepth 100000
set_option exponentiation.threshold 20000
/-! R49: sorted lists of the same things; orbits of one turn; the closure is a group. -/
namespace Z
open PySem PySem.Spec PyProof.Rows L2 RZ
/-! ### sorted lists of the same things -/
theorem srt_perm {l m : List D} (p : l.Perm m) (inj : ∀ a ∈ l, ∀ b ∈ l, PySem.W.keyToks (py a) = PySem.W.keyToks (py b) → a = b) : srtD l = srtD m := by
  have T := PySem.W.sortLe_total (PyProof.Rows.listOrd PyProof.Rows.itemOrd) false (fun b : D => PySem.W.keyToks (py b))
  have tt : ∀ a b : D, (PySem.W.dataLe false py a b || PySem.W.dataLe false py b a) = true := fun a b => by
    rcases T.total a b with q | q
    · rw [show PySem.W.dataLe false py a b = true from q]; rfl
    · rw [show PySem.W.dataLe false py b a = true from q, Bool.or_true]
  have s1 := List.pairwise_mergeSort (le := PySem.W.dataLe false py) T.trans tt l
  have s2 := List.pairwise_mergeSort (le := PySem.W.dataLe false py) T.trans tt m
  have pl : (srtD l).Perm l := List.mergeSort_perm _ _
  have pm : (srtD m).Perm m := List.mergeSort_perm _ _
  refine List.Perm.eq_of_pairwise (le := fun a b : D => PySem.W.dataLe false py a b = true) (fun a b ha hb h k => ?_) s1 s2 (pl.trans (p.trans pm.symm))
  have ha := pl.mem_iff.mp ha
  have hb := p.mem_iff.mpr (pm.mem_iff.mp hb)
  refine inj a ha b hb ?_
  have h' : PyProof.Rows.lexLt PyProof.Rows.itemOrd (PySem.W.keyToks (py b)) (PySem.W.keyToks (py a)) = false := by
    have : (!PyProof.Rows.lexLt PyProof.Rows.itemOrd (PySem.W.keyToks (py b)) (PySem.W.keyToks (py a))) = true := h
    simpa using this
  have k' : PyProof.Rows.lexLt PyProof.Rows.itemOrd (PySem.W.keyToks (py a)) (PySem.W.keyToks (py b)) = false := by
    have : (!PyProof.Rows.lexLt PyProof.Rows.itemOrd (PySem.W.keyToks (py a)) (PySem.W.keyToks (py b))) = true := k
    simpa using this
  exact (PyProof.Rows.listOrd PyProof.Rows.itemOrd).total _ _ k' h'
theorem toks_ints : ∀ {f g : List Int}, PySem.W.keyToksAll (f.map PyData.int) = PySem.W.keyToksAll (g.map PyData.int) → f = g
  | [], [], _ => rfl
  | [], b :: g, h => by simp [PySem.W.keyToksAll] at h
  | a :: f, [], h => by simp [PySem.W.keyToksAll] at h
  | a :: f, b :: g, h => by
    simp only [List.map_cons, PySem.W.keyToksAll, PySem.W.keyToks, List.cons_append, List.nil_append, List.cons.injEq, Sum.inl.injEq, true_and] at h
    rw [h.1, toks_ints h.2]
theorem srt_ptP {l m : List Pt} (p : l.Perm m) : srtD (ptL l) = srtD (ptL m) := srt_perm (p.map _) fun a ha b hb h => by
  obtain ⟨f, _, rfl⟩ := List.mem_map.mp ha
  obtain ⟨g, _, rfl⟩ := List.mem_map.mp hb
  obtain ⟨f1, f2, f3⟩ := f
  obtain ⟨g1, g2, g3⟩ := g
  simp only [ptD, frD, py, pys, PySem.W.keyToks, PySem.W.keyToksAll, List.cons_append, List.nil_append, List.cons.injEq, Sum.inl.injEq, true_and, and_true] at h
  obtain ⟨a1, a2, a3, a4, a5, a6⟩ := h
  rw [Rat.ext a1 (Int.ofNat.inj a2), Rat.ext a3 (Int.ofNat.inj a4), Rat.ext a5 (Int.ofNat.inj a6)]
/-! ### orbits of one turn -/
end Z
set_option Elab.async false
set_option linter.all false
set_option maxRecDepth 100000
set_option exponentiation.threshold 20000
/-! R50: what some turns lead to is a group. -/
namespace Z
open PySem PySem.Spec PyProof.Rows L2 RZ
/-! ### the other way round -/
/-! ### sorted points -/
open Classical in
noncomputable def unP (d : D) : Pt := if h : ∃ p, d = ptD p then h.choose else (0, 0, 0)
theorem unP_pt (p : Pt) : unP (ptD p) = p := by
  have h : ∃ q, ptD p = ptD q := ⟨p, rfl⟩
  unfold unP
  rw [dif_pos h]
  exact (ptD_inj.mp h.choose_spec).symm
theorem srt_pt (ws : List Pt) : ∃ us : List Pt, srtD (ptL ws) = ptL us ∧ us.Perm ws := by
  have p : (srtD (ptL ws)).Perm (ptL ws) := List.mergeSort_perm _ _
  refine ⟨(srtD (ptL ws)).map unP, ?_, ?_⟩
  · have : ∀ l : List D, (∀ d ∈ l, ∃ f : Pt, d = ptD f) → l = ptL (l.map unP) := by
      intro l
      induction l with
      | nil => intro _; rfl
      | cons d l ih =>
        intro h
        obtain ⟨f, rfl⟩ := h d (by simp)
        rw [List.map_cons, unP_pt, ptL, List.map_cons, ← ptL, ← ih fun e he => h e (by simp [he])]
    refine this _ fun d hd => ?_
    obtain ⟨f, _, rfl⟩ := List.mem_map.mp (p.mem_iff.mp hd)
    exact ⟨f, rfl⟩
  · have := p.map unP
    have e : (ptL ws).map unP = ws := by
      rw [ptL, List.map_map]
      conv => rhs; rw [← List.map_id ws]
      exact List.map_congr_left fun f _ => unP_pt f
    rw [e] at this
    exact this
def BP1 (p : Pt) : Prop := ∀ q ∈ qsOf p, BQ 100 q
theorem BP1.rot {p : Pt} (h : BP1 p) {f : Fo} (o : OkF f) : BP (rot f p) := fun q hq => (rot_bq o.len o.nz o.bd h q hq).mono (by decide)
end Z
set_option Elab.async false
set_option linter.all false
set_option maxRecDepth 100000
/-! Z26: all(xs), any(xs) of a list of truths. -/
namespace Z
open PySem PySem.Spec PyProof.Rows L2 RZ
/-- the truths of a row -/
def blsOf : List D → Option (List Bool)
  | [] => some []
  | .bl i :: r => (blsOf r).map (i :: ·)
  | _ :: _ => none
theorem blsOf_map : ∀ ns : List Bool, blsOf (ns.map D.bl) = some ns
  | [] => rfl
  | n :: ns => by simp [blsOf, blsOf_map ns]
theorem bls_eq : ∀ {xs : List D} {ns : List Bool}, blsOf xs = some ns → xs = ns.map D.bl
  | [], ns, h => by simp [blsOf] at h; subst h; rfl
  | .bl i :: xs, ns, h => by
    simp only [blsOf, Option.map_eq_some_iff] at h
    obtain ⟨r, h1, rfl⟩ := h
    rw [bls_eq h1]; rfl
  | .non :: _, _, h => by cases h
  | .int _ :: _, _, h => by cases h
  | .str _ :: _, _, h => by cases h
  | .tup _ :: _, _, h => by cases h
  | .lst _ :: _, _, h => by cases h
theorem repDs_toBls {K : PySem.W.Frag} {H : Hp} : ∀ {ns : List Bool} {vs : List V}, RepDs K H (ns.map D.bl) vs → vs = ns.map V.bl
  | [], _, h => h
  | n :: ns, _, ⟨v, r, e, h, t⟩ => by subst e; rw [repDs_toBls t, show v = V.bl n from h]; rfl
section
variable {X : Cx}
abbrev fAll : PF := fun xs S W => match xs with
  | [x] => match isLst x, (seqOf S x).bind blsOf with
    | true, some ns => W (.r (.d (.bl (ns.all id)))) S
    | _, _ => False
  | _ => False
theorem f_all (hc : X.calm = true) : FnP X (.builtin "all") fAll := by
  refine ⟨_, cr_all hc, fun xs S W vs m H H0 Q r q w f => ?_⟩
  unfold fAll at w
  split at w
  · rename_i x
    obtain ⟨v, rfl, q1⟩ := q.one
    split at w
    · rename_i ns hl e
      rw [Option.bind_eq_some_iff] at e
      obtain ⟨ys, e1, e2⟩ := e
      rw [bls_eq e2] at e1
      obtain ⟨p, us, rfl, h1, h2⟩ := q1.seq r e1
      rw [if_pos hl] at h2
      rw [repDs_toBls h1] at h2
      exact ⟨p, ns, rfl, h2, f.here r (x := .r (.d (.bl _))) rfl w⟩
    · exact w.elim
  · exact w.elim
end
end Z
set_option Elab.async false
set_option linter.all false
set_option maxRecDepth 100000
/-! R51: the common bottom of points. -/
namespace Z
open PySem PySem.Spec PyProof.Rows L2 RZ
def cbq (b : Nat) (q : Rat) : Nat := b * (q.den / Nat.gcd b q.den)
def cbp (b : Nat) (p : Pt) : Nat := (qsOf p).foldl cbq b
def cbot (ps : List Pt) : Nat := ps.foldl cbp 1
theorem cbq_lcm (b : Nat) (q : Rat) : cbq b q = Nat.lcm b q.den := by
  unfold cbq Nat.lcm
  rw [Nat.mul_div_assoc _ (Nat.gcd_dvd_right _ _)]
theorem cbqs_dvd {L : Nat} : ∀ {qs : List Rat} {b : Nat}, b ∣ L → (∀ q ∈ qs, q.den ∣ L) → qs.foldl cbq b ∣ L
  | [], b, hb, _ => hb
  | q :: qs, b, hb, h => cbqs_dvd (qs := qs) (b := cbq b q) (by rw [cbq_lcm]; exact Nat.lcm_dvd hb (h q (by simp))) fun q' h' => h q' (by simp [h'])
theorem cbqs_up : ∀ (qs : List Rat) (b : Nat), b ∣ qs.foldl cbq b ∧ ∀ q ∈ qs, q.den ∣ qs.foldl cbq b
  | [], b => ⟨Nat.dvd_refl _, by simp⟩
  | q :: qs, b => by
    obtain ⟨h1, h2⟩ := cbqs_up qs (cbq b q)
    have e := cbq_lcm b q
    refine ⟨Nat.dvd_trans (e ▸ Nat.dvd_lcm_left _ _) h1, fun q' h' => ?_⟩
    rcases List.mem_cons.mp h' with rfl | h'
    · exact Nat.dvd_trans (e ▸ Nat.dvd_lcm_right _ _) h1
    · exact h2 q' h'
theorem cbps_dvd {L : Nat} : ∀ {ps : List Pt} {b : Nat}, b ∣ L → (∀ p ∈ ps, ∀ q ∈ qsOf p, q.den ∣ L) → ps.foldl cbp b ∣ L
  | [], b, hb, _ => hb
  | p :: ps, b, hb, h => cbps_dvd (ps := ps) (b := cbp b p) (cbqs_dvd hb (h p (by simp))) fun q' h' => h q' (by simp [h'])
theorem cbps_up : ∀ (ps : List Pt) (b : Nat), b ∣ ps.foldl cbp b ∧ ∀ p ∈ ps, ∀ q ∈ qsOf p, q.den ∣ ps.foldl cbp b
  | [], b => ⟨Nat.dvd_refl _, by simp⟩
  | p :: ps, b => by
    obtain ⟨h1, h2⟩ := cbps_up ps (cbp b p)
    obtain ⟨k1, k2⟩ := cbqs_up (qsOf p) b
    refine ⟨Nat.dvd_trans k1 h1, fun p' h' q hq => ?_⟩
    rcases List.mem_cons.mp h' with rfl | h'
    · exact Nat.dvd_trans (k2 q hq) h1
    · exact h2 p' h' q hq
theorem cbot_dvd {L : Nat} {ps : List Pt} (h : ∀ p ∈ ps, ∀ q ∈ qsOf p, q.den ∣ L) : cbot ps ∣ L := cbps_dvd (Nat.one_dvd _) h
theorem cbot_up {ps : List Pt} {p : Pt} (hp : p ∈ ps) {q : Rat} (hq : q ∈ qsOf p) : q.den ∣ cbot ps := (cbps_up ps 1).2 p hp q hq
/-- the common bottom -/
def spCbot : SpZ := fun rs S W => match rs, S with
  | [.loc 0], [.lst xs] => ∃ (ps : List Pt) (L : Nat), xs = ptL ps ∧ 0 < L ∧ Bd 200 (L : Int) ∧ (∀ p ∈ ps, ∀ q ∈ qsOf p, q.den ∣ L) ∧ W (.d (.int (cbot ps))) [.lst xs]
  | _, _ => False
/-- f leads each of some points to one of them -/
def keepsB (ps : List Pt) (f : Fo) : Bool := decide (∀ p ∈ ps, rot f p ∈ ps)
/-- two ways in no one row -/
def spTwoApart : SpZ := fun rs S W => match rs, S with
  | [.loc 0], [.lst xs] => ∃ vs : List (List Int), xs = vs.map (fun v => .tup (v.map D.int)) ∧ (∀ v ∈ vs, v.length = 3 ∧ ∀ x ∈ v, Bd 100 x) ∧
      ((∀ v ∈ vs, ∀ u ∈ vs, crs v u = [0, 0, 0]) → W (.d .non) [.lst xs]) ∧
      (∀ v ∈ vs, ∀ u ∈ vs, crs v u ≠ [0, 0, 0] → W (.d (.tup [.tup (v.map D.int), .tup (u.map D.int)])) [.lst xs])
  | _, _ => False
end Z
set_option Elab.async false
set_option linter.all false
set_option maxRecDepth 100000
/-! R52: turns that keep points (plain law of keeps). -/
namespace Z
open PySem PySem.Spec PyProof.Rows L2 RZ
def wayOf (L : Nat) (p : Pt) : List Int := [topOf L p.1, topOf L p.2.1, topOf L p.2.2]
theorem map_mul_inj {k : Int} (hk : k ≠ 0) : ∀ {a b : List Int}, a.map (k * ·) = b.map (k * ·) → a = b
  | [], [], _ => rfl
  | x :: a, y :: b, h => by
    simp only [List.map_cons, List.cons.injEq] at h
    rw [Int.eq_of_mul_eq_mul_left hk h.1, map_mul_inj hk h.2]
theorem led_same {f a c : List Int} (lf : f.length = 4) (la : a.length = 3) (lc : c.length = 3) (zf : ∃ n ∈ f, n ≠ 0) (za : ∃ n ∈ a, n ≠ 0) (zc : ∃ n ∈ c, n ≠ 0) (e : dt a a = dt c c) :
    ledsTo f a c = true ↔ spn f a = c.map (nrmI f * ·) := by
  have A := dt_pos lc zc
  rw [leads_iff lf la lc zf za zc (s := dt c c) (Int.le_of_lt A) (by rw [e])]
  have e2 : c.map ((nrmI f * dt c c) * ·) = (c.map (nrmI f * ·)).map (dt c c * ·) := by
    rw [List.map_map]
    refine List.map_congr_left fun x _ => ?_
    show nrmI f * dt c c * x = dt c c * (nrmI f * x)
    grind
  rw [e2]
  exact ⟨fun h => map_mul_inj (by omega) h, fun h => by rw [h]⟩
theorem top_iff {N a : Int} {L : Nat} {q : Rat} (hN : N ≠ 0) (L0 : 0 < L) (hd : q.den ∣ L) : (a : Rat) / ((N * (L : Int) : Int) : Rat) = q ↔ a = N * topOf L q := by
  have e := topOf_eq L0 hd
  have hb : ((N * (L : Int) : Int) : Rat) ≠ 0 := by
    have : N * (L : Int) ≠ 0 := Int.mul_ne_zero hN (by omega)
    exact_mod_cast this
  have e2 : ((N * topOf L q : Int) : Rat) = q * ((N * (L : Int) : Int) : Rat) := by
    simp only [Rat.intCast_mul, e, Rat.intCast_natCast]
    grind
  constructor
  · intro h
    have h2 : (a : Rat) = q * ((N * (L : Int) : Int) : Rat) := by
      rw [← h, Rat.div_mul_cancel hb]
    rw [← e2] at h2
    exact_mod_cast h2
  · intro h
    rw [h, e2, Rat.mul_div_cancel hb]
theorem rot_spn {f : Fo} (lf : f.length = 4) (zf : ∃ n ∈ f, n ≠ 0) {p q : Pt} {L : Nat} (L0 : 0 < L) (dp : ∀ z ∈ qsOf p, z.den ∣ L) (dq : ∀ z ∈ qsOf q, z.den ∣ L) :
    rot f p = q ↔ spn f (wayOf L p) = (wayOf L q).map (nrmI f * ·) := by
  have N : nrmI f ≠ 0 := nrmI_ne lf zf
  rw [← ptD_inj, rot_rows lf zf L0 (dp _ (by simp [qsOf])) (dp _ (by simp [qsOf])) (dp _ (by simp [qsOf]))]
  have q1 := dq q.1 (by simp [qsOf])
  have q2 := dq q.2.1 (by simp [qsOf])
  have q3 := dq q.2.2 (by simp [qsOf])
  generalize nrmI f = n at *
  obtain ⟨w, x, y, z, rfl⟩ := four_of lf
  simp only [rowsI, ptD, List.map_cons, List.map_nil, D.tup.injEq, List.cons.injEq, frD_inj, and_true, top_iff N L0 q1, top_iff N L0 q2, top_iff N L0 q3, spn, wayOf, dt, dotI]
theorem spn_same {f a b c d : List Int} (lf : f.length = 4) (zf : ∃ n ∈ f, n ≠ 0) (la : a.length = 3) (lb : b.length = 3) (lc : c.length = 3) (ld : d.length = 3) (h1 : spn f a = c.map (nrmI f * ·)) (h2 : spn f b = d.map (nrmI f * ·)) : dt a b = dt c d := by
  have N : nrmI f ≠ 0 := nrmI_ne lf zf
  have e := spn_dt lf la lb
  rw [h1, h2] at e
  generalize nrmI f = n at *
  obtain ⟨x, y, z, rfl⟩ := three_of lc
  obtain ⟨t, u, v, rfl⟩ := three_of ld
  simp only [List.map_cons, List.map_nil] at e
  have e2 : n * n * dt [x, y, z] [t, u, v] = n * n * dt a b := by
    rw [← e]
    simp only [dt]
    grind
  exact (Int.eq_of_mul_eq_mul_left (Int.mul_ne_zero N N) e2).symm
theorem crs_sq {a b : List Int} (la : a.length = 3) (lb : b.length = 3) : dt (crs a b) (crs a b) = dt a a * dt b b - dt a b * dt a b := by
  obtain ⟨x, y, z, rfl⟩ := three_of la
  obtain ⟨t, u, v, rfl⟩ := three_of lb
  simp only [crs, dt]
  grind
theorem crs_same {a b c d : List Int} (la : a.length = 3) (lb : b.length = 3) (lc : c.length = 3) (ld : d.length = 3) (e1 : dt a a = dt c c) (e2 : dt b b = dt d d) (e3 : dt a b = dt c d) (h : ∃ n ∈ crs a b, n ≠ 0) : ∃ n ∈ crs c d, n ≠ 0 := by
  have p := dt_pos (crs_len la lb) h
  rw [crs_sq la lb, e1, e2, e3, ← crs_sq lc ld] at p
  have l := crs_len lc ld
  generalize crs c d = k at *
  obtain ⟨x, y, z, rfl⟩ := three_of l
  by_cases hx : x = 0
  · by_cases hy : y = 0
    · by_cases hz : z = 0
      · subst hx hy hz
        exact absurd p (by decide)
      · exact ⟨z, by simp, hz⟩
    · exact ⟨y, by simp, hy⟩
  · exact ⟨x, by simp, hx⟩
theorem betw_same {a b c d : List Int} {s t : Nat} (hs : (s : Int) = dt a a) (ht : (t : Int) = dt b b) (e1 : dt a a = dt c c) (e2 : dt b b = dt d d) (e3 : dt a b = dt c d) : between a b c d s t := by
  unfold between
  rw [hs, ht, e1, e2, e3]
  grind
theorem led_rot {F : Fo} (lf : F.length = 4) (zf : ∃ n ∈ F, n ≠ 0) {p q : Pt} {L : Nat} (L0 : 0 < L) (dp : ∀ z ∈ qsOf p, z.den ∣ L) (dq : ∀ z ∈ qsOf q, z.den ∣ L)
    (za : ∃ n ∈ wayOf L p, n ≠ 0) (zc : ∃ n ∈ wayOf L q, n ≠ 0) (e : dt (wayOf L p) (wayOf L p) = dt (wayOf L q) (wayOf L q)) : ledsTo F (wayOf L p) (wayOf L q) = true ↔ rot F p = q := by
  rw [led_same lf rfl rfl zf za zc e, rot_spn lf zf L0 dp dq]
theorem rot_dt {F : Fo} (lf : F.length = 4) (zf : ∃ n ∈ F, n ≠ 0) {p q r t : Pt} {L : Nat} (L0 : 0 < L) (dp : ∀ z ∈ qsOf p, z.den ∣ L) (dq : ∀ z ∈ qsOf q, z.den ∣ L) (dr : ∀ z ∈ qsOf r, z.den ∣ L) (dt' : ∀ z ∈ qsOf t, z.den ∣ L)
    (h1 : rot F p = q) (h2 : rot F r = t) : dt (wayOf L p) (wayOf L r) = dt (wayOf L q) (wayOf L t) :=
  spn_same lf zf rfl rfl rfl rfl ((rot_spn lf zf L0 dp dq).mp h1) ((rot_spn lf zf L0 dr dt').mp h2)
/-- two turns that lead two points in no one row alike are one -/
theorem rot_only {F G : Fo} (lf : F.length = 4) (zf : ∃ n ∈ F, n ≠ 0) (lg : G.length = 4) (zg : ∃ n ∈ G, n ≠ 0) {p q r t : Pt} {L : Nat} (L0 : 0 < L) (dp : ∀ z ∈ qsOf p, z.den ∣ L) (dq : ∀ z ∈ qsOf q, z.den ∣ L) (dr : ∀ z ∈ qsOf r, z.den ∣ L) (dt' : ∀ z ∈ qsOf t, z.den ∣ L)
    (h : ∃ n ∈ crs (wayOf L p) (wayOf L r), n ≠ 0) (f1 : rot F p = q) (f2 : rot F r = t) (g1 : rot G p = q) (g2 : rot G r = t) : pln F = pln G := by
  have ea := rot_dt lf zf L0 dp dq dp dq f1 f1
  have eb := rot_dt lf zf L0 dr dt' dr dt' f2 f2
  have eab := rot_dt lf zf L0 dp dq dr dt' f1 f2
  have hc := crs_same rfl rfl rfl rfl ea eb eab h
  have za := crs_nz_l rfl rfl h
  have zb := crs_nz_l rfl rfl (crs_flip rfl rfl h)
  have zc := crs_nz_l rfl rfl hc
  have zd := crs_nz_l rfl rfl (crs_flip rfl rfl hc)
  have F1 := (led_rot lf zf L0 dp dq za zc ea).mpr f1
  have F2 := (led_rot lf zf L0 dr dt' zb zd eb).mpr f2
  have G1 := (led_rot lg zg L0 dp dq za zc ea).mpr g1
  have G2 := (led_rot lg zg L0 dr dt' zb zd eb).mpr g2
  exact led_only (a := wayOf L p) (b := wayOf L r) (c := wayOf L q) (d := wayOf L t) lf lg rfl rfl rfl rfl zf zg zc h za zb zd F1 F2 G1 G2
/-- just the plain turns that lead each of some points to one of them -/
def KeepL (ps : List Pt) (ws : List Fo) : Prop := ws.Nodup ∧ ∀ f, f ∈ ws ↔ (f.length = 4 ∧ (∃ n ∈ f, n ≠ 0) ∧ pln f = f ∧ keepsB ps f = true)
/-- a plain four -/
def PlF (f : Fo) : Prop := f.length = 4 ∧ (∃ n ∈ f, n ≠ 0) ∧ pln f = f
structure FoundJ (p r : Pt) (Dn : Pt → Pt → Prop) (gs : List Fo) : Prop where
  nd : gs.Nodup
  pl : ∀ f ∈ gs, PlF f ∧ ∀ x ∈ f, Bd 2000 x
  al : ∀ q t, Dn q t → ∀ F, PlF F → rot F p = q → rot F r = t → F ∈ gs
theorem mem_insF {gs : List Fo} {f x : Fo} : x ∈ insF gs f ↔ x ∈ gs ∨ x = f := by
  unfold insF
  split
  · rename_i h
    exact ⟨Or.inl, fun k => k.elim id fun e => e ▸ h⟩
  · simp
theorem FoundJ.put {p r q t : Pt} {Dn : Pt → Pt → Prop} {gs : List Fo} (h : FoundJ p r Dn gs) {F : Fo} (pF : PlF F) (bF : ∀ x ∈ F, Bd 2000 x) (on : ∀ G, PlF G → rot G p = q → rot G r = t → G = F) : FoundJ p r (fun a b => Dn a b ∨ (a = q ∧ b = t)) (insF gs F) where
  nd := by
    unfold insF
    split
    · exact h.nd
    · rename_i hn
      exact List.nodup_append.mpr ⟨h.nd, by simp, fun a ha b hb => by
        obtain rfl : b = F := by simpa using hb
        rintro rfl
        exact hn ha⟩
  pl := fun f hf => (mem_insF.mp hf).elim (h.pl f) fun e => e ▸ ⟨pF, bF⟩
  al := fun a b hab G pG g1 g2 => mem_insF.mpr <| hab.elim (fun k => .inl (h.al a b k G pG g1 g2)) fun k => .inr (on G pG (g1.trans k.1) (g2.trans k.2))
theorem FoundJ.skip {p r q t : Pt} {Dn : Pt → Pt → Prop} {gs : List Fo} (h : FoundJ p r Dn gs) (no : ∀ G, PlF G → rot G p = q → rot G r = t → False) : FoundJ p r (fun a b => Dn a b ∨ (a = q ∧ b = t)) gs where
  nd := h.nd
  pl := h.pl
  al := fun a b hab G pG g1 g2 => hab.elim (fun k => h.al a b k G pG g1 g2) fun k => (no G pG (g1.trans k.1) (g2.trans k.2)).elim
theorem FoundJ.weaken {p r : Pt} {Dn Dm : Pt → Pt → Prop} {gs : List Fo} (h : FoundJ p r Dn gs) (k : ∀ a b, Dm a b → Dn a b) : FoundJ p r Dm gs := ⟨h.nd, h.pl, fun a b hab => h.al a b (k a b hab)⟩
/-- those of the found that keep all points -/
theorem FoundJ.keep {ps : List Pt} {p r : Pt} {gs : List Fo} (h : FoundJ p r (fun a b => a ∈ ps ∧ b ∈ ps) gs) (hp : p ∈ ps) (hr : r ∈ ps) : KeepL ps (gs.filter fun f => keepsB ps f) := by
  refine ⟨h.nd.filter _, fun f => ?_⟩
  rw [List.mem_filter]
  constructor
  · rintro ⟨h1, h2⟩
    obtain ⟨⟨a, b, c⟩, _⟩ := h.pl f h1
    exact ⟨a, b, c, h2⟩
  · rintro ⟨a, b, c, d⟩
    have k : ∀ p ∈ ps, rot f p ∈ ps := by unfold keepsB at d; exact of_decide_eq_true d
    exact ⟨h.al _ _ ⟨k p hp, k r hr⟩ f ⟨a, b, c⟩ rfl rfl, d⟩
end Z
set_option Elab.async false
set_option linter.all false
set_option maxRecDepth 100000
/-! R53: what keeps few small points is a group of at most 24 turns. -/
namespace Z
open PySem PySem.Spec PyProof.Rows L2 RZ
abbrev V3 := Int × Int × Int
def dv (a b : V3) : Int := a.1 * b.1 + a.2.1 * b.2.1 + a.2.2 * b.2.2
/-! ### pairs of one product -/
def degV (c : Int) (v : V3) (l : List V3) : Nat := (l.filter fun t => dv v t == c).length
def chk (c : Int) : List V3 → List V3 → Nat → Bool
  | [], _, k => decide (k ≤ 12)
  | v :: C, acc, k => chk c C acc k && (decide (8 ≤ acc.length) || chk c C (v :: acc) (k + degV c v acc))
/-! ### small ways -/
/-! ### the points of the law -/
/-! ### the keepers are a group -/
theorem KeepL.pf {ps : List Pt} {ws : List Fo} (k : KeepL ps ws) {f : Fo} (h : f ∈ ws) : Pf f := by
  obtain ⟨a, b, c, _⟩ := (k.2 f).mp h
  exact ⟨a, b, c⟩
theorem keepsB_iff {ps : List Pt} {f : Fo} : keepsB ps f = true ↔ ∀ p ∈ ps, rot f p ∈ ps := decide_eq_true_iff
theorem KeepL.mem {ps : List Pt} {ws : List Fo} (k : KeepL ps ws) {f : Fo} : f ∈ ws ↔ Pf f ∧ ∀ p ∈ ps, rot f p ∈ ps := by
  rw [k.2, keepsB_iff]
  exact ⟨fun ⟨a, b, c, d⟩ => ⟨⟨a, b, c⟩, d⟩, fun ⟨⟨a, b, c⟩, d⟩ => ⟨a, b, c, d⟩⟩
theorem KeepL.grp {ps : List Pt} {ws : List Fo} (k : KeepL ps ws) : Grp ws where
  pf := fun f h => k.pf h
  nd := k.1
  one := k.mem.mpr ⟨Pf.one, fun p hp => by rw [rot_one]; exact hp⟩
  cl := fun a ha b hb => by
    obtain ⟨pa, ka⟩ := k.mem.mp ha
    obtain ⟨pb, kb⟩ := k.mem.mp hb
    exact k.mem.mpr ⟨pa.mu pb, fun p hp => by rw [rot_mu pa pb]; exact ka _ (kb _ hp)⟩
/-- a keeper led about by a turn -/
def cnj (f g : Fo) : Fo := mu f (mu g (inv f))
theorem Pf.cnj {f g : Fo} (hf : Pf f) (hg : Pf g) : Pf (cnj f g) := hf.mu (hg.mu hf.inv)
theorem KeepL.led {ps : List Pt} {ws us : List Fo} (k : KeepL ps ws) {f : Fo} (hf : Pf f) (k2 : KeepL (ps.map fun p => rot f p) us) : (ws.map (cnj f)).Perm us := by
  refine (List.perm_ext_iff_of_nodup (nodup_mapF k.1 fun x hx y hy e => ?_) k2.1).mpr fun r => ?_
  · have px := k.pf hx
    have py := k.pf hy
    exact mu_cancel_r hf.inv px py (mu_cancel hf (px.mu hf.inv) (py.mu hf.inv) e)
  · rw [List.mem_map, k2.mem]
    constructor
    · rintro ⟨s, hs, rfl⟩
      obtain ⟨ps, ks⟩ := k.mem.mp hs
      refine ⟨hf.cnj ps, fun p hp => ?_⟩
      obtain ⟨q, hq, rfl⟩ := List.mem_map.mp hp
      refine List.mem_map.mpr ⟨rot s q, ks q hq, ?_⟩
      unfold Z.cnj
      rw [rot_mu hf (ps.mu hf.inv), rot_mu ps hf.inv, rot_inv hf]
    · rintro ⟨pr, kr⟩
      refine ⟨mu (inv f) (mu r f), k.mem.mpr ⟨hf.inv.mu (pr.mu hf), fun p hp => ?_⟩, ?_⟩
      · rw [rot_mu hf.inv (pr.mu hf), rot_mu pr hf]
        obtain ⟨q, hq, e⟩ := List.mem_map.mp (kr _ (List.mem_map_of_mem hp))
        rw [← e, rot_inv hf]
        exact hq
      · unfold Z.cnj
        rw [mu_assoc hf.inv (pr.mu hf) hf.inv, ← mu_assoc hf hf.inv ((pr.mu hf).mu hf.inv), mu_inv hf, one_mu ((pr.mu hf).mu hf.inv), mu_assoc pr hf hf.inv, mu_inv hf, mu_one pr]
/-! ### rows stay rows, whatever the bottom -/
/-! ### promises -/
end Z
set_option Elab.async false
set_option linter.all false
set_option maxRecDepth 100000
/-! Z64: sets whose elements are keys of any depth (tuples of tuples of ints): what the model asks of them. -/
namespace Z
open PySem PySem.Spec PyProof.Rows L2
mutual
/-- no text in it -/
def pk : NestedKey → Bool
  | .none => true
  | .num _ => true
  | .text _ => false
  | .tup ks => pks ks
def pks : List NestedKey → Bool
  | [] => true
  | k :: ks => pk k && pks ks
end
section
variable {P : Program} {w : World}
/-- this value is of no class of the program's, so far down -/
def NoCls (P : Program) (w : World) (n : Nat) (s : Shared) (v : Value) : Prop := ∀ (A : Around) (E : Value → Shared → Prop) (Q : Bool → Shared → Prop), Q false s → wpAny (model P w) A (ofAClassStatement n v) Q E s
def ByVal (P : Program) (w : World) (n : Nat) (s : Shared) (v : Value) : Prop := ∀ (A : Around) (E : Value → Shared → Prop) (Q : Bool → Shared → Prop), Q true s → wpAny (model P w) A (hashByValue n v) Q E s
theorem NoCls.tup {n m : Nat} {s : Shared} {a : Addr} {o : Obj} {vs : Array Value} (ho : s.heap.get? a = some o) (hc : o.cls = .type "tuple") (hd : o.data = .seq vs m) (all : ∀ v ∈ vs.toList, NoCls P w n s v) : NoCls P w (n + 1) s (.ref a) := fun A E Q q => by
  have tt : s.TypeIs (.ref a) "tuple" := ⟨o, ho, hc⟩
  unfold ofAClassStatement
  refine wpAny_bind (wpAny_typeOf tt ?_)
  dsimp only
  have same : (("tuple" : String) == "tuple") = true := by decide
  simp only [same, if_true, Bool.not_true, Bool.false_eq_true, if_false]
  try refine wpAny_bind (wpAny_pure ?_)
  try simp only [Bool.not_true, Bool.false_eq_true, if_false]
  refine wpAny_bind (m := seqItems? (.ref a)) (wpAny_seqItems ho hd ?_)
  dsimp only
  refine wpAny_bind ?_
  rw [← Array.forIn_toList]
  refine wpAny_forIn_list _ (fun left r s' => (r.1 = none ∧ s' = s) ∧ ∀ v ∈ left, NoCls P w n s v) _ ?_ ?_ _ _ ⟨⟨rfl, rfl⟩, all⟩
  · rintro v left r s' ⟨⟨_, rfl⟩, h⟩
    refine wpAny_bind (h v (by simp) _ _ _ ?_)
    simp only [Bool.false_eq_true, if_false]
    exact wpAny_pure ⟨⟨rfl, rfl⟩, fun u hu => h u (by simp [hu])⟩
  · rintro ⟨x, y⟩ s' ⟨⟨e, rfl⟩, _⟩
    simp only at e
    subst e
    exact wpAny_pure q
theorem ByVal.tup {n m : Nat} {s : Shared} {a : Addr} {o : Obj} {vs : Array Value} (ho : s.heap.get? a = some o) (hc : o.cls = .type "tuple") (hd : o.data = .seq vs m) (all : ∀ v ∈ vs.toList, ByVal P w n s v) : ByVal P w (n + 1) s (.ref a) := fun A E Q q => by
  have tt : s.TypeIs (.ref a) "tuple" := ⟨o, ho, hc⟩
  unfold hashByValue
  refine wpAny_bind (wpAny_specialOf tt PySem.F.slot_tuple_hash.lookup ?_)
  refine wpAny_bind (m := seqItems? (.ref a)) (wpAny_seqItems ho hd ?_)
  refine wpAny_bind ?_
  show wpAny _ _ (forIn vs _ _) _ _ s
  rw [← Array.forIn_toList]
  refine wpAny_forIn_list _ (fun left r s' => (r.1 = none ∧ s' = s) ∧ ∀ v ∈ left, ByVal P w n s v) _ ?_ ?_ _ _ ⟨⟨rfl, rfl⟩, all⟩
  · rintro v left r s' ⟨⟨_, rfl⟩, h⟩
    refine wpAny_bind (h v (by simp) _ _ _ ?_)
    simp only [Bool.not_true, Bool.false_eq_true, if_false]
    exact wpAny_pure ⟨⟨rfl, rfl⟩, fun u hu => h u (by simp [hu])⟩
  · rintro ⟨x, y⟩ s' ⟨⟨e, rfl⟩, _⟩
    simp only at e
    subst e
    exact wpAny_pure q
mutual
theorem noCls_key : ∀ (k : NestedKey) (v : Value) (n : Nat) (s : Shared), NestedIs s.heap k v → k.depth ≤ n → NoCls P w n s v
  | .none, _, n, s, x, _ => fun A E Q q => by cases x; cases n <;> exact wpAny_pure q
  | .num i, _, n, s, x, _ => fun A E Q q => by cases x <;> cases n <;> exact wpAny_pure q
  | .text y, _, n, s, x, _ => fun A E Q q => by cases x; cases n <;> exact wpAny_pure q
  | .tup ks, _, n, s, x, d => by
    cases x with
    | tup hg hc hd hk =>
      rw [NestedKey.depth] at d
      match n, d with
      | 0, d => omega
      | n + 1, d => exact .tup hg hc hd (noCls_keys ks _ n s hk (by omega))
theorem noCls_keys : ∀ (ks : List NestedKey) (vs : List Value) (n : Nat) (s : Shared), NestedAll s.heap ks vs → NestedKey.depthAll ks ≤ n → ∀ v ∈ vs, NoCls P w n s v
  | [], _, n, s, x, _ => by cases x; intro v hv; cases hv
  | k :: ks, _, n, s, x, d => by
    cases x with
    | cons x1 x2 =>
      rw [NestedKey.depthAll] at d
      intro v hv
      rcases List.mem_cons.mp hv with rfl | hv
      · exact noCls_key k _ n s x1 (by omega)
      · exact noCls_keys ks _ n s x2 (by omega) v hv
end
mutual
theorem byVal_key : ∀ (k : NestedKey) (v : Value) (n : Nat) (s : Shared), NestedIs s.heap k v → k.depth ≤ n → pk k = true → ByVal P w n s v
  | .none, _, n, s, x, _, _ => fun A E Q q => by cases x; cases n <;> exact wpAny_pure q
  | .num i, _, n, s, x, _, _ => fun A E Q q => by cases x <;> cases n <;> exact wpAny_pure q
  | .text y, _, n, s, x, _, t => by simp [pk] at t
  | .tup ks, _, n, s, x, d, t => by
    cases x with
    | tup hg hc hd hk =>
      rw [NestedKey.depth] at d
      rw [pk] at t
      match n, d with
      | 0, d => omega
      | n + 1, d => exact .tup hg hc hd (byVal_keys ks _ n s hk (by omega) t)
theorem byVal_keys : ∀ (ks : List NestedKey) (vs : List Value) (n : Nat) (s : Shared), NestedAll s.heap ks vs → NestedKey.depthAll ks ≤ n → pks ks = true → ∀ v ∈ vs, ByVal P w n s v
  | [], _, n, s, x, _, _ => by cases x; intro v hv; cases hv
  | k :: ks, _, n, s, x, d, t => by
    cases x with
    | cons x1 x2 =>
      rw [NestedKey.depthAll] at d
      rw [pks, Bool.and_eq_true] at t
      intro v hv
      rcases List.mem_cons.mp hv with rfl | hv
      · exact byVal_key k _ n s x1 (by omega) t.1
      · exact byVal_keys ks _ n s x2 (by omega) t.2 v hv
end
/-- an element: its place and what it is -/
abbrev El := Addr × NestedKey
structure ElAt (h : Heap) (p : El) : Prop where
  is : NestedIs h p.2 (.ref p.1)
  d : p.2.depth ≤ 8
  t : pk p.2 = true
variable {A : Around} {E : Value → Shared → Prop} {s : Shared}
/-- looking for one among such tells nothing -/
theorem seen_el {p : El} (hp : ElAt s.heap p) {ys : List Value} (hy : ∀ y ∈ ys, ∃ q : El, y = .ref q.1 ∧ ElAt s.heap q) {Q : Bool → Shared → Prop} (q : Q false s) : wpAny (model P w) A (searchCouldBeSeen (.ref p.1) ys) Q E s := by
  unfold searchCouldBeSeen
  refine wpAny_bind ?_
  refine wpAny_forIn_list _ (fun left r s' => (r.1 = none ∧ s' = s) ∧ ∀ y ∈ left, ∃ q : El, y = .ref q.1 ∧ ElAt s.heap q) _ ?_ ?_ _ _ ⟨⟨rfl, rfl⟩, hy⟩
  · rintro v left r s' ⟨⟨_, rfl⟩, h⟩
    obtain ⟨c, rfl, hc⟩ := h v (by simp)
    have more : ∀ y ∈ left, ∃ q : El, y = .ref q.1 ∧ ElAt s'.heap q := fun y hy => h y (by simp [hy])
    dsimp only
    by_cases same : (p.1 == c.1 || (carriedByValue (.ref p.1) && carriedByValue (.ref c.1))) = true
    · refine wp_if_pos same (wpAny_pure ⟨⟨rfl, rfl⟩, more⟩)
    · refine wp_if_neg same (wpAny_bind (quiet_key _ _ 8 _ hp.is hp.d _ _ _ ?_))
      simp only [Bool.not_true, Bool.false_eq_true, if_false]
      refine wpAny_bind (quiet_key _ _ 8 _ hc.is hc.d _ _ _ ?_)
      simp only [Bool.not_true, Bool.false_eq_true, if_false]
      refine wpAny_bind (noCls_key _ _ 8 _ hp.is hp.d _ _ _ ?_)
      simp only [Bool.false_eq_true, if_false]
      refine wpAny_bind (noCls_key _ _ 8 _ hc.is hc.d _ _ _ ?_)
      simp only [Bool.false_eq_true, if_false]
      exact wpAny_pure ⟨⟨rfl, rfl⟩, more⟩
  · rintro ⟨x, y⟩ s' ⟨⟨e, rfl⟩, _⟩
    simp only at e
    subst e
    exact wpAny_pure q
end
end Z
set_option Elab.async false
set_option linter.all false
set_option maxRecDepth 100000
/-! Z65: a set of such: looking for one, adding one. -/
namespace Z
open PySem PySem.Spec PyProof.Rows L2
section
variable {P : Program} {w : World} {A : Around} {E : Value → Shared → Prop} {s : Shared}
abbrev hE (w : World) (p : El) : Int := p.2.hash w
abbrev rowE (w : World) (p : El) : Int × Value := (p.2.hash w, .ref p.1)
/-- the set at a holds these -/
structure SE (w : World) (h : Heap) (a : Addr) (L : List El) (es : Array (Int × Value)) (ep : Nat) (t : SetTable) : Prop where
  ob : ∃ o, h.get? a = some o ∧ o.ExactSet ∧ o.data = .set es ep t
  rows : es.toList = L.map (rowE w)
  tab : TabOk t (L.map (hE w))
  nd : (L.map (·.2)).Nodup
  els : ∀ p ∈ L, ElAt h p
  plain : t.plain = true
  led : w.params.followText "set-order" = true ∨ t.led = true
  room : 5 * L.length < 3 * t.mask
  few : L.length < 77
variable {a : Addr} {L : List El} {es : Array (Int × Value)} {ep : Nat} {t : SetTable}
theorem SE.size (R : SE w s.heap a L es ep t) : es.size = L.length := by
  rw [← Array.length_toList, R.rows, List.length_map]
theorem SE.psz (R : SE w s.heap a L es ep t) : t.place.size = L.length := by rw [R.tab.sz, List.length_map]
theorem fits_of {t : SetTable} {n : Nat} (h1 : t.place.size = n) (h2 : t.dummies = #[]) (h3 : n ≤ t.mask) : t.fits n = true := by
  unfold SetTable.fits SetTable.fill
  rw [h2, Bool.and_eq_true, beq_iff_eq, decide_eq_true_eq]
  exact ⟨h1, show t.place.size + 0 ≤ t.mask by omega⟩
theorem SE.fits (R : SE w s.heap a L es ep t) : t.fits es.size = true := by
  have := R.room
  exact fits_of (R.psz.trans R.size.symm) R.tab.dm (by rw [R.size]; omega)
theorem SE.entry (R : SE w s.heap a L es ep t) {i : Nat} {p : El} (h : L[i]? = some p) : es[i]? = some (rowE w p) := by
  rw [← Array.getElem?_toList, R.rows, List.getElem?_map, h]; rfl
theorem SE.hashAt (R : SE w s.heap a L es ep t) {i : Nat} {p : El} (h : L[i]? = some p) : (es[i]?.map (·.1)).getD 0 = hE w p := by
  rw [R.entry h]; rfl
theorem SE.odd (R : SE w s.heap a L es ep t) : ¬ t.gaveWay = true := by
  unfold SetTable.gaveWay
  rw [mask_odd R.tab.mok]; decide
theorem dummy_nth (m : Nat) : ∀ (n : Nat) (p : SetTable.Probe), p.dummy = none → (nth m p n).dummy = none
  | 0, _, h => h
  | n + 1, p, h => dummy_nth m n (adv m p) (by unfold adv; split <;> exact h)
/-- where the search for a hash begins -/
abbrev beg (m : Nat) (h : Int) : SetTable.Probe := runAt m (SetTable.bits h % (m + 1)) (SetTable.bits h)
/-- from a step of the way on -/
theorem look_from (R : SE w s.heap a L es ep t) {x : El} (hx : ElAt s.heap x) (hu : A.units + 40 < cLine) {K : Nat} (k1 : K < 10 * SetTable.turns t.mask) (k2 : way t.mask (hE w x) K ∉ t.place.toList) (k3 : ∀ c, c < K → way t.mask (hE w x) c ∈ t.place.toList)
    {Q : SetFound → Shared → Prop} (yes : x.2 ∈ L.map (·.2) → Q (.there none) s) (no : x.2 ∉ L.map (·.2) → Q (.free (way t.mask (hE w x) K) false) s) :
    ∀ (f c : Nat) (st : Option SetTable.Probe), st.getD (t.probeStart (hE w x)) = nth t.mask (beg t.mask (hE w x)) c → c ≤ K → K < c + f →
      (∀ (i : Nat) (p : El), L[i]? = some p → p.2 = x.2 → ∃ d, (c ≤ d ∧ d < K) ∧ t.place.toList[i]? = some (way t.mask (hE w x) d)) → wpAny (model P w) A (setSearchFrom a (.ref x.1) (hE w x) true f st) Q E s := by
  intro f
  induction f with
  | zero => intro c st _ h1 h2; omega
  | succ f ih =>
    intro c st hst hc hf left
    obtain ⟨o, ho, hex, hd⟩ := R.ob
    have shift : ∀ q, (nth t.mask (nth t.mask (beg t.mask (hE w x)) c) q) = nth t.mask (beg t.mask (hE w x)) (c + q) := fun q => (nth_add t.mask c _ q).symm
    have at_ : ∀ q, (nth t.mask (nth t.mask (beg t.mask (hE w x)) c) q).j = way t.mask (hE w x) (c + q) := fun q => congrArg SetTable.Probe.j (shift q)
    have tell := go_spec t R.tab.ris R.tab.dm (fun i => (es[i]?.map (·.1)).getD 0) (hE w x) (10 * SetTable.turns t.mask) (K - c) _ (dummy_nth t.mask c _ rfl) (by omega)
      (fun q hq => by rw [at_ q]; exact k3 _ (by omega)) (by rw [at_, Nat.add_sub_cancel' hc]; exact k2)
    rw [setSearchFrom_succ]
    refine wpAny_bind (wpAny_setState_of ho hd R.fits ?_)
    dsimp only
    refine wp_if_neg R.odd ?_
    try refine wpAny_bind (wpAny_pure ?_)
    rcases tell with ⟨q, i, hq, hi, hh, before, e⟩ | ⟨before, e⟩
    · rw [hst]
      have e2 : t.probe (fun i => (es[i]?.map (·.1)).getD 0) (hE w x) (nth t.mask (beg t.mask (hE w x)) c) = some (.candidate (way t.mask (hE w x) (c + q)) i (nth t.mask (beg t.mask (hE w x)) (c + (q + 1)))) := by
        rw [← at_, ← shift]
        exact e
      rw [e2]
      rw [at_] at hi
      dsimp only
      obtain ⟨p, hp⟩ : ∃ p, L[i]? = some p := by
        have h1 := (List.getElem?_eq_some_iff.mp hi).1
        rw [Array.length_toList, R.psz] at h1
        exact ⟨L[i], List.getElem?_eq_getElem h1⟩
      have pm : p ∈ L := List.mem_of_getElem? hp
      have live := slot_live R.tab.ris hi
      have tail : wpAny (model P w) A (searchRest a (.ref x.1) (hE w x) true f es t (way t.mask (hE w x) (c + q)) i (nth t.mask (beg t.mask (hE w x)) (c + (q + 1)))) Q E s := by
        have de := hx.d
        unfold searchRest
        rw [R.entry hp]
        dsimp only
        refine wpAny_bind (wpAny_holding (eqAt_key p.2 x.2 A s _ _ (R.els p pm).is hx.is (by omega) P w _ _ ?_))
        refine wpAny_bind (wpAny_setState_of ho hd R.fits ?_)
        dsimp only
        rw [← NestedKey.decide_eq]
        by_cases eq : p.2 = x.2
        · exact wp_if_pos (by simp [eq]) (wpAny_pure (yes (List.mem_map.mpr ⟨p, pm, eq⟩)))
        · refine wp_if_neg (by simp [eq]) ?_
          try refine wpAny_bind (wpAny_pure ?_)
          rw [sameMem]
          dsimp only
          simp only [if_true, live, R.entry hp]
          refine wpAny_bind (wpAny_isSame_ref_self (wpAny_bind (wpAny_pure ?_)))
          simp only [if_true]
          refine wp_if_neg (by simp [eq]) (ih (c + (q + 1)) _ rfl (by omega) (by omega) fun i2 p2 h2 h3 => ?_)
          obtain ⟨d, ⟨d1, d2⟩, d3⟩ := left i2 p2 h2 h3
          refine ⟨d, ⟨?_, d2⟩, d3⟩
          have ne : d ≠ c + q := fun z => by
            subst z
            have l2 := slot_live R.tab.ris d3
            rw [live] at l2
            injection l2 with l2
            subst l2
            rw [hp] at h2
            cases h2
            exact eq h3
          have nl : ¬ d < c + q := fun z => before (d - c) i2 (by omega) (by rw [at_, Nat.add_sub_cancel' d1]; exact d3) (by
            show (es[i2]?.map (·.1)).getD 0 = _
            rw [R.hashAt h2]
            exact congrArg (NestedKey.hash w) h3)
          omega
      by_cases hl : t.led = true
      · refine wp_if_neg (by simp [hl]) ?_
        try refine wpAny_bind (wpAny_pure ?_)
        exact tail
      · refine wp_if_pos (by simp [hl]) (wpAny_bind (seen_el hx (fun y hy => ?_) ?_))
        · obtain ⟨r, hr, rfl⟩ := List.mem_map.mp hy
          have h1 : r ∈ es.toList := by
            have : r ∈ es ∧ r.1 = hE w x := by simpa using hr
            simpa using this.1
          rw [R.rows] at h1
          obtain ⟨p2, h2, rfl⟩ := List.mem_map.mp h1
          exact ⟨p2, rfl, R.els p2 h2⟩
        · refine wp_if_neg (by decide) ?_
          try refine wpAny_bind (wpAny_pure ?_)
          exact tail
    · rw [hst]
      have e2 : t.probe (fun i => (es[i]?.map (·.1)).getD 0) (hE w x) (nth t.mask (beg t.mask (hE w x)) c) = some (.empty (way t.mask (hE w x) K) none) := by
        have h1 := at_ (K - c)
        rw [Nat.add_sub_cancel' hc] at h1
        rw [← h1]
        exact e
      rw [e2]
      dsimp only
      refine wpAny_pure (no fun hm => ?_)
      obtain ⟨p, pm, pe⟩ := List.mem_map.mp hm
      obtain ⟨i, hi⟩ := List.getElem?_of_mem pm
      obtain ⟨d, ⟨d1, d2⟩, d3⟩ := left i p hi pe
      exact before (d - c) i (by omega) (by rw [at_, Nat.add_sub_cancel' d1]; exact d3) (by
        show (es[i]?.map (·.1)).getD 0 = _
        rw [R.hashAt hi]
        exact congrArg (NestedKey.hash w) pe)
/-- looking for one that may be added -/
theorem look_at (R : SE w s.heap a L es ep t) {x : El} (hx : ElAt s.heap x) (hu : A.units + 40 < cLine) {Q : SetFound → Shared → Prop} (yes : x.2 ∈ L.map (·.2) → Q (.there none) s)
    (no : ∀ K, x.2 ∉ L.map (·.2) → way t.mask (hE w x) K ∉ t.place.toList → (∀ c, c < K → way t.mask (hE w x) c ∈ t.place.toList) → Q (.free (way t.mask (hE w x) K) false) s) : wpAny (model P w) A (setSearch a (.ref x.1) (hE w x) true) Q E s := by
  have rm := R.room
  obtain ⟨K, k1, k2, k3⟩ := R.tab.first (by rw [List.length_map]; omega) (hE w x)
  have small : K < 100000 := by
    refine Nat.lt_of_lt_of_le k1 ?_
    unfold SetTable.turns
    rcases R.tab.mok with e | e | e <;> omega
  unfold setSearch
  refine look_from R hx hu k1 k2 k3 yes (fun n => no K n k2 k3) 100000 0 none rfl (Nat.zero_le _) (by omega) fun i p hp he => ?_
  have hl : i < t.place.toList.length := by
    rw [Array.length_toList, R.psz]
    exact (List.getElem?_eq_some_iff.mp hp).1
  have hi : (L.map (hE w))[i]? = some (hE w x) := by
    rw [List.getElem?_map, hp]
    exact congrArg (fun k : NestedKey => some (k.hash w)) he
  obtain ⟨c, c1, c2⟩ := R.tab.before k2 hi (List.getElem?_eq_getElem hl)
  exact ⟨c, ⟨Nat.zero_le _, c1⟩, by rw [List.getElem?_eq_getElem hl, c2]⟩
end
end Z
set_option Elab.async false
set_option linter.all false
set_option maxRecDepth 100000
/-! Z66: adding to such a set; its table laid anew. -/
namespace Z
open PySem PySem.Spec PyProof.Rows L2
theorem range_get {α : Type} (L : List α) : ∀ n, n ≤ L.length → (List.range n).filterMap (fun i => L[i]?) = L.take n
  | 0, _ => rfl
  | n + 1, h => by
    have hl : n < L.length := h
    rw [List.range_succ, List.filterMap_append, range_get L n (by omega), List.take_add_one, List.getElem?_eq_getElem hl]
    simp [List.getElem?_eq_getElem hl]
section
variable {P : Program} {w : World} {A : Around} {E : Value → Shared → Prop} {s : Shared} {a : Addr} {L : List El} {es : Array (Int × Value)} {ep : Nat} {t : SetTable}
theorem order_el {order : Array Nat} (hr : es.toList = L.map (rowE w)) (hp : order.toList.Perm (List.range L.length)) :
    ∃ M : List El, (order.filterMap (es[·]?)).toList = M.map (rowE w) ∧ M.Perm L ∧ M.map (hE w) = order.toList.map fun i => (es.map (·.1)).getD i 0 := by
  have at_ : ∀ i, es[i]? = (L[i]?).map (rowE w) := fun i => by rw [← Array.getElem?_toList, hr, List.getElem?_map]
  refine ⟨order.toList.filterMap fun i => L[i]?, ?_, ?_, ?_⟩
  · rw [Array.toList_filterMap, List.map_filterMap]
    exact congrArg (fun f => order.toList.filterMap f) (funext at_)
  · have h1 := hp.filterMap fun i => L[i]?
    rwa [range_get L L.length (Nat.le_refl _), List.take_length] at h1
  · have h2 : ∀ i ∈ order.toList, i < L.length := fun i hi => List.mem_range.mp (hp.mem_iff.mp hi)
    generalize order.toList = l at h2
    induction l with
    | nil => rfl
    | cons i l ih =>
      have hi := h2 i (by simp)
      have e : (es.map (·.1)).getD i 0 = hE w L[i] := by
        have : (es.map (·.1))[i]? = some (hE w L[i]) := by rw [Array.getElem?_map, at_, List.getElem?_eq_getElem hi]; rfl
        rw [Array.getD_eq_getD_getElem?, this]; rfl
      rw [List.filterMap_cons_some (List.getElem?_eq_getElem hi), List.map_cons, List.map_cons, ih fun j hj => h2 j (by simp [hj]), e]
/-- another thing's change leaves it be -/
theorem ElAt.but {h h' : Heap} {p : El} {o : Obj} (hp : ElAt h p) (ho : h.get? a = some o) (hd : o.data = .set es ep t) (k : Heap.SameBut a h h') : ElAt h' p :=
  ⟨NestedIs.at (fun b u vs n e1 e2 => (k.2 b fun z => by
    subst z
    rw [ho] at e1; cases e1
    rw [hd] at e2; cases e2).trans e1) _ _ hp.is, hp.d, hp.t⟩
theorem ElAt.kept {h h' : Heap} {p : El} (hp : ElAt h p) (k : ∀ b o, h.get? b = some o → h'.get? b = some o) : ElAt h' p := ⟨NestedIs.at (fun b u _ _ e1 _ => k b u e1) _ _ hp.is, hp.d, hp.t⟩
/-- what a set of elements is, the room apart -/
structure SP (w : World) (h : Heap) (a : Addr) (L : List El) (es : Array (Int × Value)) (ep : Nat) (t : SetTable) : Prop where
  ob : ∃ o, h.get? a = some o ∧ o.ExactSet ∧ o.data = .set es ep t
  rows : es.toList = L.map (rowE w)
  tab : TabOk t (L.map (hE w))
  nd : (L.map (·.2)).Nodup
  els : ∀ p ∈ L, ElAt h p
  plain : t.plain = true
  led : w.params.followText "set-order" = true ∨ t.led = true
  few : L.length < 77
theorem SP.more (R : SP w s.heap a L es ep t) (fit : L.length ≤ t.mask) {wanted M : Nat} (hw : SetTable.sizeAbove wanted - 1 = M) (hM : MaskOk M) (h128 : SetTable.sizeAbove wanted ≤ 128) (rm : 5 * L.length < 3 * M) {Q : Unit → Shared → Prop}
    (q : ∀ h' L' es' ep' t', Heap.SameBut a s.heap h' → SE w h' a L' es' ep' t' → L'.Perm L → Q () { s with heap := h' }) : wpAny (model P w) A (setRelay a wanted) Q E s := by
  obtain ⟨o, ho, hex, hd⟩ := R.ob
  have sz : es.size = L.length := by rw [← Array.length_toList, R.rows, List.length_map]
  have psz : t.place.size = es.size := by rw [R.tab.sz, List.length_map, sz]
  obtain ⟨t', order, e, pm, T, em, el, epl, _⟩ := relaid_ok t (hs := es.map (·.1)) hw hM (by rw [Array.size_map, sz]; omega)
  rw [Array.size_map, sz] at pm
  obtain ⟨N, n1, n2, n3⟩ := order_el R.rows pm
  rw [← n3] at T
  have nsz : (order.filterMap (es[·]?)).size = es.size := by rw [← Array.length_toList, n1, List.length_map, n2.length_eq, sz]
  have few := R.few
  rw [setRelay_eq]
  refine wpAny_bind (wpAny_setState_of ho hd (fits_of psz R.tab.dm (by omega)) ?_)
  dsimp only
  refine wp_if_neg (by rw [sizeLine_eq]; omega) ?_
  try refine wpAny_bind (wpAny_pure ?_)
  rw [e]
  dsimp only
  refine wpAny_bind (wp_if_neg (by rw [nsz]; simp) ?_)
  try refine wpAny_bind (wpAny_pure ?_)
  refine wpAny_pure ?_
  dsimp only
  refine wpAny_storeSet_of ho hd ?_ (by rw [nsz, sz, sizeLine_eq]; omega)
  have but : Heap.SameBut a s.heap (s.heap.update a (Obj.putSet (order.filterMap (es[·]?)) t')) := Heap.SameBut.update ..
  exact q _ N _ (ep + 1) t' but ⟨⟨_, store_at ho hd, ⟨hex.1, hex.2.1, hex.2.2⟩, rfl⟩, n1, T, (n2.map (·.2)).nodup_iff.mpr R.nd, fun p hp => (R.els p (n2.mem_iff.mp hp)).but ho hd but, epl.trans R.plain, by rw [el]; exact R.led, by rw [n2.length_eq, em]; exact rm, by rw [n2.length_eq]; exact few⟩ n2
theorem middle_perm {α : Type} (l : List α) (n : Nat) (x : α) : (l.take n ++ x :: l.drop n).Perm (x :: l) := by
  have := List.perm_middle (a := x) (l₁ := l.take n) (l₂ := l.drop n)
  rwa [List.take_append_drop] at this
/-- one more -/
theorem SE.add (R : SE w s.heap a L es ep t) {x : El} (hx : ElAt s.heap x) (hu : A.units + 40 < cLine) (few : L.length + 1 < 77) {Q : Bool → Shared → Prop}
    (q : ∀ b h' L' es' ep' t', Heap.SameBut a s.heap h' → SE w h' a L' es' ep' t' → (x.2 ∈ L.map (·.2) → L' = L) → (x.2 ∉ L.map (·.2) → L'.Perm (x :: L)) → Q b { s with heap := h' }) : wpAny (model P w) A (setAddHashed a (.ref x.1) (hE w x)) Q E s := by
  obtain ⟨o, ho, hex, hd⟩ := R.ob
  have sz := R.size
  have rm := R.room
  unfold setAddHashed
  refine wpAny_holding ?_
  rw [show (100000 : Nat) = 99999 + 1 from rfl, setAddHashedIn_succ]
  refine wpAny_bind (wpAny_setState_of ho hd R.fits ?_)
  dsimp only
  refine wp_if_neg (by simp [byScan, Value.scannable]) ?_
  try refine wpAny_bind (wpAny_pure ?_)
  refine wpAny_bind (look_at R hx hu (fun hm => ?_) fun K hm hK hb => ?_)
  · dsimp only
    exact wpAny_pure (q false s.heap L es ep t (Heap.SameBut.refl a s.heap) R (fun _ => rfl) fun z => absurd hm z)
  dsimp only
  refine wpAny_bind (wpAny_setState_of ho hd R.fits ?_)
  dsimp only
  obtain ⟨q1, _, q3, q4, q5, q6, _, _, q9⟩ := R.tab.put hK hb
  have pl := q6.trans R.plain
  generalize t.put (way t.mask (hE w x) K) = pt at q1 q3 q4 q5 q9 pl ⊢
  obtain ⟨t1, p⟩ := pt
  dsimp only at q1 q3 q4 q5 q9 pl ⊢
  rw [← q1] at q3
  first
    | refine wpAny_bind (wp_if_pos pl (byVal_key _ _ 8 _ hx.is hx.d hx.t _ _ _ ?_))
    | refine wp_if_pos pl (wpAny_bind (byVal_key _ _ 8 _ hx.is hx.d hx.t _ _ _ ?_))
  simp only [if_true]
  have rows2 : (SetTable.insertAt es p (hE w x, Value.ref x.1)).toList = (L.take p ++ x :: L.drop p).map (rowE w) := by
    rw [SetTable.toList_insertAt, R.rows, List.map_append, List.map_cons, List.map_take, List.map_drop]
  have hs2 : (L.take p ++ x :: L.drop p).map (hE w) = (L.map (hE w)).take p ++ hE w x :: (L.map (hE w)).drop p := by rw [List.map_append, List.map_cons, List.map_take, List.map_drop]
  rw [← hs2] at q3
  have pm := middle_perm L p x
  have ln : (L.take p ++ x :: L.drop p).length = L.length + 1 := pm.length_eq
  generalize L.take p ++ x :: L.drop p = M at pm ln q3 rows2
  have nd : (M.map (·.2)).Nodup := (pm.map (·.2)).nodup_iff.mpr (List.nodup_cons.mpr ⟨hm, R.nd⟩)
  have esz : (SetTable.insertAt es p (hE w x, Value.ref x.1)).size = L.length + 1 := by rw [← Array.length_toList, rows2, List.length_map, ln]
  generalize SetTable.insertAt es p (hE w x, Value.ref x.1) = es1 at rows2 esz ⊢
  refine wpAny_bind (wpAny_storeSet_of ho hd ?_ (by rw [esz, sizeLine_eq]; omega))
  have but : Heap.SameBut a s.heap (s.heap.update a (Obj.putSet es1 t1)) := Heap.SameBut.update ..
  have ho1 := store_at (es' := es1) (t' := t1) ho hd
  generalize s.heap.update a (Obj.putSet es1 t1) = h1 at but ho1 ⊢
  have els : ∀ r ∈ M, ElAt h1 r := fun r hr => by
    rcases List.mem_cons.mp (pm.mem_iff.mp hr) with rfl | hr
    · exact hx.but ho hd but
    · exact (R.els r hr).but ho hd but
  have led : w.params.followText "set-order" = true ∨ t1.led = true := by rw [q5]; exact R.led
  have part : SP w h1 a M es1 (ep + 1) t1 := ⟨⟨_, ho1, ⟨hex.1, hex.2.1, hex.2.2⟩, rfl⟩, rows2, q3, nd, els, pl, led, by omega⟩
  rw [List.length_map] at q9
  by_cases full : t1.tooFull = true
  · have f2 : (L.length + 1) * 5 ≥ t1.mask * 3 := by
      have h := full
      unfold SetTable.tooFull at h
      rw [decide_eq_true_eq, q9] at h
      exact h
    rw [q4] at f2
    rw [sz]
    have big : ∀ N, SetTable.sizeAbove (SetTable.grown (L.length + 1)) - 1 = N → MaskOk N → SetTable.sizeAbove (SetTable.grown (L.length + 1)) ≤ 128 → 5 * (L.length + 1) < 3 * N →
        wpAny (model P w) A (setRelay a (SetTable.grown (L.length + 1))) (fun _ s' => wpAny (model P w) A (pure true) Q E s') E { s with heap := h1 } := fun N g1 g2 g3 g4 =>
      SP.more (s := { s with heap := h1 }) part (by rw [ln, q4]; rcases R.tab.mok with e | e | e <;> omega) g1 g2 g3 (by rw [ln]; exact g4) fun h2 L2 es2 ep2 t2 b2 r2 p2 => wpAny_pure (q true h2 L2 es2 ep2 t2 (but.trans b2) r2 (fun z => absurd z hm) fun _ => p2.trans pm)
    have run : wpAny (model P w) A (setRelay a (SetTable.grown (L.length + 1))) (fun _ s' => wpAny (model P w) A (pure true) Q E s') E { s with heap := h1 } := by
      rcases R.tab.mok with e | e | e
      · have e2 : L.length = 4 := by omega
        exact big 31 (by rw [e2, size_20]) (.inr (.inl rfl)) (by rw [e2, size_20]; decide) (by omega)
      · have e2 : L.length = 18 := by omega
        exact big 127 (by rw [e2, size_76]) (.inr (.inr rfl)) (by rw [e2, size_76]; decide) (by omega)
      · omega
    first
      | refine wpAny_bind (wp_if_pos (by simp [full]) run)
      | refine wp_if_pos (by simp [full]) (wpAny_bind run)
  · have f2 : (L.length + 1) * 5 < t1.mask * 3 := by
      have h : t1.tooFull = false := by simpa using full
      unfold SetTable.tooFull at h
      rw [decide_eq_false_iff_not, q9] at h
      omega
    have done := q true h1 M es1 (ep + 1) t1 but ⟨part.ob, part.rows, part.tab, part.nd, part.els, part.plain, part.led, by rw [ln]; omega, part.few⟩ (fun z => absurd z hm) fun _ => pm
    first
      | exact wp_if_neg (by simp [full]) (wpAny_pure done)
      | exact wpAny_bind (wp_if_neg (by simp [full]) (wpAny_pure (wpAny_pure done)))
end
end Z
set_option Elab.async false
set_option linter.all false
set_option maxRecDepth 100000
/-! Z67: set(x), x a list of fewer than 77 such. -/
namespace Z
open PySem PySem.Spec PyProof.Rows L2
/-- what has come into the set by the first i items -/
structure CameE (ks : List El) (i : Nat) (L : List El) : Prop where
  of : ∀ p ∈ L, p ∈ ks.take i
  all : ∀ p ∈ ks.take i, p.2 ∈ L.map (·.2)
  len : L.length ≤ i
theorem take_one_more {α : Type} {l : List α} {i : Nat} {x : α} (h : l[i]? = some x) : l.take (i + 1) = l.take i ++ [x] := by rw [List.take_add_one, h]; rfl
theorem CameE.step {ks L M : List El} {i : Nat} {x : El} (c : CameE ks i L) (h : ks[i]? = some x) (h1 : x.2 ∈ L.map (·.2) → M = L) (h2 : x.2 ∉ L.map (·.2) → M.Perm (x :: L)) : CameE ks (i + 1) M := by
  by_cases hm : x.2 ∈ L.map (·.2)
  · rw [h1 hm]
    refine ⟨fun p hp => by rw [take_one_more h]; exact List.mem_append_left _ (c.of p hp), fun p hp => ?_, by have := c.len; omega⟩
    rw [take_one_more h, List.mem_append, List.mem_singleton] at hp
    rcases hp with hp | rfl
    · exact c.all p hp
    · exact hm
  · have pm := h2 hm
    refine ⟨fun p hp => ?_, fun p hp => ?_, by rw [pm.length_eq, List.length_cons]; have := c.len; omega⟩
    · rw [take_one_more h, List.mem_append, List.mem_singleton]
      rcases List.mem_cons.mp (pm.mem_iff.mp hp) with rfl | hp
      · exact .inr rfl
      · exact .inl (c.of p hp)
    · rw [(pm.map (·.2)).mem_iff, List.map_cons]
      rw [take_one_more h, List.mem_append, List.mem_singleton] at hp
      rcases hp with hp | rfl
      · exact List.mem_cons_of_mem _ (c.all p hp)
      · exact List.mem_cons_self
section
variable {P : Program} {w : World} {A : Around} {E : Value → Shared → Prop} {s : Shared}
theorem SE.kept {h h' : Heap} {a : Addr} {L : List El} {es : Array (Int × Value)} {ep : Nat} {t : SetTable} (R : SE w h a L es ep t) (ha : ∀ o, h.get? a = some o → h'.get? a = some o) (els : ∀ p ∈ L, ElAt h' p) : SE w h' a L es ep t := by
  obtain ⟨o, ho, r⟩ := R.ob
  exact ⟨⟨o, ha o ho, r⟩, R.rows, R.tab, R.nd, els, R.plain, R.led, R.room, R.few⟩
/-- the object that a new set is -/
abbrev newSet (w : World) : Obj := { cls := .type "set", dict := none, data := .set #[] 0 (.fresh 0 0 (!w.params.followText "set-order")) }
theorem SE.new {h : Heap} {a : Addr} (ho : h.get? a = some (newSet w)) : SE w h a [] #[] 0 (.fresh 0 0 (!w.params.followText "set-order")) where
  ob := ⟨_, ho, ⟨rfl, rfl, rfl⟩, rfl⟩
  rows := rfl
  tab := ⟨.nil, rfl, rfl, .inl rfl, fun _ h => (by cases h), fun i h j e => (by simp at e)⟩
  nd := .nil
  els := fun _ h => by cases h
  plain := rfl
  led := by
    show _ ∨ (!w.params.followText "set-order") = true
    cases w.params.followText "set-order" <;> simp
  room := show 5 * 0 < 3 * 7 by decide
  few := by decide
/-- the loop that puts one after the other in -/
theorem put_all {I : Addr} {fp wr : List Addr} {G : Array GenState → Array GenState → Prop} {n : Nat} {Pv : Nat → Value → Prop} {St : Nat → Shared → Prop} {R : Result → Shared → Prop} (W : WalksS P w A.in1 I fp wr G n Pv St) (S : Addr) (hS : S ∉ fp) (ks : List El) (hn : n = ks.length) (few : ks.length < 77)
    (val : ∀ i v, Pv i v → ∃ p : El, ks[i]? = some p ∧ v = .ref p.1) (h0 : Heap) (hk : ∀ p ∈ ks, ElAt h0 p) (nS : h0.get? S = none) (nw : ∀ b ∈ wr, h0.get? b = none) (hu : A.in1.units + 40 < cLine) :
    ∀ (k i : Nat) (s : Shared), i + k = n → St i s → (∀ b o, h0.get? b = some o → s.heap.get? b = some o) → (∃ L es ep t, SE w s.heap S L es ep t ∧ CameE ks i L) →
      (∀ s' L es ep t, Moved (S :: wr) G s s' → SE w s'.heap S L es ep t → CameE ks n L → (∀ b o, h0.get? b = some o → s'.heap.get? b = some o) → R (.ok (.ret .none)) s') → codeAny (model P w) A (.builtin "set.update.loop" ⟨[.ref S, .ref I], []⟩) R s := by
  have Sw : S ∉ wr := fun h => hS (W.sub _ h)
  have wider : ∀ b ∈ wr, b ∈ S :: wr := fun b hb => List.mem_cons_of_mem _ hb
  have stay : ∀ {s s' : Shared}, Moved wr G s s' → (∀ b o, h0.get? b = some o → s.heap.get? b = some o) → ∀ b o, h0.get? b = some o → s'.heap.get? b = some o := fun mv k b o e => mv.heap b o (fun hb => by rw [nw b hb] at e; cases e) (k b o e)
  intro k
  induction k with
  | zero =>
    intro i s hi hst keep ⟨L, es, ep, t, r, c⟩ fin
    obtain rfl : i = n := by omega
    refine codeAny_builtin F.entry_set_update_loop ?_
    rw [Around.under_plainId F.plain_set_update_loop _]
    refine wpAny_bind (m := pyNext (.ref I)) (W.done s _ _ hst fun s' mv => ?_)
    have keep' := stay mv keep
    refine wpAny_pure (fin s' L es ep t (mv.mono wider) (r.kept (fun o e => mv.heap S o Sw e) fun p hp => (hk p (List.mem_of_mem_take (c.of p hp))).kept keep') c keep')
  | succ k ih =>
    intro i s hi hst keep ⟨L, es, ep, t, r, c⟩ fin
    have lt : i < n := by omega
    refine codeAny_builtin F.entry_set_update_loop ?_
    rw [Around.under_plainId F.plain_set_update_loop _]
    refine wpAny_bind (m := pyNext (.ref I)) (W.item i s _ _ lt hst fun v s' hv hst' mv => ?_)
    obtain ⟨p, hp, rfl⟩ := val i v hv
    have keep' := stay mv keep
    have r' : SE w s'.heap S L es ep t := r.kept (fun o e => mv.heap S o Sw e) fun q hq => (hk q (List.mem_of_mem_take (c.of q hq))).kept keep'
    have hx : ElAt s'.heap p := (hk p (List.mem_of_getElem? hp)).kept keep'
    have dx := hx.d
    refine wpAny_bind (m := holding [Value.ref p.1] (setAdd S (.ref p.1))) (wpAny_holding ?_)
    unfold setAdd
    refine wpAny_holding (wpAny_bind (pyHash_key p.2 _ _ _ _ hx.is (by omega) ?_))
    refine SE.add (s := { s' with toks := s'.toks + p.2.draws }) r' hx hu (by have := c.len; omega) fun b h' L' es' ep' t' but r2 c1 c2 => ?_
    have keep2 : ∀ b o, h0.get? b = some o → h'.get? b = some o := fun b o e => (but.2 b fun z => by rw [z, nS] at e; cases e).trans (keep' b o e)
    refine wpAny_pure ⟨plainId_quiet F.plain_set_update_loop _, ih (i + 1) _ (by omega) (W.frame _ s' _ _ hst' (Nat.le_add_right _ _) fun b hb o e => ?_) keep2 ⟨L', es', ep', t', r2, c.step hp c1 c2⟩ fun s2 L2 es2 ep2 t2 mv2 r3 c3 keep3 => ?_⟩
    · exact (but.2 b fun z : b = S => hS (z ▸ hb)).trans e
    · refine fin s2 L2 es2 ep2 t2 (Moved.trans W.gtrans ((mv.mono wider).then_heap (Nat.le_add_right _ _) fun b o hb e => ?_) mv2) r3 c3 keep3
      exact (but.2 b fun z : b = S => hb (z ▸ List.mem_cons_self)).trans e
end
end Z
set_option Elab.async false
set_option linter.all false
set_option maxRecDepth 100000
/-! Z68: sorted(set(x)). -/
namespace Z
open PySem PySem.Spec PyProof.Rows L2
section
variable {P : Program} {w : World} {A : Around} {E : Value → Shared → Prop} {s : Shared}
set_option maxHeartbeats 3200000 in
theorem call_set_el {l : Addr} {items : Array Value} (ks : List El) {Q : Value → Shared → Prop} (hh : A.handled = none) (hl : s.heap.IsList l items) (hit : items.toList = ks.map fun p => Value.ref p.1) (hk : ∀ p ∈ ks, ElAt s.heap p) (few : ks.length < 77) (hu : A.units + 64 < cLine)
    (q : ∀ (h' : Heap) (tk : Nat) L es ep t, SE w h' s.heap.objs.size L es ep t → CameE ks ks.length L → (∀ b o, s.heap.get? b = some o → h'.get? b = some o) → Q (.ref s.heap.objs.size) { s with heap := h', toks := tk }) : wpAny (model P w) A (call (.type "set") [.ref l]) Q E s := by
  have isz : items.size = ks.length := by rw [← Array.length_toList, hit, List.length_map]
  obtain ⟨c, tl, hmro⟩ := F.called_set.mro
  have hmade := F.called_set.made
  have hsub := F.called_set.sub
  refine wpAny_call (codeAny_of_tree ?_)
  show wpAny _ _ (callAny (.type "set") _) _ _ _
  refine wpAny_pure ⟨Code.quiet_builtin _ (by decide +kernel), codeAny_builtin F.entry_type_call ?_⟩
  rw [Around.under_plain (weight_type_call_type "set" [.ref l] []) rfl]
  have h1 := F.called_set.notType
  have h2 := F.called_set.canCreate
  have hct := F.typeCall_set_1 (.ref l)
  repeat (any_goals (first | assumption | wp_step))
  refine codeAny_mono (code_set_led1 (.ref l) (E := E) (Q₁ := fun obj s₁ => obj = .ref s.heap.objs.size ∧ s₁ = { s with heap := s.heap.push (newSet w) }) ⟨rfl, rfl⟩) fun r s₁ hr => ?_
  cases r with
  | error e => exact hr
  | ok fl =>
    cases fl with
    | ret obj =>
      obtain ⟨rfl, rfl⟩ := hr
      have at_ : (s.heap.push (newSet w)).get? s.heap.objs.size = some (newSet w) := Heap.get?_push_size _ rfl
      have hT : Shared.TypeIs { s with heap := s.heap.push (newSet w) } (.ref s.heap.objs.size) "set" := ⟨_, at_, rfl⟩
      have hli := F.called_set.init.lookup
      have hbi := F.called_set.init.bind (.ref s.heap.objs.size)
      repeat (any_goals (first | assumption | wp_step))
      refine codeAny_mono (codeAny_call_builtin (R := wants (fun r s₂ => r = .none ∧ ∃ h' tk L es ep t, s₂ = { s with heap := h', toks := tk } ∧ SE w h' s.heap.objs.size L es ep t ∧ CameE ks ks.length L ∧
          (∀ b o, s.heap.get? b = some o → h'.get? b = some o)) E) F.called_set.init.plain F.entry_set_init (check_set_init_1 hT ?_)) fun r₂ s₂ hr₂ => ?_
      · obtain ⟨ol, hol, hcl, nl, hdl⟩ := hl
        obtain ⟨ocls, odict, odata, oslots⟩ := ol
        simp only at hcl hdl
        subst hcl hdl
        have lt : l < s.heap.objs.size := Heap.lt_size hol
        have hol' : (s.heap.push (newSet w)).get? l = some { cls := .type "list", dict := odict, data := .seq items nl, slots := oslots } := Heap.get?_push_of_some _ hol
        have hsls := F.sub_list_set
        have hslf := F.sub_list_frozenset
        have hne : (Value.type "list" == Value.type "dict") = false := by decide
        have hl1 : (s.heap.push (newSet w)).IsList l items := ⟨_, hol', rfl, nl, rfl⟩
        unfold Builtin.«set.__init__» noKeywords Builtin.Frozenset.updateFrom
        generalize hPI : pyIter = PI
        wp_walk
        subst hPI
        refine wpAny_pyIter_list hl1 ?_
        refine wpAny_bind (wpAny_runValue ?_)
        have hh3 : A.in1.in1.in1.handled = none := by simp [hh]
        have up : (s.heap.push (newSet w)).objs.size = s.heap.objs.size + 1 := Heap.size_push ..
        have val : ∀ (i : Nat) (v : Value), items[i]? = some v → ∃ p : El, ks[i]? = some p ∧ v = .ref p.1 := fun i v hv => by
          rw [← Array.getElem?_toList, hit, List.getElem?_map, Option.map_eq_some_iff] at hv
          obtain ⟨p, e1, e2⟩ := hv
          exact ⟨p, e1, e2.symm⟩
        have free : ∀ b, s.heap.objs.size ≤ b → s.heap.get? b = none := fun b hb => by
          cases e : s.heap.get? b with
          | none => rfl
          | some o => exact absurd (Nat.lt_of_lt_of_le (Heap.lt_size e) hb) (Nat.lt_irrefl _)
        refine put_all ((Walks.list hh3 _ l (by rw [up]; exact Nat.ne_of_lt (Nat.lt_succ_of_lt lt)) items).toS) s.heap.objs.size (by simp only [List.mem_cons, List.not_mem_nil, or_false, not_or]; rw [up]; exact ⟨Nat.ne_of_lt (Nat.lt_succ_self _), Nat.ne_of_gt lt⟩) ks isz few val s.heap hk (free _ (Nat.le_refl _)) (fun b hb => free b (by rw [List.mem_singleton.mp hb, up]; exact Nat.le_succ _)) (by simp only [Around.in1_units]; omega) items.size 0 _ (by omega)
          ⟨⟨_, Heap.get?_push_size _ rfl, rfl, rfl⟩, hl1.push _⟩ (fun b o e => Heap.get?_push_of_some _ (Heap.get?_push_of_some _ e)) ⟨[], #[], 0, _, SE.new (Heap.get?_push_of_some _ at_), ⟨fun _ h => (by cases h), fun _ h => (by simp at h), Nat.le_refl _⟩⟩ ?_
        intro s' L es ep t mv r' c' keep
        obtain ⟨h', g', d', tk', os'⟩ := s'
        have e1 : g' = s.gens := mv.gens
        have e2 : d' = s.drawn := mv.drawn
        have e3 : os' = s.os := mv.os
        subst e1 e2 e3
        rw [isz] at c'
        show wpAny _ _ _ _ _ _
        refine wpAny_pure ?_
        show wpAny _ _ (ret Value.none) _ _ _
        exact wpAny_pure ⟨rfl, h', tk', L, es, ep, t, rfl, r', c', keep⟩
      · cases r₂ with
        | error e => exact hr₂
        | ok fl₂ =>
          cases fl₂ with
          | ret r =>
            obtain ⟨rfl, h', tk, L, es, ep, t, rfl, r', c', keep⟩ := hr₂
            repeat (any_goals (first | assumption | wp_step))
            exact q _ _ _ _ _ _ r' c' keep
          | _ => exact hr₂.elim
    | _ => exact hr.elim
end
end Z
set_option Elab.async false
set_option linter.all false
set_option maxRecDepth 100000
/-! Z69: sorted(set(x)) as an expression. -/
namespace Z
open PySem PySem.Spec PyProof.Rows L2 RZ
theorem perm_of_map {α β : Type} {f : α → β} {ys : List β} {xs : List α} (h : ys.Perm (xs.map f)) : ∃ zs : List α, zs.Perm xs ∧ ys = zs.map f := by
  generalize e : xs.map f = ws at h
  induction h generalizing xs with
  | nil => exact ⟨xs, .refl _, e.symm⟩
  | @cons x l1 l2 h ih =>
    cases xs with
    | nil => cases e
    | cons y xs =>
      simp only [List.map_cons, List.cons.injEq] at e
      obtain ⟨rfl, e⟩ := e
      obtain ⟨vs, p, rfl⟩ := ih e
      exact ⟨y :: vs, p.cons y, rfl⟩
  | swap x y l =>
    match xs, e with
    | a :: b :: xs, e =>
      simp only [List.map_cons, List.cons.injEq] at e
      obtain ⟨rfl, rfl, rfl⟩ := e
      exact ⟨b :: a :: xs, .swap _ _ _, rfl⟩
  | trans h1 h2 ih1 ih2 =>
    obtain ⟨v2, p2, rfl⟩ := ih2 e
    obtain ⟨v1, p1, rfl⟩ := ih1 rfl
    exact ⟨v1, p1.trans p2, rfl⟩
section
variable {X : Cx} {pins : List (Addr × Obj)} {σ : L2.St} {H : Hp} {s : Shared}
/-- each element stands for data -/
def Stands (X : Cx) (H : Hp) (p : El) (d : D) : Prop := keyN d = some p.2 ∧ ∃ v, RelV v (.ref p.1) ∧ RepD X.K H d v
theorem stand_all : ∀ {L : List El}, (∀ p ∈ L, ∃ d, Stands X H p d) → ∃ bs : List D, PySem.W.EachIs (fun u d => ∃ v, RelV v u ∧ RepD X.K H d v) (L.map fun p => Value.ref p.1) bs ∧ bs.map keyN = L.map fun p => some p.2
  | [], _ => ⟨[], .nil, rfl⟩
  | p :: L, h => by
    obtain ⟨d, e, v⟩ := h p (by simp)
    obtain ⟨bs, b1, b2⟩ := stand_all (L := L) fun q hq => h q (by simp [hq])
    exact ⟨d :: bs, .cons v b1, by rw [List.map_cons, List.map_cons, e, b2]⟩
theorem sort_el {a : Addr} {L : List El} {es : Array (Int × Value)} {ep : Nat} {t : SetTable} (I : Inv X pins σ H s) (R : SE X.w s.heap a L es ep t) (hc : X.A.handled = none) (hu : X.A.units + 64 < cLine) (st : ∀ p ∈ L, ∃ d, Stands X H p d)
    (ok : ∀ bs : List D, (∀ d ∈ bs, ∃ p ∈ L, keyN d = some p.2) → PySem.W.AllAlike (bs.map py) ∧ PySem.W.Sortable (bs.map py) ∧ ∀ d ∈ bs, (py d).depth ≤ 50) {Q : V → Hp → Prop} {E : Value → Shared → Prop}
    (q : ∀ (bs : List D) (p : Addr) (us : List V), bs.Nodup → (∀ d ∈ bs, ∃ r ∈ L, keyN d = some r.2) → (∀ r ∈ L, ∃ d ∈ bs, keyN d = some r.2) → H p = none → RepDs X.K H (srtD bs) us → Q (.ref p) (upd H p (.lst us))) :
    wpAny (model X.prog X.w) X.A (call (.builtin "sorted") [.ref a]) (fun u s' => ∃ v H', Inv X pins σ H' s' ∧ RelV v u ∧ Q v H') E s := by
  obtain ⟨o, ho, hex, hd⟩ := R.ob
  have few := R.few
  have size := R.size
  refine Calls.call_function_entry kind_sorted plain_sorted entry_sorted (args_sorted1 _) ?_
  unfold Builtin.«sorted»
  refine wpAny_bind (m := checkCount "sorted" 1 1 _) (wpAny_pure ?_)
  refine wpAny_bind (collect_set (A := X.A.in1) hc ⟨o, ho, hex.1, hd⟩ R.fits (by unfold scanBound; omega) R.tab.ris R.led fun s1 vs k1 hz g1 o1 pm => ?_)
  have e0 : es.toList.map (·.2) = L.map fun p => Value.ref p.1 := by rw [R.rows, List.map_map]; rfl
  rw [e0] at pm
  obtain ⟨M, mp, rfl⟩ := perm_of_map pm
  obtain ⟨bs, b1, b2⟩ := stand_all (X := X) (H := H) (L := M) fun p hp => st p (mp.mem_iff.mp hp)
  have mem : ∀ d ∈ bs, ∃ p ∈ M, keyN d = some p.2 := fun d hd => by
    have h1 : keyN d ∈ bs.map keyN := List.mem_map.mpr ⟨d, hd, rfl⟩
    rw [b2] at h1
    obtain ⟨p, hp, e⟩ := List.mem_map.mp h1
    exact ⟨p, hp, e.symm⟩
  have mem2 : ∀ p ∈ M, ∃ d ∈ bs, keyN d = some p.2 := fun p hp => by
    have h1 : some p.2 ∈ M.map fun p => some p.2 := List.mem_map.mpr ⟨p, hp, rfl⟩
    rw [← b2] at h1
    exact List.mem_map.mp h1
  have nd : bs.Nodup := by
    refine nodup_of_map (f := keyN) ?_
    rw [b2]
    have h1 : (M.map (·.2)).Nodup := (mp.map (·.2)).nodup_iff.mpr R.nd
    have h2 : M.map (fun p => some p.2) = (M.map (·.2)).map some := by rw [List.map_map]; rfl
    rw [h2]
    exact List.Pairwise.map _ (fun _ _ h z => h (Option.some.inj z)) h1
  obtain ⟨al, so, dp⟩ := ok bs fun d hd => by
    obtain ⟨p, hp, e⟩ := mem d hd
    exact ⟨p, mp.mem_iff.mp hp, e⟩
  have ml : M.length < 77 := by rw [mp.length_eq]; exact few
  refine wpAny_bind (wpAny_newList ?_ (by rw [List.length_map, sizeLine_eq]; omega))
  have at_ : (s1.heap.push (seqObj "list" (M.map fun p => Value.ref p.1).toArray 0)).get? s1.heap.objs.size = some (seqObj "list" (M.map fun p => Value.ref p.1).toArray 0) := Heap.get?_push_size _ rfl
  have old : ∀ b u, s.heap.get? b = some u → (PySem.W.sortingHeap (s1.heap.push (seqObj "list" (M.map fun p => Value.ref p.1).toArray 0)) s1.heap.objs.size (M.map fun p => Value.ref p.1)).get? b = some u := fun b u e => by
    have h1 := k1 b u e
    have lt := Heap.lt_size h1
    exact PySem.W.sortingHeap_old (Nat.ne_of_lt lt) (Heap.get?_push_of_some _ h1)
  have I2 : Inv X pins σ H { s with heap := PySem.W.sortingHeap (s1.heap.push (seqObj "list" (M.map fun p => Value.ref p.1).toArray 0)) s1.heap.objs.size (M.map fun p => Value.ref p.1) } := I.kept (t' := s.toks) old
  obtain ⟨vv, rv, va⟩ := rep_each b1
  have ea := each_reads I2 rv va
  have sa := PySem.W.SortsAt.data (prog := X.prog) (w := X.w) (A := X.A.in1.in1) (s := { s1 with heap := PySem.W.sortingHeap (s1.heap.push (seqObj "list" (M.map fun p => Value.ref p.1).toArray 0)) s1.heap.objs.size (M.map fun p => Value.ref p.1) }) ea al so (fun d hm => by
    obtain ⟨e, he, rfl⟩ := List.mem_map.mp hm
    have := dp e he
    show X.A.units + 1 + 1 + _ < _
    omega)
  refine wpAny_bind (wpAny_holding (wpAny_call_entry slot_list_sort ⟨_, at_, rfl⟩ entry_list_sort (PySem.W.list_sort_vals at_ sa (by rw [List.length_map, sizeLine_eq]; omega) ⟨.none, rfl, ?_⟩) (args_list_sort _)))
  have er := PySem.W.keyedOut_each (rev := false) py ⟨_, _, al, rfl, ea⟩ b1
  obtain ⟨us, u1, u2⟩ := rep_each er
  have lt2 : ∀ b u, s.heap.get? b = some u → (sortedHeap (s1.heap.push (seqObj "list" (M.map fun p => Value.ref p.1).toArray 0)) s1.heap.objs.size (M.map fun p => Value.ref p.1) (PySem.W.sortVals (PySem.W.dataKind (PySem.W.sortingHeap (s1.heap.push (seqObj "list" (M.map fun p => Value.ref p.1).toArray 0)) s1.heap.objs.size (M.map fun p => Value.ref p.1)) (bs.map py)) false (M.map fun p => Value.ref p.1) (M.map fun p => Value.ref p.1)).toArray).get? b = some u := fun b u e => by
    have h1 := k1 b u e
    have lt := Heap.lt_size h1
    rw [sortedHeap_old (Nat.ne_of_lt lt) (by rw [size_push']; exact Nat.lt_succ_of_lt lt)]
    exact Heap.get?_push_of_some _ h1
  obtain ⟨c, hc2⟩ := sortedHeap_at (vs := M.map fun p => Value.ref p.1) (out := (PySem.W.sortVals (PySem.W.dataKind (PySem.W.sortingHeap (s1.heap.push (seqObj "list" (M.map fun p => Value.ref p.1).toArray 0)) s1.heap.objs.size (M.map fun p => Value.ref p.1)) (bs.map py)) false (M.map fun p => Value.ref p.1) (M.map fun p => Value.ref p.1)).toArray) at_
  generalize sortedHeap (s1.heap.push (seqObj "list" (M.map fun p => Value.ref p.1).toArray 0)) s1.heap.objs.size (M.map fun p => Value.ref p.1) _ = hF at lt2 hc2 ⊢
  have fresh : H s1.heap.objs.size = none := I.hok.fresh hz
  have bl : bs.length = M.length := by
    have := congrArg List.length b2
    simpa using this
  have len : us.length ≤ sizeLine := by
    have l3 : (srtD bs).length = bs.length := List.length_mergeSort bs
    have l4 : us.length = (bs.mergeSort (PySem.W.dataLe false py)).length := u1.len
    have l5 : (bs.mergeSort (PySem.W.dataLe false py)).length = bs.length := l3
    rw [l4, l5, bl, sizeLine_eq]; omega
  have J : Inv X pins σ (upd H s1.heap.objs.size (.lst us)) { s with heap := hF, gens := s1.gens, drawn := s1.drawn, toks := s1.toks } :=
    I.call (ch := []) (Un.laid lt2 hz fresh) (I.hok.laid lt2 hz ⟨len, _, c, u2, hc2⟩) (by rw [g1]; exact I.bare) (fun _ z => nomatch z)
  have es1 : { s1 with heap := hF } = { s with heap := hF, gens := s1.gens, drawn := s1.drawn, toks := s1.toks } := by
    cases s1; cases s; cases o1; rfl
  refine wpAny_pure ⟨_, rfl, .ref s1.heap.objs.size, _, ?_, rfl, q bs s1.heap.objs.size us nd (fun d hd => ?_) (fun r hr => ?_) fresh u1⟩
  · rw [es1]
    exact J
  · obtain ⟨p, hp, e⟩ := mem d hd
    exact ⟨p, mp.mem_iff.mp hp, e⟩
  · exact mem2 r (mp.mem_iff.mpr hr)
/-- an element: a tuple that dicts take for a key -/
def elOk : D → Bool
  | .tup xs => keyOk (.tup xs)
  | _ => false
mutual
theorem pk_of : ∀ (x : D) (k : NestedKey), keyN x = some k → pk k = true
  | .non, k, e => by simp only [keyN] at e; cases e; rfl
  | .int i, k, e => by simp only [keyN] at e; cases e; rfl
  | .tup xs, k, e => by
    obtain ⟨ks, e1, rfl⟩ := keyN_tup xs k e
    rw [pk]
    exact pks_of xs ks e1
  | .bl _, k, e => by simp [keyN] at e
  | .str _, k, e => by simp [keyN] at e
  | .lst _, k, e => by simp [keyN] at e
theorem pks_of : ∀ (xs : List D) (ks : List NestedKey), keysN xs = some ks → pks ks = true
  | [], ks, e => by simp only [keysN] at e; cases e; rfl
  | x :: xs, ks, e => by
    obtain ⟨a, as, e1, e2, rfl⟩ := keysN_cons e
    rw [pks, pk_of x a e1, pks_of xs as e2]; rfl
end
theorem els_of (I : Inv X pins σ H s) : ∀ {ds : List D} {vs : List V} {its : List Value}, RepDs X.K H ds vs → Vals vs its → (∀ d ∈ ds, elOk d = true) →
    ∃ ks : List El, its = ks.map (fun p => Value.ref p.1) ∧ ks.length = ds.length ∧ (∀ p ∈ ks, ElAt s.heap p ∧ ∃ d ∈ ds, Stands X H p d) ∧ ∀ d ∈ ds, ∃ p ∈ ks, keyN d = some p.2
  | [], _, _, h, r, _ => by cases h; cases r; exact ⟨[], rfl, rfl, fun _ h => by simp at h, fun _ h => by simp at h⟩
  | d :: ds, _, _, ⟨v, t, e, h, q⟩, r, ok => by
    subst e
    cases r with
    | cons r1 r2 =>
      rename_i u us
      obtain ⟨ks, e1, e2, e3, e4⟩ := els_of I q r2 fun d hd => ok d (by simp [hd])
      have od := ok d (by simp)
      match d, od, h with
      | .tup xs, od, h =>
        obtain ⟨k, ek, dk⟩ := keyOk_get (x := .tup xs) od
        have hN := nest_of I (.tup xs) v u k h r1 ek
        obtain ⟨a, ws, rfl, _, _⟩ := h
        obtain rfl : u = Value.ref a := r1
        refine ⟨(a, k) :: ks, by rw [e1]; rfl, by simp [e2], fun p hp => ?_, fun d hd => ?_⟩
        · rcases List.mem_cons.mp hp with rfl | hp
          · exact ⟨⟨hN, dk, pk_of _ k ek⟩, .tup xs, by simp, ek, V.ref a, (show RelV (V.ref a) (Value.ref a) from rfl), ⟨a, ws, rfl, by assumption, by assumption⟩⟩
          · obtain ⟨h1, d, hd, h2⟩ := e3 p hp
            exact ⟨h1, d, by simp [hd], h2⟩
        · rcases List.mem_cons.mp hd with rfl | hd
          · exact ⟨(a, k), by simp, ek⟩
          · obtain ⟨p, hp, e⟩ := e4 d hd
            exact ⟨p, by simp [hp], e⟩
end
section
variable {X : Cx} {e : Expr} {we : PE1}
def tSrtSet (K : PySem.W.Frag) (te : TE) : TE := fun σ H Q => te σ H fun x H1 => ∃ (l : Addr) (ds : List D) (vs : List V), (x = .ref l ∧ SqL K H1 l vs ∧ RepDs K H1 ds vs) ∧ (∀ d ∈ ds, elOk d = true) ∧ ds.length < 77 ∧ (PySem.W.AllAlike (ds.map py) ∧ PySem.W.Sortable (ds.map py) ∧ ∀ d ∈ ds, (py d).depth ≤ 50) ∧
  ∀ (M : List D) (p : Addr) (us : List V), M.Nodup → (∀ y, y ∈ M ↔ y ∈ ds) → H1 p = none → RepDs K H1 (srtD M) us → Q (.ref p) (upd H1 p (.lst us))
theorem pe_srtSet {te : TE} {p p2 q pos : Pos} (g1 : Gl X "sorted") (m1 : X.mg "sorted" = none) (g2 : Gl X "set") (m2 : X.mg "set" = none) (h : PE X e te) (hu : X.A.units + 64 < cLine) (hc : X.calm = true := by rfl)
    (st : starEach [e] X.env = (false, eval e X.env) :: starEach [] X.env := by rfl) : PE X (.Call (.Name "sorted" p) [.Call (.Name "set" p2) [e] [] q] [] pos) (tSrtSet X.K te) := by
  constructor
  intro pins s σ H Q I z
  refine Call_ (ld_blt I g1 m1 boot_sorted ?_)
  refine callWith_builtin1 (args_cons ?_ rfl) rfl rfl
  refine Call_ (ld_blt I g2 m2 boot_set ?_)
  refine callWith_type1 (args_cons (thn (h.run pins s σ H _ I z) fun v s1 ⟨x, H1, I1, r1, q1⟩ => args_nil ?_) st) st rfl
  obtain ⟨l, ds, vs, ⟨rfl, sq, rd⟩, ok, few, ⟨al, so, dp⟩, q1⟩ := q1
  cases r1
  obtain ⟨its, rv, pl, _⟩ := I1.list sq
  obtain ⟨ks, e1, e2, e3, e4⟩ := els_of I1 rd rv ok
  refine call_set_el (P := X.prog) (w := X.w) ks (I1.ok.hd hc) pl.isList (by simpa using e1) (fun p hp => (e3 p hp).1) (by omega) (by omega) fun h' tk L es ep t R c keep => ?_
  refine args_nil ?_
  have I2 : Inv X pins σ H1 { s1 with heap := h', toks := tk } := I1.kept keep
  have inK : ∀ p ∈ L, p ∈ ks := fun p hp => List.mem_of_mem_take (c.of p hp)
  have same : ∀ d, (∃ p ∈ L, keyN d = some p.2) → d ∈ ds := fun d ⟨p, hp, e⟩ => by
    obtain ⟨_, d2, h2, e5, _⟩ := e3 p (inK p hp)
    rw [keyN_inj d d2 p.2 e e5]
    exact h2
  refine thn (sort_el (s := { s1 with heap := h', toks := tk }) I2 R (I1.ok.hd hc) hu (fun p hp => by
    obtain ⟨_, d, _, sd⟩ := e3 p (inK p hp)
    exact ⟨d, sd⟩) (fun bs hb => ?_) (Q := Q) fun bs p us nd h1 h2 hp hr => q1 bs p us nd (fun y => ⟨fun hy => same y (h1 y hy), fun hy => ?_⟩) hp hr) fun v s2 h => h
  · have sub : ∀ d ∈ bs, d ∈ ds := fun d hd => same d (hb d hd)
    have subm : ∀ x ∈ bs.map py, x ∈ ds.map py := fun x hx => by
      obtain ⟨d, hd, rfl⟩ := List.mem_map.mp hx
      exact List.mem_map.mpr ⟨d, sub d hd, rfl⟩
    refine ⟨fun a ha b hb => al a (subm a ha) b (subm b hb), ?_, fun d hd => dp d (sub d hd)⟩
    rcases so with so | so
    · exact .inl fun a ha => so a (subm a ha)
    · exact .inr fun a ha => so a (subm a ha)
  · obtain ⟨p, hp, e⟩ := e4 y hy
    have := c.all p (by rw [List.take_length]; exact hp)
    obtain ⟨r, hr, er⟩ := List.mem_map.mp this
    obtain ⟨d, hd, ed⟩ := h2 r hr
    rw [er] at ed
    rw [keyN_inj y d p.2 e ed]
    exact hd
/-- sorted(set(x)) -/
abbrev wSrtSet (w : PE1) : PE1 := fun r S W => w r S fun x S1 => match isLst x, seqOf S1 x with
  | true, some ds => (∀ d ∈ ds, elOk d = true) ∧ ds.length < 77 ∧ (PySem.W.AllAlike (ds.map py) ∧ PySem.W.Sortable (ds.map py) ∧ ∀ d ∈ ds, (py d).depth ≤ 50) ∧ ∀ M : List D, M.Nodup → (∀ y, y ∈ M ↔ y ∈ ds) → W (.f (srtD M)) S1
  | _, _ => False
theorem we_srtSet {p p2 q pos : Pos} (g1 : Gl X "sorted") (m1 : X.mg "sorted" = none) (g2 : Gl X "set") (m2 : X.mg "set" = none) (hu : X.A.units + 64 < cLine) (h : WE X e we) (hc : X.calm = true := by rfl)
    (st : starEach [e] X.env = (false, eval e X.env) :: starEach [] X.env := by rfl) : WE X (.Call (.Name "sorted" p) [.Call (.Name "set" p2) [e] [] q] [] pos) (wSrtSet we) :=
  ⟨peImp (pe_srtSet g1 m1 g2 m2 h.pe hu hc st) fun s H Q ⟨m, r, S, W, hE, hS, hw, hf⟩ => up1 hE hS hw fun x S1 v m1 H1 h1 g1 r1 q1 => by
    split at h1
    · rename_i ds hl es
      obtain ⟨a, vs, rfl, k1, k2⟩ := q1.seq r1 es
      rw [if_pos hl] at k2
      exact ⟨a, ds, vs, ⟨rfl, k2, k1⟩, h1.1, h1.2.1, h1.2.2.1, fun M p us nd hm hp hr => (hf.later g1 r1).lst r1 hr (h1.2.2.2 M nd hm) p hp⟩
    · exact h1.elim⟩
end
end Z
set_option Elab.async false
set_option linter.all false
set_option maxRecDepth 100000
/-! R102: keeps, to twelve points (k39). -/
namespace Z
open PySem PySem.Spec PyProof.Rows L2 RZ
def spKeepsN : SpZ := fun rs S W => match rs, S with
  | [.loc 0], [.lst xs] => ∃ (ps : List Pt) (L : Nat), xs = ptL ps ∧ ps.length ≤ 12 ∧ 0 < L ∧ Bd 50 (L : Int) ∧ (∀ p ∈ ps, ∀ q ∈ qsOf p, q.den ∣ L ∧ Bd 100 q.num ∧ Bd 100 (q.num * ((L / q.den : Nat) : Int))) ∧
      ((∀ p ∈ ps, ∀ r ∈ ps, crs (wayOf (cbot ps) p) (wayOf (cbot ps) r) = [0, 0, 0]) → ∀ ys, W (.tr [.d (.str (PySem.Str.ofString "line"))]) [.lst xs, .lst ys]) ∧
      ((∃ p ∈ ps, ∃ r ∈ ps, crs (wayOf (cbot ps) p) (wayOf (cbot ps) r) ≠ [0, 0, 0]) → ∀ ws : List Fo, KeepL ps ws → (∀ f ∈ ws, ∀ x ∈ f, Bd 2000 x) → ∀ ys ep kvs zs, W (.tr [.d (.str (PySem.Str.ofString "some")), .loc 4]) [.lst xs, .lst ys, .dct ep kvs, .lst zs, .lst (srtD (fsL ws))])
  | _, _ => False
theorem num_den (q : Rat) : ∃ d : Rat, d ≠ 0 ∧ ((q.den : Int) : Rat) = d ∧ (q.num : Rat) = q * d := by
  have hd : (q.den : Rat) ≠ 0 := by exact_mod_cast (by have := q.den_pos; omega : q.den ≠ 0)
  refine ⟨(q.den : Rat), hd, rfl, ?_⟩
  conv => rhs; lhs; rw [← Rat.mkRat_self q, Rat.mkRat_eq_div]
  rw [Rat.div_def, Rat.mul_assoc, Rat.inv_mul_cancel _ hd, Rat.mul_one]
theorem frac_up2 {a b c d : Rat} : ((a.num * b.num * ((c.den : Int) * (d.den : Int)) - c.num * d.num * ((a.den : Int) * (b.den : Int)) : Int) : Rat) / (((a.den : Int) * (b.den : Int) * ((c.den : Int) * (d.den : Int)) : Int) : Rat) = a * b - c * d := by
  obtain ⟨da, za, e1, f1⟩ := num_den a
  obtain ⟨db, zb, e2, f2⟩ := num_den b
  obtain ⟨dc, zc, e3, f3⟩ := num_den c
  obtain ⟨dd, zd, e4, f4⟩ := num_den d
  simp only [Rat.intCast_sub, Rat.intCast_mul, e1, e2, e3, e4, f1, f2, f3, f4]
  have hz : da * db * (dc * dd) ≠ 0 := fun z => by
    rcases Rat.mul_eq_zero.mp z with z | z
    · rcases Rat.mul_eq_zero.mp z with z | z
      · exact za z
      · exact zb z
    · rcases Rat.mul_eq_zero.mp z with z | z
      · exact zc z
      · exact zd z
  have hn : a * da * (b * db) * (dc * dd) - c * dc * (d * dd) * (da * db) = (a * b - c * d) * (da * db * (dc * dd)) := by grind
  rw [hn, Rat.div_def, Rat.mul_assoc, Rat.mul_inv_cancel _ hz, Rat.mul_one]
/-- all pairs of some points -/
def prP (us : List Pt) : List (Pt × Pt) := us.flatMap fun c => us.map fun d => (c, d)
/-- the marks of some points by two -/
def mk3 (us : List Pt) (a b : Pt) : List Pt := us.map fun p => (dP p a, dP p b, dP p (xP a b))
theorem eqa_pts : ∀ {xs ys : List Pt}, PyData.eqvAll (pys (ptL xs)) (pys (ptL ys)) = decide (xs = ys)
  | [], [] => by simp [ptL, pys, PyData.eqvAll]
  | [], _ :: _ => by simp [ptL, pys, PyData.eqvAll]
  | _ :: _, [] => by simp [ptL, pys, PyData.eqvAll]
  | x :: xs, y :: ys => by
    have ih := @eqa_pts xs ys
    simp only [ptL, List.map_cons, pys] at ih ⊢
    rw [eqa_cc, eqv_pt, ih]
    by_cases h : x = y
    · subst h; simp
    · simp [h]
theorem marks_eq (l m : List Pt) : PyData.eqvAll (pys (srtD (ptL l))) (pys (srtD (ptL m))) = l.isPerm m := by
  obtain ⟨us, e1, p1⟩ := srt_pt l
  obtain ⟨vs, e2, p2⟩ := srt_pt m
  rw [e1, e2, eqa_pts]
  rw [Bool.eq_iff_iff, decide_eq_true_iff, List.isPerm_iff]
  constructor
  · rintro rfl
    exact p1.symm.trans p2
  · intro h
    have e3 := srt_ptP h
    rw [e1, e2] at e3
    have := congrArg (List.map unP) e3
    have un : ∀ ws : List Pt, (ptL ws).map unP = ws := fun ws => by
      rw [ptL, List.map_map]
      conv => rhs; rw [← List.map_id ws]
      exact List.map_congr_left fun f _ => unP_pt f
    rwa [un, un] at this
/-- a pair with the sizes and the marks of another one -/
def goodP (us : List Pt) (a b : Pt) (c : Pt × Pt) : Bool := decide ([dP c.1 c.1, dP c.1 c.2, dP c.2 c.2] = [dP a a, dP a b, dP b b]) && (mk3 us c.1 c.2).isPerm (mk3 us a b)
def prT (us : List Pt) (i : Nat) : List (Pt × Pt) := (us.take i).flatMap fun c => us.map fun d => (c, d)
theorem prT_succ {us : List Pt} {i : Nat} {c : Pt} (h : us[i]? = some c) : prT us (i + 1) = prT us i ++ us.map fun d => (c, d) := by
  unfold prT
  rw [List.take_add_one, h, List.flatMap_append]; simp
theorem prT_all (us : List Pt) : prT us us.length = prP us := by unfold prT prP; rw [List.take_length]
theorem depth_ptL : ∀ us : List Pt, PyData.depthAll (pys (ptL us)) ≤ 50
  | [] => by simp [ptL, pys, PyData.depthAll]
  | u :: us => by
    have h1 := (pt_sort [u]).2 (ptD u) (by simp [ptL])
    have h2 := depth_ptL us
    have h4 : ptL (u :: us) = ptD u :: ptL us := rfl
    rw [h4, pys, PyData.depthAll]
    omega
theorem depth_pts (l : List Pt) : PyData.depthAll (pys (srtD (ptL l))) ≤ 50 := by
  obtain ⟨us, e, _⟩ := srt_pt l
  rw [e]
  exact depth_ptL us
end Z
set_option Elab.async false
set_option linter.all false
set_option maxRecDepth 100000
/-! R103: a group made by its makers (k39). -/
namespace Z
open PySem PySem.Spec PyProof.Rows L2 RZ
def stG (s : List Fo) (x m : Fo) : List Fo := if pln (qmul m x) ∈ s then s else s ++ [pln (qmul m x)]
def goG (ms : List Fo) : Nat → Nat → List Fo → List Fo
  | 0, _, s => s
  | f + 1, at_, s => match s[at_]? with
    | some x => goG ms f (at_ + 1) (ms.foldl (fun s m => stG s x m) s)
    | none => s
theorem stG_pre (s : List Fo) (x m : Fo) : s <+: stG s x m := by
  unfold stG
  split
  · exact List.prefix_refl _
  · exact List.prefix_append _ _
theorem fold_pre (x : Fo) : ∀ (ms : List Fo) (s : List Fo), s <+: ms.foldl (fun s m => stG s x m) s
  | [], s => List.prefix_refl _
  | m :: ms, s => (stG_pre s x m).trans (fold_pre x ms _)
theorem goG_pre (ms : List Fo) : ∀ (f at_ : Nat) (s : List Fo), s <+: goG ms f at_ s
  | 0, _, s => List.prefix_refl _
  | f + 1, at_, s => by
    unfold goG
    split
    · exact (fold_pre _ ms s).trans (goG_pre ms f _ _)
    · exact List.prefix_refl _
/-- makers, and what they make -/
structure OkM (ms : List Fo) : Prop where
  l : ms.length ≤ 2
  m : ∀ m ∈ ms, m.length = 4 ∧ (∃ n ∈ m, n ≠ 0) ∧ ∀ x ∈ m, x.natAbs ≤ 1
  few : (goG ms 24 0 [[1, 0, 0, 0]]).length ≤ 12
  g : ∀ f ∈ goG ms 24 0 [[1, 0, 0, 0]], f.length = 4 ∧ (∃ n ∈ f, n ≠ 0) ∧ (∀ x ∈ f, x.natAbs ≤ 2) ∧ nrmI f ∣ 4
def kindsG : List (List Fo) := [[[0, 1, 0, 0]], [[1, 1, 1, 1]], [[1, 1, 0, 0]], [[0, 1, 0, 0], [0, 0, 1, 0]], [[1, 1, 1, 1], [0, 1, -1, 0]], [[1, 0, 0, 1], [0, 1, 0, 0]], [[1, 1, 1, 1], [0, 0, 0, 1]]]
theorem kinds_ok : ∀ ms ∈ kindsG, OkM ms := by
  have h : ∀ ms ∈ kindsG, ms.length ≤ 2 ∧ (∀ m ∈ ms, m.length = 4 ∧ (∃ n ∈ m, n ≠ 0) ∧ ∀ x ∈ m, x.natAbs ≤ 1) ∧ (goG ms 24 0 [[1, 0, 0, 0]]).length ≤ 12 ∧ ∀ f ∈ goG ms 24 0 [[1, 0, 0, 0]], f.length = 4 ∧ (∃ n ∈ f, n ≠ 0) ∧ (∀ x ∈ f, x.natAbs ≤ 2) ∧ nrmI f ∣ 4 := by decide +kernel
  exact fun ms hm => ⟨(h ms hm).1, (h ms hm).2.1, (h ms hm).2.2.1, (h ms hm).2.2.2⟩
theorem any_fo (f : Fo) : ∀ t : List Fo, ((pys (fsL t)).any fun z => z.eqv (py (D.tup (f.map D.int)))) = decide (f ∈ t)
  | [] => by simp [pys]
  | g :: t => by
    have ih := any_fo f t
    have e : (py (D.tup (g.map D.int))).eqv (py (D.tup (f.map D.int))) = decide (g = f) := by
      rw [show py (D.tup (g.map D.int)) = PyData.tuple (pys (g.map D.int)) from rfl, show py (D.tup (f.map D.int)) = PyData.tuple (pys (f.map D.int)) from rfl, eqv_tt, eqv_ints]
    rw [show fsL (g :: t) = D.tup (g.map D.int) :: fsL t from rfl, pys, List.any_cons, ih, e]
    by_cases h : g = f
    · subst h; simp
    · have h' : ¬ f = g := fun z => h z.symm
      simp [h, h']
/-- a fraction with a small bottom -/
def NrQ (q : Rat) : Prop := Bd 31 q.num ∧ Bd 6 (q.den : Int)
theorem NrQ.made {t b : Int} (hb : b ≠ 0) (h1 : Bd 31 t) (h2 : Bd 6 b) : NrQ ((t : Rat) / (b : Rat)) := by
  rw [← Rat.divInt_eq_div]
  unfold NrQ
  simp only [bd_iff] at *
  rw [Rat.num_divInt, Rat.den_divInt, if_neg hb]
  have sg : b.sign.natAbs = 1 := Int.natAbs_sign_of_ne_zero hb
  constructor
  · refine Nat.lt_of_le_of_lt (Int.natAbs_ediv_le_natAbs _ _) ?_
    rw [Int.natAbs_mul, sg, Nat.one_mul]
    exact h1
  · simp only [Int.natAbs_natCast]
    exact Nat.lt_of_le_of_lt (Nat.div_le_self _ _) h2
def spNr : SpZ := fun rs S W => match rs, S with
  | [.loc 0], [.lst [.int _, .int _]] => ∀ (p : Pt) (a b : Int), (∀ q ∈ qsOf p, NrQ q) → W (.d (ptD p)) [.lst [.int a, .int b]]
  | _, _ => False
/-- over this bottom, tops of such sizes -/
def GP (L b : Nat) (p : Pt) : Prop := 0 < L ∧ ∀ q ∈ qsOf p, q.den ∣ L ∧ Bd b (topOf L q)
theorem GP.rot {m n L : Nat} {a : List Int} (ha : a.length = 4) (hz : ∃ x ∈ a, x ≠ 0) (hb : ∀ x ∈ a, Bd m x) {p : Pt} (hp : GP L n p) : GP ((nrmI a).toNat * L) (2 * m + n + 4) (Z.rot a p) := by
  obtain ⟨h0, h2⟩ := hp
  have nb : Bd (m + m + 2) (nrmI a) := nrmI_bd hb
  have npos : 0 < nrmI a := by
    obtain ⟨w, x, y, z, rfl⟩ := four_of ha
    exact nrmI_pos hz
  have rb := rowsI_bd hb
  have e := rot_rows ha hz h0 (h2 p.1 (by simp [qsOf])).1 (h2 p.2.1 (by simp [qsOf])).1 (h2 p.2.2 (by simp [qsOf])).1
  obtain ⟨N, hN⟩ : ∃ N : Nat, nrmI a = (N : Int) := ⟨(nrmI a).toNat, by omega⟩
  rw [show (nrmI a).toNat = N by omega]
  have hN0 : 0 < N := by omega
  refine ⟨Nat.mul_pos hN0 h0, ?_⟩
  · have key : ∀ row ∈ rowsI a, ∀ q : Rat, q = (dotI row L p : Rat) / ((nrmI a * (L : Int) : Int) : Rat) → q.den ∣ N * L ∧ Bd (2 * m + n + 4) (topOf (N * L) q) := fun row hr q hq => by
      have r := rb row hr
      obtain ⟨r1, r2, r3, rfl⟩ := rowsI_three hr
      simp only [List.mem_cons, List.not_mem_nil, or_false, forall_eq_or_imp, forall_eq] at r
      obtain ⟨b1, b2, b3⟩ := r
      have c1 := (h2 p.1 (by simp [qsOf])).2
      have c2 := (h2 p.2.1 (by simp [qsOf])).2
      have c3 := (h2 p.2.2 (by simp [qsOf])).2
      have e1 : ((nrmI a * (L : Int) : Int)) = ((N * L : Nat) : Int) := by rw [hN]; rfl
      rw [e1] at hq
      obtain ⟨k1, k2⟩ := den_dvd (Nat.mul_pos hN0 h0) hq
      refine ⟨k1, ?_⟩
      rw [k2]
      simp only [dotI]
      exact (((b1.mul c1).add (b2.mul c2)).add (b3.mul c3)).mono (by omega)
    rw [ptD_qs] at e
    have e2 : (qsOf (Z.rot a p)).map frD = ((rowsI a).map fun row => (dotI row L p : Rat) / ((nrmI a * (L : Int) : Int) : Rat)).map frD := by
      rw [List.map_map]; simpa [Function.comp_def] using e
    have inj : ∀ xs ys : List Rat, xs.map frD = ys.map frD → xs = ys := by
      intro xs
      induction xs with
      | nil => intro ys h; cases ys with
        | nil => rfl
        | cons y ys => simp at h
      | cons x xs ih => intro ys h; cases ys with
        | nil => simp at h
        | cons y ys =>
          simp only [List.map_cons, List.cons.injEq] at h
          rw [frD_inj.mp h.1, ih ys h.2]
    rw [inj _ _ e2]
    intro q hq
    obtain ⟨row, hr, rfl⟩ := List.mem_map.mp hq
    exact key row hr _ rfl
theorem GP.up {L b c k : Nat} {p : Pt} (h : GP L b p) (c0 : 0 < c) (ck : c < 2 ^ k) : GP (L * c) (b + k) p := by
  obtain ⟨h0, h2⟩ := h
  refine ⟨Nat.mul_pos h0 c0, fun q hq => ?_⟩
  obtain ⟨d, t⟩ := h2 q hq
  refine ⟨Nat.dvd_trans d (Nat.dvd_mul_right ..), ?_⟩
  have e : topOf (L * c) q = topOf L q * (c : Int) := by
    unfold topOf
    rw [Nat.mul_comm L c, Nat.mul_div_assoc _ d, Int.mul_assoc]
    congr 1
    rw [Nat.mul_comm]
    exact Int.natCast_mul _ _
  rw [e]
  exact t.mul (Bd.lit (by simpa using ck))
theorem GP.num {L b : Nat} {p : Pt} (h : GP L b p) : ∀ q ∈ qsOf p, Bd b q.num := fun q hq => by
  obtain ⟨d, t⟩ := h.2 q hq
  have h1 : 0 < L / q.den := Nat.div_pos (Nat.le_of_dvd h.1 d) q.den_pos
  refine Bd.lit (Nat.lt_of_le_of_lt ?_ t.lt)
  unfold topOf
  rw [Int.natAbs_mul, Int.natAbs_natCast]
  exact Nat.le_mul_of_pos_right _ h1
/-- a near point: over the product of its three bottoms -/
theorem near_gp {p : Pt} (h : ∀ q ∈ qsOf p, NrQ q) : GP (p.1.den * p.2.1.den * p.2.2.den) 43 p ∧ p.1.den * p.2.1.den * p.2.2.den < 2 ^ 18 := by
  have n1 := h p.1 (by simp [qsOf])
  have n2 := h p.2.1 (by simp [qsOf])
  have n3 := h p.2.2 (by simp [qsOf])
  have d1 : p.1.den < 2 ^ 6 := by simpa using n1.2.lt
  have d2 : p.2.1.den < 2 ^ 6 := by simpa using n2.2.lt
  have d3 : p.2.2.den < 2 ^ 6 := by simpa using n3.2.lt
  have z1 := p.1.den_pos
  have z2 := p.2.1.den_pos
  have z3 := p.2.2.den_pos
  have small : ∀ a b : Nat, a < 2 ^ 6 → b < 2 ^ 6 → a * b < 2 ^ 12 := fun a b ha hb => Nat.lt_of_lt_of_le (Nat.mul_lt_mul'' ha hb) (by decide)
  have one : ∀ (q : Rat) (c : Nat), NrQ q → c < 2 ^ 12 → q.den * c = p.1.den * p.2.1.den * p.2.2.den → q.den ∣ p.1.den * p.2.1.den * p.2.2.den ∧ Bd 43 (topOf (p.1.den * p.2.1.den * p.2.2.den) q) := fun q c hq hc e => by
    refine ⟨⟨c, e.symm⟩, ?_⟩
    unfold topOf
    rw [← e, Nat.mul_div_cancel_left c q.den_pos]
    exact hq.1.mul (Bd.lit (n := 12) (by simpa using hc))
  refine ⟨⟨Nat.mul_pos (Nat.mul_pos z1 z2) z3, fun q hq => ?_⟩, Nat.lt_of_lt_of_le (Nat.mul_lt_mul'' (small _ _ d1 d2) d3) (by decide)⟩
  simp only [qsOf, List.mem_cons, List.not_mem_nil, or_false] at hq
  rcases hq with rfl | rfl | rfl
  · exact one _ (p.2.1.den * p.2.2.den) n1 (small _ _ d2 d3) (by rw [Nat.mul_assoc])
  · exact one _ (p.1.den * p.2.2.den) n2 (small _ _ d1 d3) (by rw [Nat.mul_left_comm, Nat.mul_assoc])
  · exact one _ (p.1.den * p.2.1.den) n3 (small _ _ d1 d2) (by rw [Nat.mul_comm])
/-- points drawn: one bottom of 50 bits serves them all -/
def spPts39 : SpZ := fun rs S W => match rs, S with
  | [.loc 0], [.lst [.int _, .int _]] => ∀ (ps : List Pt) (L : Nat) (a b : Int), 1 ≤ ps.length → ps.length ≤ 24 → 0 < L → Bd 50 (L : Int) → (∀ p ∈ ps, GP L 100 p) → W (.loc 1) [.lst [.int a, .int b], .lst (ptL ps)]
  | _, _ => False
end Z
set_option Elab.async false
set_option linter.all false
set_option maxRecDepth 100000
/-! Z70: a law without a lambda. -/
namespace Z
open PySem PySem.Spec PyProof.Rows L2 RZ
theorem no_lam {K : PySem.W.Frag} (h : PySem.W.nsIn K mainGlobals ("gathered" : Str) = some none) (P : Addr) : ¬ LamTab K P := fun ⟨f, _, _, _, a, _⟩ => by
  rw [h] at a
  cases a
end Z
set_option Elab.async false
set_option linter.all false
set_option maxRecDepth 100000
/-! R104: as many keepers as good pairs; at most 72 keepers of twelve points (k39). -/
namespace Z
open PySem PySem.Spec PyProof.Rows L2 RZ
/-! ### products and what stands upright, turned -/
theorem rot_dP0 {a : List Int} (ha : a.length = 4) (za : ∃ x ∈ a, x ≠ 0) (p : Pt) : dP (rot a p) (rot a p) = dP p p := by
  obtain ⟨w, x, y, z, rfl⟩ := four_of ha
  have := rotQ_sq (nrm_ne za) p
  unfold sqP at this
  exact this
theorem rot_dPP {a : List Int} (ha : a.length = 4) (za : ∃ x ∈ a, x ≠ 0) (p q : Pt) : dP (rot a p) (rot a q) = dP p q := by
  have two : ∀ u v : Pt, dP (ptAdd u v) (ptAdd u v) = dP u u + 2 * dP u v + dP v v := fun u v => by simp only [dP, ptAdd]; grind
  have h1 := rot_dP0 ha za (ptAdd p q)
  have h2 := rot_dP0 ha za p
  have h3 := rot_dP0 ha za q
  rw [rot_add ha, two, two, h2, h3] at h1
  grind
theorem rot_xP {a : List Int} (ha : a.length = 4) (za : ∃ x ∈ a, x ≠ 0) (p q : Pt) : xP (rot a p) (rot a q) = rot a (xP p q) := by
  obtain ⟨w, x, y, z, rfl⟩ := four_of ha
  have hn := nrm_ne za
  have hi := Rat.mul_inv_cancel _ hn
  obtain ⟨p1, p2, p3⟩ := p
  obtain ⟨q1, q2, q3⟩ := q
  simp only [rot, rotQ, xP, Prod.mk.injEq]
  have key : ∀ A B C D' E i N : Rat, N * i = 1 → A * B - C * D' = N * E → (A * i) * (B * i) - (C * i) * (D' * i) = E * i := fun A B C D' E i N h1 h2 => by
    have : (A * i) * (B * i) - (C * i) * (D' * i) = (A * B - C * D') * (i * i) := by grind
    rw [this, h2]
    grind
  refine ⟨key _ _ _ _ _ _ _ hi ?_, key _ _ _ _ _ _ _ hi ?_, key _ _ _ _ _ _ _ hi ?_⟩ <;> (simp only [nrm]; grind)
theorem sq_nnR (x : Rat) : 0 ≤ x * x := by
  rcases Rat.le_total (a := 0) (b := x) with h | h
  · exact Rat.mul_nonneg h h
  · have h2 : 0 ≤ -x := by grind
    have := Rat.mul_nonneg h2 h2
    grind
theorem dP_zero {p : Pt} (h : dP p p = 0) : p = (0, 0, 0) := by
  obtain ⟨a, b, c⟩ := p
  simp only [dP] at h
  have h1 := sq_nnR a
  have h2 := sq_nnR b
  have h3 := sq_nnR c
  have z : ∀ x : Rat, x * x = 0 → x = 0 := fun x h => by
    rcases Rat.mul_eq_zero.mp h with h | h <;> exact h
  have e1 : a * a = 0 := by grind
  have e2 : b * b = 0 := by grind
  have e3 : c * c = 0 := by grind
  rw [z a e1, z b e2, z c e3]
/-- three products tell a point -/
theorem dP_three {c d v w : Pt} (hx : xP c d ≠ (0, 0, 0)) (h1 : dP v c = dP w c) (h2 : dP v d = dP w d) (h3 : dP v (xP c d) = dP w (xP c d)) : v = w := by
  have n0 : dP (xP c d) (xP c d) ≠ 0 := fun h => hx (dP_zero h)
  obtain ⟨v1, v2, v3⟩ := v
  obtain ⟨w1, w2, w3⟩ := w
  obtain ⟨c1, c2, c3⟩ := c
  obtain ⟨d1, d2, d3⟩ := d
  simp only [dP, xP] at h1 h2 h3 n0
  have one : ∀ x y : Rat, ((c2 * d3 - c3 * d2) * (c2 * d3 - c3 * d2) + (c3 * d1 - c1 * d3) * (c3 * d1 - c1 * d3) + (c1 * d2 - c2 * d1) * (c1 * d2 - c2 * d1)) * (x - y) = 0 → x = y := fun x y h => by
    rcases Rat.mul_eq_zero.mp h with h | h
    · exact absurd h n0
    · grind
  have g1 : (v1 - w1) * c1 + (v2 - w2) * c2 + (v3 - w3) * c3 = 0 := by grind
  have g2 : (v1 - w1) * d1 + (v2 - w2) * d2 + (v3 - w3) * d3 = 0 := by grind
  have g3 : (v1 - w1) * (c2 * d3 - c3 * d2) + (v2 - w2) * (c3 * d1 - c1 * d3) + (v3 - w3) * (c1 * d2 - c2 * d1) = 0 := by grind
  rw [Prod.mk.injEq, Prod.mk.injEq]
  refine ⟨one _ _ ?_, one _ _ ?_, one _ _ ?_⟩
  · have e : ((c2 * d3 - c3 * d2) * (c2 * d3 - c3 * d2) + (c3 * d1 - c1 * d3) * (c3 * d1 - c1 * d3) + (c1 * d2 - c2 * d1) * (c1 * d2 - c2 * d1)) * (v1 - w1) = ((v1 - w1) * c1 + (v2 - w2) * c2 + (v3 - w3) * c3) * (d2 * (c1 * d2 - c2 * d1) - d3 * (c3 * d1 - c1 * d3)) + ((v1 - w1) * d1 + (v2 - w2) * d2 + (v3 - w3) * d3) * ((c3 * d1 - c1 * d3) * c3 - (c1 * d2 - c2 * d1) * c2) + ((v1 - w1) * (c2 * d3 - c3 * d2) + (v2 - w2) * (c3 * d1 - c1 * d3) + (v3 - w3) * (c1 * d2 - c2 * d1)) * (c2 * d3 - c3 * d2) := by grind
    rw [e, g1, g2, g3]; grind
  · have e : ((c2 * d3 - c3 * d2) * (c2 * d3 - c3 * d2) + (c3 * d1 - c1 * d3) * (c3 * d1 - c1 * d3) + (c1 * d2 - c2 * d1) * (c1 * d2 - c2 * d1)) * (v2 - w2) = ((v1 - w1) * c1 + (v2 - w2) * c2 + (v3 - w3) * c3) * (d3 * (c2 * d3 - c3 * d2) - d1 * (c1 * d2 - c2 * d1)) + ((v1 - w1) * d1 + (v2 - w2) * d2 + (v3 - w3) * d3) * ((c1 * d2 - c2 * d1) * c1 - (c2 * d3 - c3 * d2) * c3) + ((v1 - w1) * (c2 * d3 - c3 * d2) + (v2 - w2) * (c3 * d1 - c1 * d3) + (v3 - w3) * (c1 * d2 - c2 * d1)) * (c3 * d1 - c1 * d3) := by grind
    rw [e, g1, g2, g3]; grind
  · have e : ((c2 * d3 - c3 * d2) * (c2 * d3 - c3 * d2) + (c3 * d1 - c1 * d3) * (c3 * d1 - c1 * d3) + (c1 * d2 - c2 * d1) * (c1 * d2 - c2 * d1)) * (v3 - w3) = ((v1 - w1) * c1 + (v2 - w2) * c2 + (v3 - w3) * c3) * (d1 * (c3 * d1 - c1 * d3) - d2 * (c2 * d3 - c3 * d2)) + ((v1 - w1) * d1 + (v2 - w2) * d2 + (v3 - w3) * d3) * ((c2 * d3 - c3 * d2) * c2 - (c3 * d1 - c1 * d3) * c1) + ((v1 - w1) * (c2 * d3 - c3 * d2) + (v2 - w2) * (c3 * d1 - c1 * d3) + (v3 - w3) * (c1 * d2 - c2 * d1)) * (c1 * d2 - c2 * d1) := by grind
    rw [e, g1, g2, g3]; grind
/-! ### ways over one bottom -/
theorem dt_way {L : Nat} (L0 : 0 < L) {p q : Pt} (dp : ∀ z ∈ qsOf p, z.den ∣ L) (dq : ∀ z ∈ qsOf q, z.den ∣ L) : (dt (wayOf L p) (wayOf L q) : Rat) = dP p q * ((L : Rat) * (L : Rat)) := by
  simp only [qsOf, List.mem_cons, List.not_mem_nil, or_false, forall_eq_or_imp, forall_eq] at dp dq
  simp only [wayOf, dt, dP, Rat.intCast_add, Rat.intCast_mul, topOf_eq L0 dp.1, topOf_eq L0 dp.2.1, topOf_eq L0 dp.2.2, topOf_eq L0 dq.1, topOf_eq L0 dq.2.1, topOf_eq L0 dq.2.2]
  grind
theorem dt_eq {L : Nat} (L0 : 0 < L) {p q r t : Pt} (dp : ∀ z ∈ qsOf p, z.den ∣ L) (dq : ∀ z ∈ qsOf q, z.den ∣ L) (dr : ∀ z ∈ qsOf r, z.den ∣ L) (dt' : ∀ z ∈ qsOf t, z.den ∣ L) (h : dP p q = dP r t) : dt (wayOf L p) (wayOf L q) = dt (wayOf L r) (wayOf L t) := by
  have h1 := dt_way L0 dp dq
  have h2 := dt_way L0 dr dt'
  rw [h, ← h2] at h1
  exact_mod_cast h1
theorem crs_xP {L : Nat} (L0 : 0 < L) {p q : Pt} (dp : ∀ z ∈ qsOf p, z.den ∣ L) (dq : ∀ z ∈ qsOf q, z.den ∣ L) : crs (wayOf L p) (wayOf L q) = [0, 0, 0] ↔ xP p q = (0, 0, 0) := by
  have hL : (L : Rat) ≠ 0 := by exact_mod_cast (by omega : L ≠ 0)
  have hLL : (L : Rat) * (L : Rat) ≠ 0 := fun z => by rcases Rat.mul_eq_zero.mp z with z | z <;> exact hL z
  have one : ∀ a b c d : Rat, a.den ∣ L → b.den ∣ L → c.den ∣ L → d.den ∣ L → (topOf L a * topOf L b - topOf L c * topOf L d = 0 ↔ a * b - c * d = 0) := fun a b c d ha hb hc hd => by
    have e : ((topOf L a * topOf L b - topOf L c * topOf L d : Int) : Rat) = (a * b - c * d) * ((L : Rat) * (L : Rat)) := by
      simp only [Rat.intCast_sub, Rat.intCast_mul, topOf_eq L0 ha, topOf_eq L0 hb, topOf_eq L0 hc, topOf_eq L0 hd]
      grind
    constructor
    · intro h
      rw [h] at e
      rcases Rat.mul_eq_zero.mp (show (a * b - c * d) * ((L : Rat) * (L : Rat)) = 0 by rw [← e]; rfl) with z | z
      · exact z
      · exact absurd z hLL
    · intro h
      rw [h, Rat.zero_mul] at e
      exact_mod_cast e
  simp only [qsOf, List.mem_cons, List.not_mem_nil, or_false, forall_eq_or_imp, forall_eq] at dp dq
  simp only [wayOf, crs, xP, List.cons.injEq, and_true, Prod.mk.injEq]
  rw [one _ _ _ _ dp.2.1 dq.2.2 dp.2.2 dq.2.1, one _ _ _ _ dp.2.2 dq.1 dp.1 dq.2.2, one _ _ _ _ dp.1 dq.2.1 dp.2.1 dq.1]
/-! ### a turn that leads two points -/
theorem led_ex {a b c d : List Int} (la : a.length = 3) (lb : b.length = 3) (lc : c.length = 3) (ld : d.length = 3) (hab : ∃ n ∈ crs a b, n ≠ 0) (e1 : dt a a = dt c c) (e2 : dt b b = dt d d) (e3 : dt a b = dt c d) :
    ∃ F : Fo, PlF F ∧ ledsTo F a c = true ∧ ledsTo F b d = true := by
  have hcd := crs_same la lb lc ld e1 e2 e3 hab
  have hdc := crs_flip lc ld hcd
  have za := crs_nz_l la lb hab
  have zb := crs_nz_l lb la (crs_flip la lb hab)
  have zc := crs_nz_l lc ld hcd
  have zd := crs_nz_l ld lc hdc
  have A := dt_pos la za
  have B := dt_pos lb zb
  have hs : (((dt a a).toNat : Nat) : Int) * ((dt a a).toNat : Nat) = dt a a * dt c c := by rw [← e1, Int.toNat_of_nonneg (by omega)]
  have ht : (((dt b b).toNat : Nat) : Int) * ((dt b b).toNat : Nat) = dt b b * dt d d := by rw [← e2, Int.toNat_of_nonneg (by omega)]
  have hb : between a b c d ((dt a a).toNat : Nat) ((dt b b).toNat : Nat) := betw_same (by omega) (by omega) e1 e2 e3
  have s0 := Int.natCast_nonneg (dt a a).toNat
  have t0 := Int.natCast_nonneg (dt b b).toNat
  have gl := ledF_len la lc ((dt a a).toNat : Int)
  have gz := ledF_nz a c ((dt a a).toNat : Int)
  have gL := ledF_leads la lc za zc s0 hs
  obtain ⟨r, hr, _⟩ := both_root la lb lc ld za zb zc zd s0 hs t0 ht hb gl gz gL hdc
  have bl := both_leads la lb lc ld za zb zc zd s0 hs t0 ht hb gl gz gL hdc hab (Int.natCast_nonneg r) hr
  have pn := shd_spn_nz la lb lc ld za zb zc zd s0 hs t0 ht hb gl gz gL hab
  generalize ledF a c ((dt a a).toNat : Int) = g at *
  have p2 := spn_len (a := b) gl
  have ul := shd_len p2 lc
  have vl := shd_len ld lc
  have vz := shd_nz ld lc zc hdc
  have rl := abtR_len ul vl lc pn vz zc (s := (r : Int))
  have rz := abtR_nz ul vl lc pn vz zc (s := (r : Int))
  generalize abtR (shd (spn g b) c) (shd d c) c (r : Int) = k at *
  have kl := qmul_len rl gl
  have kz := qmul_nz rl gl rz gz
  exact ⟨pln (qmul k g), ⟨by rw [pln_len, kl], pln_nz kz, pln_pln kz⟩, by rw [leads_pln kl la lc kz]; exact bl.1, by rw [leads_pln kl lb ld kz]; exact bl.2⟩
theorem pair_ex {L : Nat} (L0 : 0 < L) {a b c d : Pt} (da : ∀ z ∈ qsOf a, z.den ∣ L) (db : ∀ z ∈ qsOf b, z.den ∣ L) (dc : ∀ z ∈ qsOf c, z.den ∣ L) (dd : ∀ z ∈ qsOf d, z.den ∣ L) (hx : xP a b ≠ (0, 0, 0))
    (e1 : dP a a = dP c c) (e2 : dP b b = dP d d) (e3 : dP a b = dP c d) : ∃ F : Fo, PlF F ∧ rot F a = c ∧ rot F b = d := by
  have hab : ∃ n ∈ crs (wayOf L a) (wayOf L b), n ≠ 0 := nz_three (crs_len rfl rfl) fun h => hx ((crs_xP L0 da db).mp h)
  have f1 := dt_eq L0 da da dc dc e1
  have f2 := dt_eq L0 db db dd dd e2
  have f3 := dt_eq L0 da db dc dd e3
  have hcd := crs_same rfl rfl rfl rfl f1 f2 f3 hab
  obtain ⟨F, pF, g1, g2⟩ := led_ex rfl rfl rfl rfl hab f1 f2 f3
  exact ⟨F, pF, (led_rot pF.1 pF.2.1 L0 da dc (crs_nz_l rfl rfl hab) (crs_nz_l rfl rfl hcd) f1).mp g1, (led_rot pF.1 pF.2.1 L0 db dd (crs_nz_l rfl rfl (crs_flip rfl rfl hab)) (crs_nz_l rfl rfl (crs_flip rfl rfl hcd)) f2).mp g2⟩
/-! ### as many as there are good pairs -/
theorem prP_mem {us : List Pt} {c : Pt × Pt} : c ∈ prP us ↔ c.1 ∈ us ∧ c.2 ∈ us := by
  unfold prP
  rw [List.mem_flatMap]
  constructor
  · rintro ⟨x, hx, h⟩
    obtain ⟨y, hy, rfl⟩ := List.mem_map.mp h
    exact ⟨hx, hy⟩
  · rintro ⟨h1, h2⟩
    exact ⟨c.1, h1, List.mem_map.mpr ⟨c.2, h2, rfl⟩⟩
theorem prP_nodup {us : List Pt} (nd : us.Nodup) : (prP us).Nodup := by
  have go : ∀ l : List Pt, l.Nodup → (l.flatMap fun c => us.map fun d => (c, d)).Nodup := by
    intro l
    induction l with
    | nil => intro _; exact List.nodup_nil
    | cons x l ih =>
      intro h
      rw [List.nodup_cons] at h
      rw [List.flatMap_cons]
      refine List.nodup_append.mpr ⟨?_, ih h.2, fun a ha b hb => ?_⟩
      · rw [List.nodup_iff_pairwise_ne] at nd ⊢
        exact List.Pairwise.map _ (fun a b hab e => hab (Prod.mk.inj e).2) nd
      · rintro rfl
        obtain ⟨y, _, rfl⟩ := List.mem_map.mp ha
        obtain ⟨z, hz, h2⟩ := List.mem_flatMap.mp hb
        obtain ⟨t, _, e⟩ := List.mem_map.mp h2
        obtain rfl := (Prod.mk.inj e).1
        exact h.1 hz
  exact go us nd
theorem KeepL.same {ps us : List Pt} {ws : List Fo} (h : ∀ p, p ∈ ps ↔ p ∈ us) (k : KeepL ps ws) : KeepL us ws := by
  refine ⟨k.1, fun f => ?_⟩
  rw [k.2]
  have : keepsB ps f = keepsB us f := by
    rw [Bool.eq_iff_iff, keepsB_iff, keepsB_iff]
    exact ⟨fun g p hp => (h _).mp (g p ((h p).mpr hp)), fun g p hp => (h _).mpr (g p ((h p).mp hp))⟩
  rw [this]
theorem KeepL.two {us : List Pt} {L : Nat} (L0 : 0 < L) (dv : ∀ p ∈ us, ∀ q ∈ qsOf p, q.den ∣ L) {ws : List Fo} (kl : KeepL us ws) {a b : Pt} (ha : a ∈ us) (hb : b ∈ us) (hx : xP a b ≠ (0, 0, 0)) {f g : Fo} (hf : f ∈ ws) (hg : g ∈ ws)
    (e1 : rot f a = rot g a) (e2 : rot f b = rot g b) : f = g := by
  obtain ⟨pf, kf⟩ := kl.mem.mp hf
  obtain ⟨pg, kg⟩ := kl.mem.mp hg
  have hab : ∃ n ∈ crs (wayOf L a) (wayOf L b), n ≠ 0 := nz_three (crs_len rfl rfl) fun h => hx ((crs_xP L0 (dv _ ha) (dv _ hb)).mp h)
  have := rot_only pf.len pf.nz pg.len pg.nz L0 (dv _ ha) (dv _ (kf _ ha)) (dv _ hb) (dv _ (kf _ hb)) hab rfl rfl e1.symm e2.symm
  rwa [pf.pl, pg.pl] at this
theorem keep_count {us : List Pt} (nd : us.Nodup) {L : Nat} (L0 : 0 < L) (dv : ∀ p ∈ us, ∀ q ∈ qsOf p, q.den ∣ L) {ws : List Fo} (kl : KeepL us ws) {a b : Pt} (ha : a ∈ us) (hb : b ∈ us) (hx : xP a b ≠ (0, 0, 0)) :
    ws.length = ((prP us).filter (goodP us a b)).length := by
  have nd1 : (ws.map fun f => (rot f a, rot f b)).Nodup := by
    rw [List.nodup_iff_pairwise_ne, List.pairwise_map]
    have := kl.1
    rw [List.nodup_iff_pairwise_ne] at this
    refine List.Pairwise.imp_of_mem (fun {f g} hf hg ne e => ne ?_) this
    exact kl.two L0 dv ha hb hx hf hg (Prod.mk.inj e).1 (Prod.mk.inj e).2
  have nd2 := (prP_nodup nd).filter (goodP us a b)
  have g := kl.grp
  have p : (ws.map fun f => (rot f a, rot f b)).Perm ((prP us).filter (goodP us a b)) := by
    refine (List.perm_ext_iff_of_nodup nd1 nd2).mpr fun x => ?_
    rw [List.mem_map, List.mem_filter, prP_mem]
    constructor
    · rintro ⟨f, hf, rfl⟩
      obtain ⟨pf, kf⟩ := kl.mem.mp hf
      refine ⟨⟨kf _ ha, kf _ hb⟩, ?_⟩
      unfold goodP
      dsimp only
      rw [rot_dPP pf.len pf.nz, rot_dPP pf.len pf.nz, rot_dPP pf.len pf.nz, decide_eq_true rfl, Bool.true_and, List.isPerm_iff]
      have pu : us.Perm (us.map (rot f)) := by
        refine (List.perm_ext_iff_of_nodup nd ?_).mpr fun x => ?_
        · rw [List.nodup_iff_pairwise_ne] at nd ⊢
          exact List.Pairwise.map _ (fun a b hab e => hab (by rw [← rot_inv pf a, ← rot_inv pf b, e])) nd
        · rw [List.mem_map]
          constructor
          · intro hx
            exact ⟨rot (inv f) x, (kl.mem.mp (g.inv hf)).2 _ hx, rot_inv' pf x⟩
          · rintro ⟨y, hy, rfl⟩
            exact kf _ hy
      unfold mk3
      refine (pu.map _).trans ?_
      rw [List.map_map]
      refine List.Perm.of_eq (List.map_congr_left fun p _ => ?_)
      simp only [Function.comp_def]
      rw [rot_dPP pf.len pf.nz, rot_dPP pf.len pf.nz, rot_xP pf.len pf.nz, rot_dPP pf.len pf.nz]
    · rintro ⟨⟨h1, h2⟩, h3⟩
      obtain ⟨c, d⟩ := x
      unfold goodP at h3
      rw [Bool.and_eq_true, decide_eq_true_eq, List.isPerm_iff] at h3
      dsimp only at h1 h2 h3
      obtain ⟨h3, h4⟩ := h3
      simp only [List.cons.injEq, and_true] at h3
      obtain ⟨F, pF, f1, f2⟩ := pair_ex L0 (dv _ ha) (dv _ hb) (dv _ h1) (dv _ h2) hx h3.1.symm h3.2.2.symm h3.2.1.symm
      have hx2 : xP c d ≠ (0, 0, 0) := fun z => hx (by
        apply dP_zero
        rw [← rot_dPP pF.1 pF.2.1, ← rot_xP pF.1 pF.2.1, f1, f2, z]
        simp only [dP]; grind)
      refine ⟨F, kl.mem.mpr ⟨⟨pF.1, pF.2.1, pF.2.2⟩, fun p hp => ?_⟩, by rw [f1, f2]⟩
      have m : (dP p a, dP p b, dP p (xP a b)) ∈ mk3 us c d := h4.mem_iff.mpr (List.mem_map.mpr ⟨p, hp, rfl⟩)
      obtain ⟨q, hq, e⟩ := List.mem_map.mp m
      simp only [Prod.mk.injEq] at e
      have : rot F p = q := dP_three hx2 (by rw [e.1, ← f1, rot_dPP pF.1 pF.2.1]) (by rw [e.2.1, ← f2, rot_dPP pF.1 pF.2.1]) (by rw [e.2.2, ← f1, ← f2, rot_xP pF.1 pF.2.1, rot_dPP pF.1 pF.2.1])
      rw [this]; exact hq
  rw [← p.length_eq, List.length_map]
/-! ### few turns stay about one way -/
theorem three_sq : ∀ (n x y : Nat), x ≤ n → 3 * (x * x) = y * y → x = 0 := by
  intro n
  induction n with
  | zero => intro x y h _; omega
  | succ n ih =>
    intro x y h e
    have third : ∀ k : Nat, (k * k) % 3 = 0 → ∃ j, k = 3 * j := fun k hk => by
      have h3 : k % 3 = 0 ∨ k % 3 = 1 ∨ k % 3 = 2 := by omega
      rcases h3 with z | z | z
      · exact ⟨k / 3, by omega⟩
      · rw [Nat.mul_mod, z] at hk; simp at hk
      · rw [Nat.mul_mod, z] at hk; simp at hk
    obtain ⟨j, rfl⟩ := third y (by omega)
    have e2 : x * x = 3 * (j * j) := by
      have : 3 * j * (3 * j) = 9 * (j * j) := by rw [Nat.mul_mul_mul_comm]
      omega
    obtain ⟨i, rfl⟩ := third x (by omega)
    have e3 : 3 * (i * i) = j * j := by
      have : 3 * i * (3 * i) = 9 * (i * i) := by rw [Nat.mul_mul_mul_comm]
      omega
    by_cases z : i = 0
    · subst z; rfl
    · have := ih i j (by omega) e3
      omega
theorem three_sqI {x y : Int} (h : 3 * (x * x) = y * y) : x = 0 := by
  have h1 : ((x.natAbs * x.natAbs : Nat) : Int) = x * x := Int.natAbs_mul_self
  have h2 : ((y.natAbs * y.natAbs : Nat) : Int) = y * y := Int.natAbs_mul_self
  have := three_sq x.natAbs x.natAbs y.natAbs (Nat.le_refl _) (by omega)
  omega
end Z
set_option Elab.async false
set_option linter.all false
set_option maxRecDepth 100000
/-! R105: at most 72 turns keep twelve points (k39). -/
namespace Z
open PySem PySem.Spec PyProof.Rows L2 RZ
/-- a plain turn about this way -/
structure OnW (a : List Int) (f : Fo) : Prop where
  pf : Pf f
  on : crs (f.drop 1) a = [0, 0, 0]
section
variable {a : List Int} (la : a.length = 3) (za : ∃ n ∈ a, n ≠ 0)
abbrev tw (a : List Int) (f : Fo) : Int := dt (f.drop 1) a
include la
theorem OnW.row {f : Fo} (h : OnW a f) : (f.drop 1).map (dt a a * ·) = a.map (tw a f * ·) := row_vec (by rw [List.length_drop, h.pf.len]) la h.on
theorem OnW.sq {f : Fo} (h : OnW a f) : dt a a * nrmI f = dt a a * (hd f * hd f) + tw a f * tw a f := by
  have e := h.row la
  obtain ⟨w, x, y, z, rfl⟩ := four_of h.pf.len
  obtain ⟨p, q, r, rfl⟩ := three_of la
  simp only [List.drop_succ_cons, List.drop_zero, List.map_cons, List.map_nil, List.cons.injEq, and_true, tw] at e
  obtain ⟨e1, e2, e3⟩ := e
  simp only [nrmI, hd, List.headD_cons, tw, List.drop_succ_cons, List.drop_zero]
  simp only [dt] at *
  generalize p * p + q * q + r * r = M at *
  generalize ht : x * p + y * q + z * r = t at *
  have : t * t = x * (t * p) + y * (t * q) + z * (t * r) := by rw [← ht]; grind
  rw [this, ← e1, ← e2, ← e3]
  grind
include za
theorem OnW.nz {f : Fo} (h : OnW a f) : hd f ≠ 0 ∨ tw a f ≠ 0 := by
  apply Classical.byContradiction
  intro n
  have h0 : hd f = 0 ∧ tw a f = 0 := ⟨Classical.byContradiction fun z => n (.inl z), Classical.byContradiction fun z => n (.inr z)⟩
  have s := h.sq la
  rw [h0.1, h0.2, Int.mul_zero, Int.mul_zero, Int.zero_add] at s
  rcases Int.mul_eq_zero.mp s with z | z
  · have := dt_pos la za
    omega
  · exact nrmI_ne h.pf.len h.pf.nz z
theorem OnW.eq {f g : Fo} (hf : OnW a f) (hg : OnW a g) (e : hd f * tw a g = hd g * tw a f) : f = g := by
  have M := dt_pos la za
  have nf := hf.nz la za
  have ng := hg.nz la za
  have rf := hf.row la
  have rg := hg.row la
  rw [← hf.pf.pl, ← hg.pf.pl]
  have key : ∀ u v : Int, u ≠ 0 → v ≠ 0 → u * hd f = v * hd g → u * tw a f = v * tw a g → pln f = pln g := fun u v hu hv h1 h2 => by
    refine pln_ratio (a := dt a a * u) (b := dt a a * v) (Int.mul_ne_zero (by omega) hu) (Int.mul_ne_zero (by omega) hv) hf.pf.nz ?_
    have lf := hf.pf.len
    have lg := hg.pf.len
    generalize tw a f = t at *
    generalize tw a g = s at *
    generalize dt a a = m at *
    obtain ⟨w, x, y, z, rfl⟩ := four_of lf
    obtain ⟨w', x', y', z', rfl⟩ := four_of lg
    obtain ⟨p, q, r, rfl⟩ := three_of la
    simp only [List.drop_succ_cons, List.drop_zero, List.map_cons, List.map_nil, List.cons.injEq, and_true, hd, List.headD_cons] at *
    obtain ⟨a1, a2, a3⟩ := rf
    obtain ⟨b1, b2, b3⟩ := rg
    refine ⟨?_, ?_, ?_, ?_⟩
    · rw [Int.mul_assoc, h1, Int.mul_assoc]
    · have : m * u * x = u * (m * x) := by grind
      rw [this, a1]
      have : m * v * x' = v * (m * x') := by grind
      rw [this, b1, ← Int.mul_assoc, h2, Int.mul_assoc]
    · have : m * u * y = u * (m * y) := by grind
      rw [this, a2]
      have : m * v * y' = v * (m * y') := by grind
      rw [this, b2, ← Int.mul_assoc, h2, Int.mul_assoc]
    · have : m * u * z = u * (m * z) := by grind
      rw [this, a3]
      have : m * v * z' = v * (m * z') := by grind
      rw [this, b3, ← Int.mul_assoc, h2, Int.mul_assoc]
  by_cases z : hd f = 0
  · rw [z, Int.zero_mul] at e
    have tf : tw a f ≠ 0 := nf.resolve_left fun k => k z
    have hg0 : hd g = 0 := (Int.mul_eq_zero.mp e.symm).resolve_right tf
    have tg : tw a g ≠ 0 := ng.resolve_left fun k => k hg0
    exact key (tw a g) (tw a f) tg tf (by rw [z, hg0]; simp) (Int.mul_comm _ _)
  · have hg0 : hd g ≠ 0 := fun k => by
      rw [k, Int.zero_mul] at e
      have := (Int.mul_eq_zero.mp e).resolve_left z
      exact (ng.resolve_left fun n => n k) this
    exact key (hd g) (hd f) hg0 z (Int.mul_comm _ _) e.symm
theorem OnW.inv {f : Fo} (h : OnW a f) : OnW a (inv f) ∧ ∃ k : Int, k ≠ 0 ∧ k * hd (Z.inv f) = hd f ∧ k * tw a (Z.inv f) = - tw a f := by
  have e := pln_mul (qbk_nz h.pf.len h.pf.nz)
  have k0 := fsgl_ne (qbk_nz h.pf.len h.pf.nz)
  have pi := h.pf.inv
  have on := h.on
  have len := h.pf.len
  change qbk f = (Z.inv f).map _ at e
  generalize fs (qbk f) * (gl (qbk f) : Int) = k at *
  have li := pi.len
  generalize Z.inv f = g at *
  obtain ⟨w, x, y, z, rfl⟩ := four_of len
  obtain ⟨w', x', y', z', rfl⟩ := four_of li
  obtain ⟨p, q, r, rfl⟩ := three_of la
  simp only [qbk, List.map_cons, List.map_nil, List.cons.injEq, and_true] at e
  obtain ⟨e0, e1, e2, e3⟩ := e
  simp only [List.drop_succ_cons, List.drop_zero, crs, List.cons.injEq, and_true] at on
  obtain ⟨c1, c2, c3⟩ := on
  have can : ∀ n : Int, k * n = 0 → n = 0 := fun n h => (Int.mul_eq_zero.mp h).resolve_left k0
  refine ⟨⟨pi, ?_⟩, k, k0, ?_, ?_⟩
  · simp only [List.drop_succ_cons, List.drop_zero, crs, List.cons.injEq, and_true]
    refine ⟨can _ ?_, can _ ?_, can _ ?_⟩ <;> grind
  · simp only [hd, List.headD_cons]; omega
  · simp only [tw, dt, List.drop_succ_cons, List.drop_zero]; grind
theorem rst_cross {f : Fo} (h : Pf f) {u v : Int} (hv : v ≠ 0) (e : rstQ f = (u : Rat) / (v : Rat)) : v * (hd f * hd f) = u * nrmI f := by
  have hn := nrmI_ne h.len h.nz
  have h1 : (nrmI f : Rat) ≠ 0 := by exact_mod_cast hn
  have h2 : (v : Rat) ≠ 0 := by exact_mod_cast hv
  have i1 := Rat.mul_inv_cancel _ h1
  have i2 := Rat.mul_inv_cancel _ h2
  unfold rstQ at e
  rw [Rat.div_def, Rat.div_def] at e
  have : ((v * (hd f * hd f) : Int) : Rat) = ((u * nrmI f : Int) : Rat) := by
    rw [Rat.intCast_mul v, Rat.intCast_mul u]
    generalize (nrmI f : Rat)⁻¹ = i at *
    generalize (v : Rat)⁻¹ = j at *
    generalize ((hd f * hd f : Int) : Rat) = s at *
    generalize (nrmI f : Rat) = n at *
    grind
  exact_mod_cast this
theorem OnW.rst {f g : Fo} (hf : OnW a f) (hg : OnW a g) (e : rstQ f = rstQ g) : f = g ∨ f = Z.inv g := by
  have M := dt_pos la za
  have sf := hf.sq la
  have sg := hg.sq la
  have h1 : nrmI g * (hd f * hd f) = hd g * hd g * nrmI f := rst_cross la za hf.pf (nrmI_ne hg.pf.len hg.pf.nz) (by rw [e]; rfl)
  have h2 : (hd f * tw a g - hd g * tw a f) * (hd f * tw a g + hd g * tw a f) = 0 := by
    generalize tw a f = t at *
    generalize tw a g = s at *
    generalize hd f = w at *
    generalize hd g = v at *
    generalize dt a a = m at *
    grind
  rcases Int.mul_eq_zero.mp h2 with z | z
  · exact .inl (hf.eq la za hg (by omega))
  · obtain ⟨hi, k, k0, k1, k2⟩ := hg.inv la za
    refine .inr (hf.eq la za hi ?_)
    have : k * (hd f * tw a (Z.inv g)) = k * (hd (Z.inv g) * tw a f) := by
      have a1 : k * (hd f * tw a (Z.inv g)) = hd f * (k * tw a (Z.inv g)) := by grind
      have a2 : k * (hd (Z.inv g) * tw a f) = (k * hd (Z.inv g)) * tw a f := by grind
      rw [a1, a2, k1, k2, Int.mul_neg]
      omega
    exact Int.eq_of_mul_eq_mul_left k0 this
theorem OnW.rst0 {f g : Fo} (hf : OnW a f) (hg : OnW a g) (e1 : rstQ f = 0) (e2 : rstQ g = 0) : f = g := by
  have z : ∀ {f : Fo}, OnW a f → rstQ f = 0 → hd f = 0 := fun {f} h e => by
    have := rstQ_zero h.pf.len h.pf.nz
    rw [e, decide_eq_true rfl] at this
    simpa using this.symm
  exact hf.eq la za hg (by rw [z hf e1, z hg e2]; simp)
theorem OnW.rst1 {f g : Fo} (hf : OnW a f) (hg : OnW a g) (e1 : rstQ f = 1) (e2 : rstQ g = 1) : f = g := by
  have z : ∀ {f : Fo}, OnW a f → rstQ f = 1 → tw a f = 0 := fun {f} h e => by
    have := rstQ_one h.pf.len h.pf.nz
    rw [e, decide_eq_true rfl] at this
    have := of_decide_eq_true this.symm
    unfold tw
    rw [this]
    obtain ⟨p, q, r, rfl⟩ := three_of la
    simp [dt]
  exact hf.eq la za hg (by rw [z hf e1, z hg e2]; simp)
/-- a quarter and a third about one way: never both -/
theorem OnW.not_both {f g : Fo} (hf : OnW a f) (hg : OnW a g) (e1 : rstQ f = 1 / 2) (e2 : rstQ g = 1 / 4 ∨ rstQ g = 3 / 4) : False := by
  have M := dt_pos la za
  have sf := hf.sq la
  have sg := hg.sq la
  have nf := nrmI_ne hf.pf.len hf.pf.nz
  have ng := nrmI_ne hg.pf.len hg.pf.nz
  have h1 : 2 * (hd f * hd f) = 1 * nrmI f := rst_cross la za hf.pf (by decide) (by rw [e1]; rfl)
  have hw : hd f ≠ 0 := fun z => by rw [z] at h1; omega
  have m1 : dt a a * (hd f * hd f) = tw a f * tw a f := by
    have : nrmI f = 2 * (hd f * hd f) := by omega
    rw [this] at sf
    generalize hd f * hd f = w at *
    generalize tw a f * tw a f = t at *
    grind
  rcases e2 with e2 | e2
  · have h2 : 4 * (hd g * hd g) = 1 * nrmI g := rst_cross la za hg.pf (by decide) (by rw [e2]; rfl)
    have hv : hd g ≠ 0 := fun z => by rw [z] at h2; omega
    have m2 : 3 * (dt a a * (hd g * hd g)) = tw a g * tw a g := by
      have : nrmI g = 4 * (hd g * hd g) := by omega
      rw [this] at sg
      generalize hd g * hd g = w at *
      generalize tw a g * tw a g = t at *
      grind
    have := three_sqI (x := hd f * hd g * dt a a) (y := tw a f * tw a g) (by
      have : tw a f * tw a g * (tw a f * tw a g) = (tw a f * tw a f) * (tw a g * tw a g) := by grind
      rw [this, ← m1, ← m2]
      grind)
    exact Int.mul_ne_zero (Int.mul_ne_zero hw hv) (by omega) this
  · have h2 : 4 * (hd g * hd g) = 3 * nrmI g := rst_cross la za hg.pf (by decide) (by rw [e2]; rfl)
    have hv : hd g ≠ 0 := fun z => by rw [z] at h2; omega
    have m2 : dt a a * (hd g * hd g) = 3 * (tw a g * tw a g) := by
      have : 3 * (dt a a * nrmI g) = dt a a * (4 * (hd g * hd g)) := by rw [h2]; grind
      rw [sg] at this
      generalize hd g * hd g = w at *
      generalize tw a g * tw a g = t at *
      grind
    have := three_sqI (x := hd f * tw a g) (y := tw a f * hd g) (by
      have : tw a f * hd g * (tw a f * hd g) = (tw a f * tw a f) * (hd g * hd g) := by grind
      rw [this, ← m1]
      have : dt a a * (hd f * hd f) * (hd g * hd g) = (hd f * hd f) * (dt a a * (hd g * hd g)) := by grind
      rw [this, m2]
      grind)
    rcases Int.mul_eq_zero.mp this with z | z
    · exact hw z
    · rw [z, Int.mul_zero, Int.mul_zero] at m2
      exact Int.mul_ne_zero (by omega) (Int.mul_ne_zero hv hv) m2
/-- about one way: six at most -/
theorem six_about {ks : List Fo} (nd : ks.Nodup) (on : ∀ f ∈ ks, OnW a f) (hd' : ∀ f ∈ ks, (rstQ f).den = 1 ∨ (rstQ f).den = 2 ∨ (rstQ f).den = 4) : ks.length ≤ 6 := by
  have mem : ∀ f ∈ ks, rstQ f ∈ [(0 : Rat), 1, 1 / 2, 1 / 4, 3 / 4] := fun f hf => by
    have p := (on f hf).pf
    obtain ⟨r0, r1⟩ := rstQ_le (f := f) ⟨p.len, p.nz⟩
    have n0 : 0 ≤ (rstQ f).num := Rat.num_nonneg.mpr r0
    have n1 : (rstQ f).num ≤ (rstQ f).den := by
      have := (Rat.le_iff _ _).mp r1
      simpa using this
    have c := (rstQ f).reduced
    have h := hd' f hf
    generalize rstQ f = q at *
    have ex : ∀ r : Rat, q.num = r.num → q.den = r.den → q = r := fun r h1 h2 => Rat.ext h1 h2
    rcases h with h | h | h <;> rw [h] at n1 c
    · have : q.num = 0 ∨ q.num = 1 := by omega
      rcases this with k | k
      · rw [ex 0 k h]; simp
      · rw [ex 1 k h]; simp
    · have : q.num = 0 ∨ q.num = 1 ∨ q.num = 2 := by omega
      rcases this with k | k | k <;> rw [k] at c
      · exact absurd c (by decide)
      · rw [ex (1 / 2) (k.trans (by decide +kernel)) (h.trans (by decide +kernel))]; simp
      · exact absurd c (by decide)
    · have : q.num = 0 ∨ q.num = 1 ∨ q.num = 2 ∨ q.num = 3 ∨ q.num = 4 := by omega
      rcases this with k | k | k | k | k <;> rw [k] at c
      · exact absurd c (by decide)
      · rw [ex (1 / 4) (k.trans (by decide +kernel)) (h.trans (by decide +kernel))]; simp
      · exact absurd c (by decide)
      · rw [ex (3 / 4) (k.trans (by decide +kernel)) (h.trans (by decide +kernel))]; simp
      · exact absurd c (by decide)
  have cnt := count_by (qs := [(0 : Rat), 1, 1 / 2, 1 / 4, 3 / 4]) (by decide +kernel) rstQ ks mem
  simp only [List.map_cons, List.map_nil, List.sum_cons, List.sum_nil] at cnt
  have two : ∀ q : Rat, (ks.filter fun f => decide (rstQ f = q)).length ≤ 2 := fun q => by
    by_cases h : ∃ g ∈ ks, rstQ g = q
    · obtain ⟨g, hg, rfl⟩ := h
      exact List.Nodup.length_le_of_subset (l₂ := [g, Z.inv g]) (nd.filter _) fun f hf => by
        obtain ⟨h1, h2⟩ := List.mem_filter.mp hf
        rcases (on f h1).rst la za (on g hg) (of_decide_eq_true h2) with z | z <;> simp [z]
    · have : (ks.filter fun f => decide (rstQ f = q)) = [] := List.filter_eq_nil_iff.mpr fun f hf z => h ⟨f, hf, of_decide_eq_true z⟩
      rw [this]; simp
  have one : ∀ q : Rat, (∀ f ∈ ks, ∀ g ∈ ks, rstQ f = q → rstQ g = q → f = g) → (ks.filter fun f => decide (rstQ f = q)).length ≤ 1 := fun q k => by
    by_cases h : ∃ g ∈ ks, rstQ g = q
    · obtain ⟨g, hg, e⟩ := h
      exact List.Nodup.length_le_of_subset (l₂ := [g]) (nd.filter _) fun f hf => by
        obtain ⟨h1, h2⟩ := List.mem_filter.mp hf
        simp [k f h1 g hg (of_decide_eq_true h2) e]
    · have : (ks.filter fun f => decide (rstQ f = q)) = [] := List.filter_eq_nil_iff.mpr fun f hf z => h ⟨f, hf, of_decide_eq_true z⟩
      rw [this]; simp
  have c0 := one 0 fun f hf g hg e1 e2 => (on f hf).rst0 la za (on g hg) e1 e2
  have c1 := one 1 fun f hf g hg e1 e2 => (on f hf).rst1 la za (on g hg) e1 e2
  have c2 := two (1 / 2)
  have c3 := two (1 / 4)
  have c4 := two (3 / 4)
  by_cases h : ∃ f ∈ ks, rstQ f = 1 / 2
  · obtain ⟨f, hf, e⟩ := h
    have none : ∀ q : Rat, q = 1 / 4 ∨ q = 3 / 4 → (ks.filter fun f => decide (rstQ f = q)).length = 0 := fun q hq => by
      rw [List.filter_eq_nil_iff.mpr fun g hg z => ?_]
      · rfl
      · have z := of_decide_eq_true z
        exact (on f hf).not_both la za (on g hg) e (by rw [z]; exact hq)
    have d3 := none (1 / 4) (.inl rfl)
    have d4 := none (3 / 4) (.inr rfl)
    omega
  · have : (ks.filter fun f => decide (rstQ f = 1 / 2)).length = 0 := by
      rw [List.filter_eq_nil_iff.mpr fun g hg z => h ⟨g, hg, of_decide_eq_true z⟩]; rfl
    omega
end
theorem keep_few12 {us : List Pt} (nd : us.Nodup) (ul : us.length ≤ 12) {L : Nat} (L0 : 0 < L) (dv : ∀ p ∈ us, ∀ q ∈ qsOf p, q.den ∣ L) {ws : List Fo} (kl : KeepL us ws) {a b : Pt} (ha : a ∈ us) (hb : b ∈ us) (hx : xP a b ≠ (0, 0, 0)) : ws.length ≤ 72 := by
  have g := kl.grp
  have gs := g.stab a
  have o := orb_stab g a
  have ol : (orbP ws a).length ≤ 12 := Nat.le_trans (List.Nodup.length_le_of_subset (distG_nodup _) fun q hq => by
    obtain ⟨f, hf, rfl⟩ := orb_mem.mp hq
    exact (kl.mem.mp hf).2 _ ha) ul
  have za : ∃ n ∈ wayOf L a, n ≠ 0 := crs_nz_l rfl rfl (nz_three (crs_len rfl rfl) fun h => hx ((crs_xP L0 (dv _ ha) (dv _ hb)).mp h))
  have sl : (stabF ws a).length ≤ 12 := by
    have nd2 : ((stabF ws a).map fun f => rot f b).Nodup := by
      rw [List.nodup_iff_pairwise_ne, List.pairwise_map]
      have := gs.nd
      rw [List.nodup_iff_pairwise_ne] at this
      refine List.Pairwise.imp_of_mem (fun {f g} hf hg ne e => ne ?_) this
      obtain ⟨f1, f2⟩ := stab_mem.mp hf
      obtain ⟨g1, g2⟩ := stab_mem.mp hg
      exact kl.two L0 dv ha hb hx f1 g1 (f2.trans g2.symm) e
    have := List.Nodup.length_le_of_subset (l₂ := us) nd2 fun q hq => by
      obtain ⟨f, hf, rfl⟩ := List.mem_map.mp hq
      exact (kl.mem.mp (stab_mem.mp hf).1).2 _ hb
    rw [List.length_map] at this
    omega
  have six := six_about (a := wayOf L a) rfl za gs.nd (fun f hf => by
    obtain ⟨f1, f2⟩ := stab_mem.mp hf
    have pf := g.pf f f1
    exact ⟨pf, fix_axis pf.len rfl ((rot_spn pf.len pf.nz L0 (dv _ ha) (dv _ ha)).mp f2) pf.nz⟩) fun f hf =>
    den_few (ks := stabF ws a) (by omega) (fun x hx y hy => gs.cl y hy x hx) (fun x hx => ⟨(gs.pf x hx).len, (gs.pf x hx).nz⟩) hf
  rw [← o]
  exact Nat.le_trans (Nat.mul_le_mul ol six) (by decide)
end Z
set_option Elab.async false
set_option linter.all false
set_option maxRecDepth 100000
/-! R106: sorted(set(..)) of points and of fours (k39). -/
namespace Z
open PySem PySem.Spec PyProof.Rows L2 RZ
theorem elOk_pt (p : Pt) : elOk (ptD p) = true := rfl
theorem elOk_fo (f : Fo) : elOk (.tup (f.map D.int)) = true := keyOk_ints f
theorem ptL_nodup {us : List Pt} : (ptL us).Nodup ↔ us.Nodup := by
  constructor
  · intro h
    exact nodup_of_map h
  · intro h
    rw [List.nodup_iff_pairwise_ne] at h ⊢
    exact List.Pairwise.map _ (fun a b hab e => hab (ptD_inj.mp e)) h
theorem fsL_nodup {us : List Fo} (h : us.Nodup) : (fsL us).Nodup := by
  rw [List.nodup_iff_pairwise_ne] at h ⊢
  refine List.Pairwise.map _ (fun a b hab e => hab ?_) h
  have := congrArg unF e
  rwa [unF_f, unF_f] at this
theorem set_pts {ps : List Pt} {M : List D} (nd : M.Nodup) (hm : ∀ y, y ∈ M ↔ y ∈ ptL ps) : ∃ us : List Pt, srtD M = ptL us ∧ us.Nodup ∧ ∀ p, p ∈ ps ↔ p ∈ us := by
  have un : ∀ l : List D, (∀ d ∈ l, ∃ p : Pt, d = ptD p) → ∃ vs : List Pt, l = ptL vs := by
    intro l
    induction l with
    | nil => exact fun _ => ⟨[], rfl⟩
    | cons d l ih =>
      intro h
      obtain ⟨p, rfl⟩ := h d (by simp)
      obtain ⟨vs, rfl⟩ := ih fun e he => h e (by simp [he])
      exact ⟨p :: vs, rfl⟩
  obtain ⟨vs, rfl⟩ := un M fun d hd => by
    obtain ⟨p, _, rfl⟩ := List.mem_map.mp ((hm d).mp hd)
    exact ⟨p, rfl⟩
  obtain ⟨us, e, pu⟩ := srt_pt vs
  refine ⟨us, e, pu.nodup_iff.mpr (ptL_nodup.mp nd), fun p => ?_⟩
  rw [pu.mem_iff]
  have m : ∀ ws : List Pt, ptD p ∈ ptL ws ↔ p ∈ ws := fun ws => by
    rw [List.mem_map]
    exact ⟨fun ⟨q, hq, e⟩ => ptD_inj.mp e ▸ hq, fun h => ⟨p, h, rfl⟩⟩
  rw [← m ps, ← m vs]
  exact (hm _).symm
theorem set_fos {ws : List Fo} (wn : ws.Nodup) {M : List D} (nd : M.Nodup) (hm : ∀ y, y ∈ M ↔ y ∈ srtD (fsL ws)) : srtD M = srtD (fsL ws) := by
  have pm : (srtD (fsL ws)).Perm (fsL ws) := List.mergeSort_perm _ _
  have p : M.Perm (fsL ws) := (List.perm_ext_iff_of_nodup nd (fsL_nodup wn)).mpr fun d => (hm d).trans pm.mem_iff
  refine srt_perm p fun a ha b hb h => ?_
  obtain ⟨f, _, rfl⟩ := List.mem_map.mp (p.mem_iff.mp ha)
  obtain ⟨g, _, rfl⟩ := List.mem_map.mp (p.mem_iff.mp hb)
  rw [show py (.tup (f.map D.int)) = _ from four_data, show py (.tup (g.map D.int)) = _ from four_data] at h
  rw [toks_ints (show PySem.W.keyToksAll (f.map PyData.int) = PySem.W.keyToksAll (g.map PyData.int) from h)]
theorem eqa_fos : ∀ us : List Fo, PyData.eqvAll (pys (fsL us)) (pys (fsL us)) = true
  | [] => by simp [pys, PyData.eqvAll]
  | f :: us => by
    have e : (py (D.tup (f.map D.int))).eqv (py (D.tup (f.map D.int))) = true := by
      rw [show py (D.tup (f.map D.int)) = PyData.tuple (pys (f.map D.int)) from rfl, eqv_tt, eqv_ints]
      simp
    rw [show fsL (f :: us) = D.tup (f.map D.int) :: fsL us from rfl, pys, eqa_cc, e, eqa_fos us]; rfl
theorem depth_fsL : ∀ {us : List Fo}, (∀ f ∈ us, f.length = 4) → PyData.depthAll (pys (fsL us)) ≤ 50
  | [], _ => by simp [pys, PyData.depthAll]
  | u :: us, h => by
    have h1 := (four_sort (ws := [u]) fun f hf => h f (by simp at hf; simp [hf])).2 (.tup (u.map D.int)) (by simp)
    have h2 := depth_fsL (us := us) fun f hf => h f (by simp [hf])
    have h4 : fsL (u :: us) = .tup (u.map D.int) :: fsL us := rfl
    rw [h4, pys, PyData.depthAll]
    omega
theorem any_pt (p : Pt) : ∀ t : List Pt, ((pys (ptL t)).any fun z => z.eqv (py (ptD p))) = decide (p ∈ t)
  | [] => by simp [pys]
  | g :: t => by
    rw [show ptL (g :: t) = ptD g :: ptL t from rfl, pys, List.any_cons, any_pt p t, eqv_pt]
    by_cases h : g = p
    · subst h; simp
    · have h' : ¬ p = g := fun z => h z.symm
      simp [h, h']
/-- is what keeps tells as the law has it -/
def spRight : SpZ := fun rs S W => match rs, S with
  | [.loc 0, .tr [.d (.str s)]], [.lst xs] => ∃ (ps : List Pt) (L : Nat), s = PySem.Str.ofString "line" ∧ xs = ptL ps ∧ ps.length ≤ 12 ∧ Bd 50 (L : Int) ∧ (∀ p ∈ ps, GP L 100 p) ∧ (∀ p ∈ ps, ∀ r ∈ ps, xP p r = (0, 0, 0)) ∧ W (.d (.bl true)) S
  | [.loc 0, .tr [.d (.str s), .loc 1]], [.lst xs, .lst ys] => ∃ (ps : List Pt) (L : Nat) (ws : List Fo), s = PySem.Str.ofString "some" ∧ xs = ptL ps ∧ ys = srtD (fsL ws) ∧ ps.length ≤ 12 ∧ 0 < L ∧ Bd 50 (L : Int) ∧ (∀ p ∈ ps, GP L 100 p) ∧ (∃ p ∈ ps, ∃ r ∈ ps, xP p r ≠ (0, 0, 0)) ∧ KeepL ps ws ∧ (∀ f ∈ ws, ∀ x ∈ f, Bd 2000 x) ∧ W (.d (.bl true)) S
  | _, _ => False
end Z
set_option Elab.async false
set_option linter.all false
set_option maxRecDepth 100000
set_option exponentiation.threshold 20000
set_option maxHeartbeats 4000000
namespace Z
open PySem PySem.Spec PyProof.Rows L2 RZ
open PySem PySem.Spec PyProof.Rows L2 RZ
local macro_rules
  | `(tactic| wide_open with ($a, $bs,*)) => `(tactic| simp -failIfUnchanged only [wSeq, wSet, wFn, fAbs, fLen, fSum, fTup, fList, fMax2, fMin2, fInt, wCons, wVar, wNil, bindV, isLo, wTest, wBin, wUn, pNeg, pCmp, wC, wPar, pInt, pAddI, pMulI, pCat, wUnl, wNever, wFz, wRev, wItS, wSIdx, pSIn, pSCat, pSIx, fSLen, wrL, isLst, wRet, wRetN, wIf, wTup, wLst, dataOf, seqOf, pIx, wUnp, fTp, fNm, fCons, fNil, wStI, wAug, wDrop, wApp, wIt, itOf, wFor, wRng1, wRng2, wZip, wLc, wYes, wAndT, wOrT, wNotT, wAndV, wOrV, wNotV, wIfE, pEqB, pyOf, pyTr, py, pys, wIsi, isT, tyN, wSl, wNo, wSome, wCall, bindVs, rsOf, callL, locR, argLocs, renR, renum, pick, backL, putAll, wNext, retN, pIsN, isNon, pIsB, pInB, wipeR, start1, ixD_10, ixD_20, ixD_21, ixD_30, ixD_31, ixD_32, ixD_40, ixD_41, ixD_42, ixD_43, getI_0, getI_1, getI_2, getI_3, eqv_ii, eqv_bb, eqv_tt, eqv_ll, eqv_nn, eqv_tn, eqv_nt, eqv_it, eqv_ti, eqv_in, eqv_ni, eqa_nil, eqa_nc, eqa_cn, eqa_cc, PyData.depth, PyData.depthAll, Nat.min_zero, Nat.zero_min, Nat.max_zero, Nat.zero_max, Nat.max_self, Nat.min_self, Nat.zero_le, Nat.le_refl, List.append_assoc, List.length_append, at_k, at_0, set_k, set_0, lt_k, take_k, lt_kk, lt_0k, allD, prs, pSub, pDiv, pMod, pPow, pShl, pLt, pLe, pGt, pGe, pEq, pNe, Option.map_some, Option.map_none, Option.bind_some, Option.bind_none, List.getElem?_cons_zero, List.getElem?_cons_succ, List.getElem?_nil, List.set_cons_zero, List.set_cons_succ, List.set_nil, List.length_cons, List.length_nil, List.map_cons, List.map_nil, List.cons_append, List.nil_append, List.replicate_zero, List.replicate_succ, List.reduceReplicate, Nat.reduceAdd, Nat.reduceSub, Nat.reduceLT, Nat.reduceLeDiff, Int.reduceNeg, Int.reduceBEq, Int.reduceAdd, Int.reduceSub, Int.reduceMul, Int.reduceLE, Int.reduceLT, Int.reduceToNat, if_true, if_false, ite_true, ite_false, Bool.false_eq_true, Bool.not_true, Bool.not_false, true_and, and_true, List.nodup_nil, List.take_succ_cons, List.take_zero, List.take_nil, List.take_length, List.take_left, Bool.and_self, Bool.and_true, Bool.true_and, Bool.and_false, Bool.false_and, reduceCtorEq, Nat.zero_add, decide_true, decide_false, Nat.add_zero, List.append_nil, intsOf, Bool.or_false, Bool.or_true, Bool.false_or, Bool.true_or, beq_self_eq_true, String.reduceBEq, ne_eq, not_false_eq_true, forall_const, implies_true, Int.reduceDiv, Int.reduceMod, Int.reducePow, Nat.lt_irrefl, SV.r.injEq, R.d.injEq, false_implies, imp_self, Int.cast_ofNat_Int, List.nodup_cons, List.not_mem_nil, not_false_iff, Int.ofNat_zero, Int.natCast_zero, Int.natCast_one, Nat.reducePow, Int.reduceFDiv, Int.reduceFMod, wZipS, fStr, pRepT, wJoin, strsOf, wDGet, pLtD, fSorted, wFzL, fMin2D, fMax2D, wDIx, wRvX, fMin1D, fMax1D, wUnlike, wRvL, pCatQ, wDNew, pInD, pIxD, wDPut, fLenD, wKNew, wKNew1, pInK, pIxK, wKPut, fLenK, fListK, R.loc.injEq, forall_eq', List.mem_singleton, Nat.reduceEqDiff, wNum, wTupR, pIxT, fLenT, getR_0, getR_1, getR_2, wEnum, wDNew1, fSortX, wVals, wClr, wCntL, wItX, wGetK, wItemsS, wZipX, wSrtSet, $a:term, $[$bs:term],*])
/-- slots: 0 one, 1 other -/
def w_divisor : PS1 :=
  (wSeq (wSet 0 (wFn fAbs (wCons (wVar 0) wNil)))
  (wSeq (wSet 1 (wFn fAbs (wCons (wVar 1) wNil)))
  (wSeq (wWhile (wTest (wBin pGt (wVar 1) (wC (.int 0)))) (wPar 0 1 (wCons (wVar 1) (wCons (wBin pMod (wVar 0) (wVar 1)) wNil))))
  (wRet (wVar 0)))))
def sp_divisor : SpZ := spGcd
theorem rd_divisor : ∀ rs S W, rs.length = 2 → sp_divisor rs S W → w_divisor { nx := fun _ S1 => retN S.length W (.d .non) S1, rt := retN S.length W } (start1 2 rs) S := by
  intro rs S W _ h
  unfold sp_divisor spGcd at h
  split at h
  · rename_i a b _
    wide_open with (w_divisor, wWhile)
    refine ⟨fun n r1 S1 => ∃ x y : Nat, r1 = [some (.d (.int x)), some (.d (.int y))] ∧ S1 = S ∧ n = y ∧ Nat.gcd x y = Int.gcd a b, ⟨_, _, _, rfl, rfl, rfl, rfl⟩, ?_⟩
    rintro n r1 S1 ⟨x, y, rfl, rfl, rfl, hg⟩
    wide_open with (if_true, if_true)
    by_cases hy : 0 < n
    · rw [if_pos (by simpa using hy)]
      refine ⟨by omega, _, _, Cut.refl, x % n, Nat.mod_lt _ hy, n, x % n, ?_, rfl, rfl, ?_⟩
      · rw [fmod_pos (by omega)]; rfl
      · rw [← hg, Nat.gcd_comm x n, Nat.gcd_rec n x, Nat.gcd_comm]
    · rw [if_neg (by simpa using hy)]
      have : n = 0 := by omega
      subst this
      rw [Nat.gcd_zero_right] at hg
      rw [hg]; exact h
  · exact h.elim
/-- slots: 0 number, 1 found -/
def w_root : PS1 :=
  (wSeq (wSet 1 (wBin pShl (wC (.int 1)) (wBin pDiv (wBin pAddI (wBits (wVar 0)) (wC (.int 1))) (wC (.int 2)))))
  (wSeq (wWhile (wTest (wBin pGt (wBin pMulI (wVar 1) (wVar 1)) (wVar 0))) (wSet 1 (wBin pDiv (wBin pAddI (wVar 1) (wBin pDiv (wVar 0) (wVar 1))) (wC (.int 2)))))
  (wRet (wVar 1))))
def sp_root : SpZ := spRoot
theorem rd_root : ∀ rs S W, rs.length = 1 → sp_root rs S W → w_root { nx := fun _ S1 => retN S.length W (.d .non) S1, rt := retN S.length W } (start1 2 rs) S := by
  intro rs S W _ h
  unfold sp_root spRoot at h
  split at h
  · rename_i n _
    obtain ⟨n0, nb, h⟩ := h
    obtain ⟨n, rfl⟩ := Int.eq_ofNat_of_zero_le n0
    have nl : n < 2 ^ 16000 := by simpa using nb.lt
    have b1 := bits_le nl
    have b2 := bits_ge (n := n)
    unfold w_root
    refine seqI fun P hP => ?_
    wide_open with (wBits, if_true)
    have e1 : ((Builtin.Int.intBits (n : Int) : Nat) : Int) + 1 = ((Builtin.Int.intBits (n : Int) + 1 : Nat) : Int) := rfl
    have e2 : (2 : Int) = ((2 : Nat) : Int) := rfl
    have ef : (((Builtin.Int.intBits (n : Int) : Nat) : Int) + 1).fdiv 2 = (((Builtin.Int.intBits (n : Int) + 1) / 2 : Nat) : Int) := by
      rw [e1, e2, fdiv_nat]
    rw [ef]
    have ib : Builtin.Int.intBits 1 = 1 := by decide
    generalize eb : (Builtin.Int.intBits (n : Int) + 1) / 2 = e at *
    have he : e ≤ 8000 := by clear nl b2 nb h; omega
    clear nl
    refine ⟨cdv_small (by decide) (by decide), ⟨Int.natCast_nonneg _, by rw [ib]; clear b2; omega⟩, ?_⟩
    rw [Int.toNat_natCast, Int.one_mul]
    refine hP _ _ ?_; clear hP
    have start : n < (2 ^ e + 1) * (2 ^ e + 1) := by
      have : n < 2 ^ e * 2 ^ e := by
        rw [← Nat.pow_add]
        exact Nat.lt_of_lt_of_le b2 (Nat.pow_le_pow_right (by decide) (by clear b2; omega))
      have e3 : (2 ^ e + 1) * (2 ^ e + 1) = 2 ^ e * 2 ^ e + 2 ^ e + 2 ^ e + 1 := by
        rw [Nat.add_mul, Nat.mul_add, Nat.one_mul, Nat.mul_one]; omega
      rw [e3]
      generalize 2 ^ e * 2 ^ e = y1 at *
      generalize 2 ^ e = y2 at *
      clear b2
      omega
    have stb : 2 ^ e ≤ 2 ^ 8000 := Nat.pow_le_pow_right (by decide) he
    clear b2
    have e5 : (2 : Int) ^ e = ((2 ^ e : Nat) : Int) := by simp
    rw [e5]
    generalize 2 ^ e = x0 at *
    refine seqI fun P hP => ?_
    wide_open with (wWhile, if_true)
    refine ⟨fun m r1 S2 => ∃ x : Nat, r1 = [some (.d (.int (n : Nat))), some (.d (.int (x : Nat)))] ∧ S2 = S ∧ m = x ∧ x ≤ 2 ^ 8000 ∧ n < (x + 1) * (x + 1), ⟨_, x0, rfl, rfl, rfl, stb, start⟩, ?_⟩
    rintro m r1 S2 ⟨x, rfl, rfl, rfl, hx, hn⟩
    have xb : Bd 8001 (m : Int) := Bd.lit (by
      rw [Int.natAbs_natCast]
      exact Nat.lt_of_le_of_lt hx (Nat.pow_lt_pow_right (by decide) (by decide)))
    wide_open with (if_true, if_true)
    refine ⟨mulOk xb xb (by decide), ?_⟩
    have em : (m : Int) * m = ((m * m : Nat) : Int) := by simp
    rw [em]
    by_cases hl : n < m * m
    · have hl' : ((n : Nat) : Int) < ((m * m : Nat) : Int) := by exact_mod_cast hl
      have m0 : 0 < m := by
        rcases Nat.eq_zero_or_pos m with h | h
        · subst h; simp at hl
        · exact h
      obtain ⟨k1, k2⟩ := newton hl
      wide_open with (decide_eq_true hl', if_true)
      have e6 : ((m : Int) + ((n : Nat) : Int).fdiv (m : Int)).fdiv 2 = (((m + n / m) / 2 : Nat) : Int) := by
        rw [fdiv_nat, show (m : Int) + ((n / m : Nat) : Int) = ((m + n / m : Nat) : Int) from rfl, e2, fdiv_nat]
      rw [e6]
      exact ⟨cdv (by clear hx; omega) xb (by decide), cdv_small (by decide) (by decide), _, _, Cut.refl, (m + n / m) / 2, k1, _, rfl, rfl, rfl, Nat.le_trans (Nat.le_of_lt k1) hx, k2⟩
    · have hl' : ¬((n : Nat) : Int) < ((m * m : Nat) : Int) := by exact_mod_cast hl
      wide_open with (decide_eq_false hl', if_true)
      refine hP _ _ ?_; clear hP
      wide_open with (if_true, if_true)
      exact h m (by rw [em]; clear hx stb; omega) (by exact_mod_cast hn)
  · exact h.elim
/-- slots: 0 four, 1 number -/
def w_size : PS1 :=
  (wRet (wFn fSum (wCons (wLc (wIt (wVar 0)) (fNm 1) wYes (wBin pMulI (wVar 1) (wVar 1)) [1]) wNil)))
def sp_size : SpZ := spSize
theorem rd_size : ∀ rs S W, rs.length = 1 → sp_size rs S W → w_size { nx := fun _ S1 => retN S.length W (.d .non) S1, rt := retN S.length W } (start1 2 rs) S := by
  intro rs S W _ h
  unfold sp_size spSize at h
  split at h
  · obtain ⟨ns, rfl, hb, hl, h⟩ := h
    wide_open with (w_size, if_true)
    refine ⟨by simp; omega, lcL_map (fun x => match x with | .d (.int n) => .int (n * n) | _ => .non) (by simp) trivial ?_ ?_⟩
    · intro x hx
      simp only [List.map_map, List.mem_map, Function.comp] at hx
      obtain ⟨n, hn, rfl⟩ := hx
      refine ⟨_, rfl, fun W1 h => h, fun W1 h => ?_⟩
      wide_open with (if_true, if_true)
      exact ⟨mulOk (hb n hn) (hb n hn) (by decide), h⟩
    · have e : ((ns.map D.int).map R.d).map (fun x => match x with | .d (.int n) => D.int (n * n) | _ => .non) = (ns.map fun x => x * x).map D.int := by simp [List.map_map, Function.comp_def]
      rw [e]
      wide_open with (intsOf_map, if_true)
      exact h
  · exact h.elim
/-- slots: 0 one, 1 other, 2 p, 3 q, 4 r, 5 s, 6 t, 7 u, 8 v, 9 o, 10 w, 11 x, 12 y -/
def w_product : PS1 :=
  (wSeq (wUnp (fTp 4 (fCons (fNm 2) (fCons (fNm 3) (fCons (fNm 4) (fCons (fNm 5) fNil))))) (wVar 0))
  (wSeq (wUnp (fTp 4 (fCons (fNm 6) (fCons (fNm 7) (fCons (fNm 8) (fCons (fNm 9) fNil))))) (wVar 1))
  (wSeq (wSet 10 (wBin pSub (wBin pSub (wBin pSub (wBin pMulI (wVar 2) (wVar 6)) (wBin pMulI (wVar 3) (wVar 7))) (wBin pMulI (wVar 4) (wVar 8))) (wBin pMulI (wVar 5) (wVar 9))))
  (wSeq (wSet 11 (wBin pSub (wBin pAddI (wBin pAddI (wBin pMulI (wVar 2) (wVar 7)) (wBin pMulI (wVar 3) (wVar 6))) (wBin pMulI (wVar 4) (wVar 9))) (wBin pMulI (wVar 5) (wVar 8))))
  (wSeq (wSet 12 (wBin pAddI (wBin pAddI (wBin pSub (wBin pMulI (wVar 2) (wVar 8)) (wBin pMulI (wVar 3) (wVar 9))) (wBin pMulI (wVar 4) (wVar 6))) (wBin pMulI (wVar 5) (wVar 7))))
  (wRet (wTup (wCons (wVar 10) (wCons (wVar 11) (wCons (wVar 12) (wCons (wBin pAddI (wBin pSub (wBin pAddI (wBin pMulI (wVar 2) (wVar 9)) (wBin pMulI (wVar 3) (wVar 8))) (wBin pMulI (wVar 4) (wVar 7))) (wBin pMulI (wVar 5) (wVar 6))) wNil)))))))))))
def sp_product : SpZ := spProd
theorem rd_product : ∀ rs S W, rs.length = 2 → sp_product rs S W → w_product { nx := fun _ S1 => retN S.length W (.d .non) S1, rt := retN S.length W } (start1 13 rs) S := by
  intro rs S W _ h
  unfold sp_product spProd at h
  split at h
  · obtain ⟨a, b, rfl, rfl, ha, hb, h1, h2, h⟩ := h
    obtain ⟨p, q, r, s, rfl⟩ := four_of ha
    obtain ⟨t, u, v, o, rfl⟩ := four_of hb
    simp only [List.mem_cons, List.not_mem_nil, or_false, forall_eq_or_imp, forall_eq] at h1 h2
    obtain ⟨p1, p2, p3, p4⟩ := h1
    obtain ⟨q1, q2, q3, q4⟩ := h2
    wide_open with (w_product, if_true)
    repeat' refine And.intro ?_ ?_
    all_goals first | exact mulOk (by assumption) (by assumption) (by decide) | exact h
  · exact h.elim
/-- slots: 0 four, 1 w, 2 x, 3 y, 4 z, 5 first, 6 second, 7 third -/
def w_rows_of : PS1 :=
  (wSeq (wUnp (fTp 4 (fCons (fNm 1) (fCons (fNm 2) (fCons (fNm 3) (fCons (fNm 4) fNil))))) (wVar 0))
  (wSeq (wSet 5 (wTup (wCons (wBin pSub (wBin pSub (wBin pAddI (wBin pMulI (wVar 1) (wVar 1)) (wBin pMulI (wVar 2) (wVar 2))) (wBin pMulI (wVar 3) (wVar 3))) (wBin pMulI (wVar 4) (wVar 4))) (wCons (wBin pMulI (wC (.int 2)) (wBin pSub (wBin pMulI (wVar 2) (wVar 3)) (wBin pMulI (wVar 1) (wVar 4)))) (wCons (wBin pMulI (wC (.int 2)) (wBin pAddI (wBin pMulI (wVar 2) (wVar 4)) (wBin pMulI (wVar 1) (wVar 3)))) wNil)))))
  (wSeq (wSet 6 (wTup (wCons (wBin pMulI (wC (.int 2)) (wBin pAddI (wBin pMulI (wVar 2) (wVar 3)) (wBin pMulI (wVar 1) (wVar 4)))) (wCons (wBin pSub (wBin pAddI (wBin pSub (wBin pMulI (wVar 1) (wVar 1)) (wBin pMulI (wVar 2) (wVar 2))) (wBin pMulI (wVar 3) (wVar 3))) (wBin pMulI (wVar 4) (wVar 4))) (wCons (wBin pMulI (wC (.int 2)) (wBin pSub (wBin pMulI (wVar 3) (wVar 4)) (wBin pMulI (wVar 1) (wVar 2)))) wNil)))))
  (wSeq (wSet 7 (wTup (wCons (wBin pMulI (wC (.int 2)) (wBin pSub (wBin pMulI (wVar 2) (wVar 4)) (wBin pMulI (wVar 1) (wVar 3)))) (wCons (wBin pMulI (wC (.int 2)) (wBin pAddI (wBin pMulI (wVar 3) (wVar 4)) (wBin pMulI (wVar 1) (wVar 2)))) (wCons (wBin pAddI (wBin pSub (wBin pSub (wBin pMulI (wVar 1) (wVar 1)) (wBin pMulI (wVar 2) (wVar 2))) (wBin pMulI (wVar 3) (wVar 3))) (wBin pMulI (wVar 4) (wVar 4))) wNil)))))
  (wRet (wTup (wCons (wVar 5) (wCons (wVar 6) (wCons (wVar 7) wNil)))))))))
def sp_rows_of : SpZ := fun rs S W => match rs with
  | [.d (.tup xs)] => ∃ a : List Int, xs = a.map D.int ∧ a.length = 4 ∧ (∀ x ∈ a, Bd 60000000 x) ∧ W (.d (.tup ((rowsI a).map rowD))) S
  | _ => False
theorem rd_rows_of : ∀ rs S W, rs.length = 1 → sp_rows_of rs S W → w_rows_of { nx := fun _ S1 => retN S.length W (.d .non) S1, rt := retN S.length W } (start1 8 rs) S := by
  intro rs S W _ h
  unfold sp_rows_of at h
  split at h
  · obtain ⟨a, rfl, ha, hb, h⟩ := h
    obtain ⟨w, x, y, z, rfl⟩ := four_of ha
    simp only [List.mem_cons, List.not_mem_nil, or_false, forall_eq_or_imp, forall_eq] at hb
    obtain ⟨p1, p2, p3, p4⟩ := hb
    wide_open with (w_rows_of, if_true)
    repeat' refine And.intro ?_ ?_
    all_goals first | exact mulOk_l (by decide) | exact mulOk (by assumption) (by assumption) (by decide) | exact h
  · exact h.elim
/-- slots: 0 one, 1 other, 2 a, 3 b -/
def w_product_of : PS1 :=
  (wRet (wFn fSum (wCons (wLc (wZip (wCons (wVar 0) (wCons (wVar 1) wNil))) (fTp 2 (fCons (fNm 2) (fCons (fNm 3) fNil))) wYes (wBin pMulI (wVar 2) (wVar 3)) [2, 3]) wNil)))
def sp_product_of : SpZ := spDt
theorem rd_product_of : ∀ rs S W, rs.length = 2 → sp_product_of rs S W → w_product_of { nx := fun _ S1 => retN S.length W (.d .non) S1, rt := retN S.length W } (start1 4 rs) S := by
  intro rs S W _ h
  unfold sp_product_of spDt at h
  split at h
  · obtain ⟨a, b, rfl, rfl, la, lb, h1, h2, h⟩ := h
    obtain ⟨p, q, r, rfl⟩ := three_of la
    obtain ⟨t, u, v, rfl⟩ := three_of lb
    simp only [List.mem_cons, List.not_mem_nil, or_false, forall_eq_or_imp, forall_eq] at h1 h2
    obtain ⟨a1, a2, a3⟩ := h1
    obtain ⟨b1, b2, b3⟩ := h2
    wide_open with (w_product_of, lcL)
    refine ⟨mulOk a1 b1 (by decide), mulOk a2 b2 (by decide), mulOk a3 b3 (by decide), ?_⟩
    have e : [p * t, q * u, r * v].sum = dt [p, q, r] [t, u, v] := by simp only [dt, List.sum_cons, List.sum_nil]; omega
    rw [e]
    exact h
  · exact h.elim
/-- slots: 0 one, 1 other, 2 a, 3 b, 4 c, 5 p, 6 q, 7 r -/
def w_upright_to_both : PS1 :=
  (wSeq (wUnp (fTp 3 (fCons (fNm 2) (fCons (fNm 3) (fCons (fNm 4) fNil)))) (wVar 0))
  (wSeq (wUnp (fTp 3 (fCons (fNm 5) (fCons (fNm 6) (fCons (fNm 7) fNil)))) (wVar 1))
  (wRet (wTup (wCons (wBin pSub (wBin pMulI (wVar 3) (wVar 7)) (wBin pMulI (wVar 4) (wVar 6))) (wCons (wBin pSub (wBin pMulI (wVar 4) (wVar 5)) (wBin pMulI (wVar 2) (wVar 7))) (wCons (wBin pSub (wBin pMulI (wVar 2) (wVar 6)) (wBin pMulI (wVar 3) (wVar 5))) wNil)))))))
def sp_upright_to_both : SpZ := spCrs
theorem rd_upright_to_both : ∀ rs S W, rs.length = 2 → sp_upright_to_both rs S W → w_upright_to_both { nx := fun _ S1 => retN S.length W (.d .non) S1, rt := retN S.length W } (start1 8 rs) S := by
  intro rs S W _ h
  unfold sp_upright_to_both spCrs at h
  split at h
  · obtain ⟨a, b, rfl, rfl, la, lb, h1, h2, h⟩ := h
    obtain ⟨p, q, r, rfl⟩ := three_of la
    obtain ⟨t, u, v, rfl⟩ := three_of lb
    obtain ⟨a1, a2, a3⟩ := three_mem h1
    obtain ⟨b1, b2, b3⟩ := three_mem h2
    wide_open with (w_upright_to_both, if_true)
    repeat' refine And.intro ?_ ?_
    all_goals first | exact mulOk (by assumption) (by assumption) (by decide) | exact h
  · exact h.elim
/-- slots: 0 way -/
def w_upright_to : PS1 :=
  (wSeq (wIf (wAndT (wTest (wBin pEq (wBin pIx (wVar 0) (wC (.int 0))) (wC (.int 0)))) (wTest (wBin pEq (wBin pIx (wVar 0) (wC (.int 1))) (wC (.int 0))))) (wRet (wTup (wCons (wC (.int 1)) (wCons (wC (.int 0)) (wCons (wC (.int 0)) wNil))))) wNext)
  (wRet (wTup (wCons (wUn pNeg (wBin pIx (wVar 0) (wC (.int 1)))) (wCons (wBin pIx (wVar 0) (wC (.int 0))) (wCons (wC (.int 0)) wNil))))))
def sp_upright_to : SpZ := fun rs S W => match rs with
  | [.d (.tup xs)] => ∃ a : List Int, xs = a.map D.int ∧ a.length = 3 ∧ W (.d (.tup ((upr a).map D.int))) S
  | _ => False
theorem rd_upright_to : ∀ rs S W, rs.length = 1 → sp_upright_to rs S W → w_upright_to { nx := fun _ S1 => retN S.length W (.d .non) S1, rt := retN S.length W } (start1 1 rs) S := by
  intro rs S W _ h
  unfold sp_upright_to at h
  split at h
  · obtain ⟨a, rfl, la, h⟩ := h
    obtain ⟨x, y, z, rfl⟩ := three_of la
    unfold upr at h
    simp only [List.getElem!_cons_zero, List.getElem!_cons_succ] at h
    unfold w_upright_to
    refine seqI fun P hP => ?_
    have far : ¬(x = 0 ∧ y = 0) → P [some (.d (.tup [.int x, .int y, .int z]))] S := by
      intro hn
      rw [if_neg hn] at h
      refine hP _ _ ?_; clear hP
      wide_open with (if_true, if_true)
      exact h
    wide_open with (if_true, if_true)
    by_cases h1 : x = 0
    · by_cases h2 : y = 0
      · subst h1 h2
        wide_open with (if_true, if_true)
        exact h
      · have e : (y == 0) = false := by simpa using h2
        have e1 : (x == 0) = true := by simpa using h1
        wide_open with (e, e1)
        exact far fun k => h2 k.2
    · have e : (x == 0) = false := by simpa using h1
      wide_open with (e, if_true)
      exact far fun k => h1 k.1
  · exact h.elim
/-- slots: 0 _law_cell, 1 _law_k, 2 _law_number_here -/
def w_l_mixed : PS1 :=
  (wSeq (wSet 2 (wBin pMod (wBin pMulI (wBin pAddI (wBin pAddI (wBin pAddI (wBin pMulI (wVar 0) (wVar 0)) (wBin pMulI (wC (.int 3)) (wVar 0))) (wBin pMulI (wC (.int 7919)) (wVar 1))) (wC (.int 1))) (wC (.int 48271))) (wC (.int 2147483629))))
  (wRet (wBin pMod (wBin pAddI (wBin pMulI (wVar 2) (wVar 2)) (wC (.int 7))) (wC (.int 2147483587)))))
def sp_l_mixed : SpZ := fun rs S W => match rs with
  | [.d (.int c), .d (.int k)] => Bd SB c ∧ (0 ≤ k ∧ k ≤ 1000) ∧ ∀ v : Int, 0 ≤ v → v < 2147483587 → W (.d (.int v)) S
  | _ => False
theorem rd_l_mixed : ∀ rs S W, rs.length = 2 → sp_l_mixed rs S W → w_l_mixed { nx := fun _ S1 => retN S.length W (.d .non) S1, rt := retN S.length W } (start1 3 rs) S := by
  intro rs S W _ h
  unfold sp_l_mixed at h
  split at h
  · rename_i c k _
    obtain ⟨hc, ⟨k0, k1⟩, h⟩ := h
    wide_open with (w_l_mixed, if_true)
    have e1 : ∀ x : Int, x.fmod 2147483629 = x % 2147483629 := fun x => fmod_pos (by decide)
    have e2 : ∀ x : Int, x.fmod 2147483587 = x % 2147483587 := fun x => fmod_pos (by decide)
    rw [e1, e2]
    generalize ((c * c + 3 * c + 7919 * k + 1) * 48271) = z
    have b1 := Int.emod_nonneg z (show (2147483629 : Int) ≠ 0 by decide)
    have b2 := Int.emod_lt_of_pos z (show (0 : Int) < 2147483629 by decide)
    refine ⟨mulOk hc hc (by decide), mulOk_l (by decide), mulOk_l (by decide), mulOk_r (by decide), by decide, mulOk_l ⟨by omega, by omega⟩, by decide, h _ (Int.emod_nonneg _ (by decide)) (Int.emod_lt_of_pos _ (by decide))⟩
  · exact h.elim
/-- slots: 0 _law_purse_here, 1 _law_out_of, 2 _law_drawn -/
def w_l_draw : PS1 :=
  (wSeq (wIf (wTest (wBin pEq (wBin pIx (wVar 0) (wC (.int 0))) (wC (.int 0)))) (wStI (wVar 0) (wC (.int 0)) (wBin pIx (wVar 0) (wC (.int 1)))) wNext)
  (wSeq (wSet 2 (wBin pMod (wBin pIx (wVar 0) (wC (.int 0))) (wVar 1)))
  (wSeq (wStI (wVar 0) (wC (.int 0)) (wBin pDiv (wBin pIx (wVar 0) (wC (.int 0))) (wVar 1)))
  (wRet (wVar 2)))))
/-- the purse: any two whole numbers -/
def sp_l_draw : SpZ := fun rs S W => match rs, S with
  | [.loc 0, .d (.int n)], [.lst [.int _, .int _]] => (0 < n ∧ n ≤ 10000000000000000000000000000000000000000) ∧ ∀ v a b : Int, 0 ≤ v → v < n → W (.d (.int v)) [.lst [.int a, .int b]]
  | _, _ => False
theorem rd_l_draw : ∀ rs S W, rs.length = 2 → sp_l_draw rs S W → w_l_draw { nx := fun _ S1 => retN S.length W (.d .non) S1, rt := retN S.length W } (start1 3 rs) S := by
  intro rs S W _ h
  unfold sp_l_draw at h
  split at h
  · rename_i n a b _
    obtain ⟨⟨h0, h1⟩, h⟩ := h
    have fin : ∀ a b : Int, (n ≠ 0 ∧ CDv a n ∧ W (.d (.int (a.fmod n))) [.lst [.int (a.fdiv n), .int b]]) := fun a b => ⟨by omega, cdv_small (by omega) (Nat.lt_of_le_of_lt (show n.natAbs ≤ 10000000000000000000000000000000000000000 by omega) (by decide)), by rw [fmod_pos h0]; exact h _ _ _ (Int.emod_nonneg _ (by omega)) (Int.emod_lt_of_pos _ h0)⟩
    wide_open with (w_l_draw, PyData.eqv)
    by_cases ha : a = 0
    · subst ha
      wide_open with (if_true, if_true)
      exact fin b b
    · have e : (a == 0) = false := by simpa using ha
      rw [e]
      wide_open with (if_true, if_true)
      exact fin a b
  · exact h.elim
/-- slots: 0 _law_found -/
def w_l_whole : PS1 :=
  (wRet (wAndV (wIsi "int" (wVar 0)) (wNotV (wIsi "bool" (wVar 0)))))
def sp_l_whole : SpZ := fun rs S W => match rs with
  | [.d (.int _)] => W (.d (.bl true)) S
  | _ => False
theorem rd_l_whole : ∀ rs S W, rs.length = 1 → sp_l_whole rs S W → w_l_whole { nx := fun _ S1 => retN S.length W (.d .non) S1, rt := retN S.length W } (start1 1 rs) S := by
  intro rs S W _ h
  unfold sp_l_whole at h
  split at h
  · wide_open with (w_l_whole, if_true)
    exact h
  · exact h.elim
/-- slots: 0 _law_one, 1 _law_other -/
def w_l_divisor : PS1 :=
  (wSeq (wSet 0 (wFn fAbs (wCons (wVar 0) wNil)))
  (wSeq (wSet 1 (wFn fAbs (wCons (wVar 1) wNil)))
  (wSeq (wWhile (wTest (wBin pGt (wVar 1) (wC (.int 0)))) (wPar 0 1 (wCons (wVar 1) (wCons (wBin pMod (wVar 0) (wVar 1)) wNil))))
  (wRet (wVar 0)))))
def sp_l_divisor : SpZ := spGcd
theorem rd_l_divisor : ∀ rs S W, rs.length = 2 → sp_l_divisor rs S W → w_l_divisor { nx := fun _ S1 => retN S.length W (.d .non) S1, rt := retN S.length W } (start1 2 rs) S := rd_divisor
/-- slots: 0 _law_one, 1 _law_other, 2 _law_p, 3 _law_q, 4 _law_r, 5 _law_s, 6 _law_t, 7 _law_u, 8 _law_v, 9 _law_o, 10 _law_w, 11 _law_x, 12 _law_y -/
def w_l_product : PS1 :=
  (wSeq (wUnp (fTp 4 (fCons (fNm 2) (fCons (fNm 3) (fCons (fNm 4) (fCons (fNm 5) fNil))))) (wVar 0))
  (wSeq (wUnp (fTp 4 (fCons (fNm 6) (fCons (fNm 7) (fCons (fNm 8) (fCons (fNm 9) fNil))))) (wVar 1))
  (wSeq (wSet 10 (wBin pSub (wBin pSub (wBin pSub (wBin pMulI (wVar 2) (wVar 6)) (wBin pMulI (wVar 3) (wVar 7))) (wBin pMulI (wVar 4) (wVar 8))) (wBin pMulI (wVar 5) (wVar 9))))
  (wSeq (wSet 11 (wBin pSub (wBin pAddI (wBin pAddI (wBin pMulI (wVar 2) (wVar 7)) (wBin pMulI (wVar 3) (wVar 6))) (wBin pMulI (wVar 4) (wVar 9))) (wBin pMulI (wVar 5) (wVar 8))))
  (wSeq (wSet 12 (wBin pAddI (wBin pAddI (wBin pSub (wBin pMulI (wVar 2) (wVar 8)) (wBin pMulI (wVar 3) (wVar 9))) (wBin pMulI (wVar 4) (wVar 6))) (wBin pMulI (wVar 5) (wVar 7))))
  (wRet (wTup (wCons (wVar 10) (wCons (wVar 11) (wCons (wVar 12) (wCons (wBin pAddI (wBin pSub (wBin pAddI (wBin pMulI (wVar 2) (wVar 9)) (wBin pMulI (wVar 3) (wVar 8))) (wBin pMulI (wVar 4) (wVar 7))) (wBin pMulI (wVar 5) (wVar 6))) wNil)))))))))))
def sp_l_product : SpZ := spProd
theorem rd_l_product : ∀ rs S W, rs.length = 2 → sp_l_product rs S W → w_l_product { nx := fun _ S1 => retN S.length W (.d .non) S1, rt := retN S.length W } (start1 13 rs) S := by
  intro rs S W _ h
  unfold sp_l_product spProd at h
  split at h
  · obtain ⟨a, b, rfl, rfl, ha, hb, h1, h2, h⟩ := h
    obtain ⟨p, q, r, s, rfl⟩ := four_of ha
    obtain ⟨t, u, v, o, rfl⟩ := four_of hb
    simp only [List.mem_cons, List.not_mem_nil, or_false, forall_eq_or_imp, forall_eq] at h1 h2
    obtain ⟨p1, p2, p3, p4⟩ := h1
    obtain ⟨q1, q2, q3, q4⟩ := h2
    wide_open with (w_l_product, if_true)
    repeat' refine And.intro ?_ ?_
    all_goals first | exact mulOk (by assumption) (by assumption) (by decide) | exact h
  · exact h.elim
/-- slots: 0 _law_four, 1 _law_w, 2 _law_x, 3 _law_y, 4 _law_z, 5 _law_first, 6 _law_second -/
def w_l_rows : PS1 :=
  (wSeq (wUnp (fTp 4 (fCons (fNm 1) (fCons (fNm 2) (fCons (fNm 3) (fCons (fNm 4) fNil))))) (wVar 0))
  (wSeq (wSet 5 (wTup (wCons (wBin pSub (wBin pSub (wBin pAddI (wBin pMulI (wVar 1) (wVar 1)) (wBin pMulI (wVar 2) (wVar 2))) (wBin pMulI (wVar 3) (wVar 3))) (wBin pMulI (wVar 4) (wVar 4))) (wCons (wBin pMulI (wC (.int 2)) (wBin pSub (wBin pMulI (wVar 2) (wVar 3)) (wBin pMulI (wVar 1) (wVar 4)))) (wCons (wBin pMulI (wC (.int 2)) (wBin pAddI (wBin pMulI (wVar 2) (wVar 4)) (wBin pMulI (wVar 1) (wVar 3)))) wNil)))))
  (wSeq (wSet 6 (wTup (wCons (wBin pMulI (wC (.int 2)) (wBin pAddI (wBin pMulI (wVar 2) (wVar 3)) (wBin pMulI (wVar 1) (wVar 4)))) (wCons (wBin pSub (wBin pAddI (wBin pSub (wBin pMulI (wVar 1) (wVar 1)) (wBin pMulI (wVar 2) (wVar 2))) (wBin pMulI (wVar 3) (wVar 3))) (wBin pMulI (wVar 4) (wVar 4))) (wCons (wBin pMulI (wC (.int 2)) (wBin pSub (wBin pMulI (wVar 3) (wVar 4)) (wBin pMulI (wVar 1) (wVar 2)))) wNil)))))
  (wRet (wLst (wCons (wVar 5) (wCons (wVar 6) (wCons (wTup (wCons (wBin pMulI (wC (.int 2)) (wBin pSub (wBin pMulI (wVar 2) (wVar 4)) (wBin pMulI (wVar 1) (wVar 3)))) (wCons (wBin pMulI (wC (.int 2)) (wBin pAddI (wBin pMulI (wVar 3) (wVar 4)) (wBin pMulI (wVar 1) (wVar 2)))) (wCons (wBin pAddI (wBin pSub (wBin pSub (wBin pMulI (wVar 1) (wVar 1)) (wBin pMulI (wVar 2) (wVar 2))) (wBin pMulI (wVar 3) (wVar 3))) (wBin pMulI (wVar 4) (wVar 4))) wNil)))) wNil))))))))
def sp_l_rows : SpZ := fun rs S W => match rs, S with
  | [.d (.tup xs)], [] => ∃ a : List Int, xs = a.map D.int ∧ a.length = 4 ∧ (∀ x ∈ a, Bd 60000000 x) ∧ W (.loc 0) [.lst ((rowsI a).map rowD)]
  | _, _ => False
theorem rd_l_rows : ∀ rs S W, rs.length = 1 → sp_l_rows rs S W → w_l_rows { nx := fun _ S1 => retN S.length W (.d .non) S1, rt := retN S.length W } (start1 7 rs) S := by
  intro rs S W _ h
  unfold sp_l_rows at h
  split at h
  · obtain ⟨a, rfl, ha, hb, h⟩ := h
    obtain ⟨w, x, y, z, rfl⟩ := four_of ha
    simp only [List.mem_cons, List.not_mem_nil, or_false, forall_eq_or_imp, forall_eq] at hb
    obtain ⟨p1, p2, p3, p4⟩ := hb
    wide_open with (w_l_rows, if_true)
    repeat' refine And.intro ?_ ?_
    all_goals first | exact mulOk_l (by decide) | exact mulOk (by assumption) (by assumption) (by decide) | exact h
  · exact h.elim
/-- slots: 0 numbers, 1 found, 2 number -/
def w_divisor_of : PS1 :=
  (wSeq (wSet 1 (wC (.int 0)))
  (wSeq (wFor (wIt (wVar 0)) (fNm 2) (wSet 1 (wCall sp_divisor 2 (wCons (wVar 1) (wCons (wVar 2) wNil)))))
  (wRet (wVar 1))))
def sp_divisor_of : SpZ := fun rs S W => match rs with
  | [.d (.tup xs)] => ∃ ns : List Int, xs = ns.map D.int ∧ W (.d (.int (gl ns))) S
  | _ => False
theorem rd_divisor_of : ∀ rs S W, rs.length = 1 → sp_divisor_of rs S W → w_divisor_of { nx := fun _ S1 => retN S.length W (.d .non) S1, rt := retN S.length W } (start1 3 rs) S := by
  intro rs S W _ h
  unfold sp_divisor_of at h
  split at h
  · obtain ⟨ns, rfl, h⟩ := h
    wide_open with (w_divisor_of, if_true)
    refine forL_ix (fun i r S1 => S1 = S ∧ ∃ z, r = [some (.d (.tup (ns.map D.int))), some (.d (.int ((ns.take i).foldl (fun g x => Nat.gcd g x.natAbs) 0 : Nat))), z]) ?_ ?_ ⟨rfl, _, rfl⟩
    · rintro i x hx r S1 ⟨rfl, z, rfl⟩ M hM
      rw [List.getElem?_map, List.getElem?_map, Option.map_eq_some_iff] at hx
      obtain ⟨d, hd, rfl⟩ := hx
      rw [Option.map_eq_some_iff] at hd
      obtain ⟨n, hn, rfl⟩ := hd
      wide_open with (sp_divisor, spGcd)
      refine ⟨_, _, Cut.refl, hM _ _ ⟨rfl, some (.d (.int n)), ?_⟩⟩
      rw [List.take_add_one, hn]
      simp only [Option.toList_some, List.foldl_append, List.foldl_cons, List.foldl_nil]
      rfl
    · rintro r S1 ⟨rfl, z, rfl⟩
      wide_open with (if_true, if_true)
      have e : (ns.take ((ns.map D.int).map R.d).length).foldl (fun g x => Nat.gcd g x.natAbs) 0 = gl ns := by
        rw [List.length_map, List.length_map, List.take_length, gl_fold, Nat.gcd_zero_left]
      rw [e]
      exact h
  · exact h.elim
/-- slots: 0 top, 1 bottom, 2 by -/
def w_made : PS1 :=
  (wSeq (wSet 2 (wCall sp_divisor 2 (wCons (wVar 0) (wCons (wVar 1) wNil))))
  (wSeq (wIf (wTest (wBin pLt (wVar 1) (wC (.int 0)))) (wSet 2 (wUn pNeg (wVar 2))) wNext)
  (wRet (wTup (wCons (wBin pDiv (wVar 0) (wVar 2)) (wCons (wBin pDiv (wVar 1) (wVar 2)) wNil))))))
def sp_made : SpZ := spMade
theorem rd_made : ∀ rs S W, rs.length = 2 → sp_made rs S W → w_made { nx := fun _ S1 => retN S.length W (.d .non) S1, rt := retN S.length W } (start1 3 rs) S := by
  intro rs S W _ h
  unfold sp_made spMade at h
  split at h
  · rename_i t b _
    obtain ⟨hb, h1, h⟩ := h
    wide_open with (w_made, sp_divisor, spGcd)
    by_cases hn : b < 0
    · rw [frD_neg hn] at h
      wide_open with (decide_eq_true hn, if_true)
      exact ⟨(gcd_cdv hb h1 t).2, (gcd_cdv hb h1 b).2, h⟩
    · rw [frD_pos (by omega)] at h
      wide_open with (decide_eq_false hn, if_true)
      exact ⟨(gcd_cdv hb h1 t).1, (gcd_cdv hb h1 b).1, h⟩
  · exact h.elim
/-- slots: 0 way -/
def w_size_of : PS1 :=
  (wRet (wCall sp_product_of 2 (wCons (wVar 0) (wCons (wVar 0) wNil))))
def sp_size_of : SpZ := fun rs S W => match rs with
  | [.d (.tup xs)] => ∃ a : List Int, xs = a.map D.int ∧ a.length = 3 ∧ (∀ x ∈ a, Bd 60000000 x) ∧ W (.d (.int (dt a a))) S
  | _ => False
theorem rd_size_of : ∀ rs S W, rs.length = 1 → sp_size_of rs S W → w_size_of { nx := fun _ S1 => retN S.length W (.d .non) S1, rt := retN S.length W } (start1 1 rs) S := by
  intro rs S W _ h
  unfold sp_size_of at h
  split at h
  · obtain ⟨a, rfl, la, ba, h⟩ := h
    wide_open with (w_size_of, sp_product_of, spDt)
    exact ⟨a, a, rfl, rfl, la, la, ba, ba, h⟩
  · exact h.elim
/-- slots: 0 four, 1 way, 2 row -/
def w_spun : PS1 :=
  (wRet (wFn fTup (wCons (wLc (wIt (wCall sp_rows_of 1 (wCons (wVar 0) wNil))) (fNm 2) wYes (wCall sp_product_of 2 (wCons (wVar 2) (wCons (wVar 1) wNil))) [2]) wNil)))
def sp_spun : SpZ := spSpn
theorem rd_spun : ∀ rs S W, rs.length = 2 → sp_spun rs S W → w_spun { nx := fun _ S1 => retN S.length W (.d .non) S1, rt := retN S.length W } (start1 3 rs) S := by
  intro rs S W _ h
  unfold sp_spun spSpn at h
  split at h
  · obtain ⟨f, a, rfl, rfl, lf, la, bf, ba, h⟩ := h
    have rb := rowsI_bd bf
    obtain ⟨w, x, y, z, rfl⟩ := four_of lf
    wide_open with (w_spun, sp_rows_of)
    refine ⟨[w, x, y, z], rfl, rfl, fun n hn => (bf n hn).mono (by decide), ?_⟩
    have e : (rowsI [w, x, y, z]).map rowD = [rowD [w * w + x * x - y * y - z * z, 2 * (x * y - w * z), 2 * (x * z + w * y)], rowD [2 * (x * y + w * z), w * w - x * x + y * y - z * z, 2 * (y * z - w * x)], rowD [2 * (x * z - w * y), 2 * (y * z + w * x), w * w - x * x - y * y + z * z]] := rfl
    obtain ⟨r1, r2, r3⟩ := three_mem (P := fun row => ∀ n ∈ row, Bd (4000 + 4000 + 2) n) rb
    rw [e]
    wide_open with (lcL, sp_product_of, spDt, rowD)
    refine ⟨_, a, rfl, rfl, rfl, la, fun n hn => (r1 n hn).mono (by decide), fun n hn => (ba n hn).mono (by decide), _, a, rfl, rfl, rfl, la, fun n hn => (r2 n hn).mono (by decide), fun n hn => (ba n hn).mono (by decide), _, a, rfl, rfl, rfl, la, fun n hn => (r3 n hn).mono (by decide), fun n hn => (ba n hn).mono (by decide), h⟩
  · exact h.elim
/-- slots: 0 one, 1 other -/
def w_point_alike : PS1 :=
  (wRet (wAndV (wBin pEq (wCall sp_upright_to_both 2 (wCons (wVar 0) (wCons (wVar 1) wNil))) (wTup (wCons (wC (.int 0)) (wCons (wC (.int 0)) (wCons (wC (.int 0)) wNil))))) (wBin pGt (wCall sp_product_of 2 (wCons (wVar 0) (wCons (wVar 1) wNil))) (wC (.int 0)))))
def sp_point_alike : SpZ := spAlike
theorem rd_point_alike : ∀ rs S W, rs.length = 2 → sp_point_alike rs S W → w_point_alike { nx := fun _ S1 => retN S.length W (.d .non) S1, rt := retN S.length W } (start1 2 rs) S := by
  intro rs S W _ h
  unfold sp_point_alike spAlike at h
  split at h
  · obtain ⟨a, b, rfl, rfl, la, lb, ba, bb, h⟩ := h
    have e0 : PyData.eqvAll (pys ((crs a b).map D.int)) [PyData.int 0, PyData.int 0, PyData.int 0] = decide (crs a b = [0, 0, 0]) := eqv_ints (ys := [0, 0, 0])
    wide_open with (w_point_alike, sp_upright_to_both, spCrs, sp_product_of, spDt)
    refine ⟨a, b, rfl, rfl, la, lb, fun x hx => (ba x hx).mono (by decide), fun x hx => (bb x hx).mono (by decide), by have := depth_ints (crs a b); omega, ?_⟩
    rw [e0]
    unfold alike at h
    by_cases hc : crs a b = [0, 0, 0]
    · rw [decide_eq_true hc] at h ⊢
      wide_open with (if_true, if_true)
      exact ⟨a, b, rfl, rfl, la, lb, fun x hx => (ba x hx).mono (by decide), fun x hx => (bb x hx).mono (by decide), by simpa using h⟩
    · rw [decide_eq_false hc] at h ⊢
      wide_open with (if_true, if_true)
      simpa using h
  · exact h.elim
/-- slots: 0 number, 1 side -/
def w_side_of : PS1 :=
  (wSeq (wSet 1 (wCall sp_root 1 (wCons (wVar 0) wNil)))
  (wSeq (wIf (wTest (wBin pEq (wBin pMulI (wVar 1) (wVar 1)) (wVar 0))) (wRet (wVar 1)) wNext)
  (wRet (wC .non))))
def sp_side_of : SpZ := spSide
theorem rd_side_of : ∀ rs S W, rs.length = 1 → sp_side_of rs S W → w_side_of { nx := fun _ S1 => retN S.length W (.d .non) S1, rt := retN S.length W } (start1 2 rs) S := by
  intro rs S W _ h
  unfold sp_side_of spSide at h
  split at h
  · rename_i n _
    obtain ⟨n0, nb, h1, h2⟩ := h
    unfold w_side_of
    refine seqI fun P hP => ?_
    wide_open with (sp_root, spRoot)
    refine ⟨n0, nb, fun s s1 s2 => ?_⟩
    refine hP _ _ ?_; clear hP
    have sb : Bd 16000 (s : Int) := by
      refine Bd.lit ?_
      rw [Int.natAbs_natCast]
      have e : s ≤ s * s := by
        rcases Nat.eq_zero_or_pos s with h | h
        · subst h; decide
        · exact Nat.le_mul_of_pos_left s h
      have : (s * s : Nat) ≤ n.natAbs := by
        have : ((s * s : Nat) : Int) ≤ n := by simpa using s1
        omega
      have := nb.lt
      omega
    refine seqI fun P hP => ?_
    wide_open with (if_true, if_true)
    refine ⟨mulOk sb sb (by decide), ?_⟩
    by_cases e : (s : Int) * s = n
    · have e1 : ((s : Int) * s == n) = true := by simpa using e
      wide_open with (e1, if_true)
      exact h1 s e
    · have e1 : ((s : Int) * s == n) = false := by simpa using e
      wide_open with (e1, if_true)
      refine hP _ _ ?_; clear hP
      wide_open with (if_true, if_true)
      exact h2 fun t ht => e (by rw [root_only s1 s2 ht]; exact ht)
  · exact h.elim
/-- slots: 0 points, 1 bottom, 2 point, 3 top, 4 part -/
def w_common_bottom : PS1 :=
  (wSeq (wSet 1 (wC (.int 1)))
  (wSeq (wFor (wIt (wVar 0)) (fNm 2) (wFor (wIt (wVar 2)) (fTp 2 (fCons (fNm 3) (fCons (fNm 4) fNil))) (wSet 1 (wBin pMulI (wVar 1) (wBin pDiv (wVar 4) (wCall sp_divisor 2 (wCons (wVar 1) (wCons (wVar 4) wNil))))))))
  (wRet (wVar 1))))
def sp_common_bottom : SpZ := spCbot
theorem rd_common_bottom : ∀ rs S W, rs.length = 1 → sp_common_bottom rs S W → w_common_bottom { nx := fun _ S1 => retN S.length W (.d .non) S1, rt := retN S.length W } (start1 5 rs) S := by
  intro rs S W _ h
  unfold sp_common_bottom spCbot at h
  split at h
  · rename_i xs
    obtain ⟨ps, L, rfl, L0, bL, dv, h⟩ := h
    have small : ∀ {b : Nat}, b ∣ L → Bd 200 (b : Int) := fun {b} hd => by
      have := Nat.le_of_dvd L0 hd
      exact Bd.lit (by
        rw [Int.natAbs_natCast]
        have := bL.lt
        simp only [Int.natAbs_natCast] at this
        omega)
    unfold w_common_bottom
    refine seqI fun P hP => ?_
    wide_open with (if_true, if_true)
    refine hP _ _ ?_; clear hP
    refine seqI fun P hP => ?_
    wide_open with (if_true, if_true)
    refine forL_ix (fun i r S1 => S1 = [.lst (ptL ps)] ∧ ∃ y2 y3 y4 : Option R, r = [some (.loc 0), some (.d (.int (((ps.take i).foldl cbp 1 : Nat) : Int))), y2, y3, y4]) ?_ ?_ ⟨rfl, _, _, _, rfl⟩
    · rintro i x hx r S1 ⟨rfl, y2, y3, y4, rfl⟩ M hM
      have hi : i < ps.length := by
        have := (List.getElem?_eq_some_iff.mp hx).1
        simpa using this
      rw [List.getElem?_map, List.getElem?_map, List.getElem?_eq_getElem hi] at hx
      cases hx
      have hp := dv _ (List.getElem_mem hi)
      have hb : (ps.take i).foldl cbp 1 ∣ L := cbps_dvd (Nat.one_dvd _) fun p hp => dv p (List.mem_of_mem_take hp)
      have up : (ps.take (i + 1)).foldl cbp 1 = (qsOf ps[i]).foldl cbq ((ps.take i).foldl cbp 1) := by
        rw [List.take_add_one, List.getElem?_eq_getElem hi, Option.toList_some, List.foldl_append]; rfl
      rw [show (∀ r' S', _ → M r' S') = (∀ r' S', _ → M r' S') from rfl] at hM
      have hM' := fun r' S' => hM r' S'
      rw [up] at hM'
      clear hM up
      generalize (ps.take i).foldl cbp 1 = b at *
      generalize ps[i] = p at *
      refine ⟨rfl, ?_⟩
      wide_open with (ptD_qs, if_true)
      refine forL_ix (fun j r S1 => S1 = [.lst (ptL ps)] ∧ ∃ y2 y3 y4 : Option R, r = [some (.loc 0), some (.d (.int ((((qsOf p).take j).foldl cbq b : Nat) : Int))), y2, y3, y4]) ?_ ?_ ⟨rfl, _, _, _, rfl⟩
      · rintro j x hx r S1 ⟨rfl, y2, y3, y4, rfl⟩ M' hM2
        have hj : j < (qsOf p).length := by
          have := (List.getElem?_eq_some_iff.mp hx).1
          simpa using this
        rw [List.getElem?_map, List.getElem?_map, List.getElem?_eq_getElem hj] at hx
        cases hx
        have hq := hp _ (List.getElem_mem hj)
        have hc : ((qsOf p).take j).foldl cbq b ∣ L := cbqs_dvd hb fun q hq => hp q (List.mem_of_mem_take hq)
        have up : ((qsOf p).take (j + 1)).foldl cbq b = cbq (((qsOf p).take j).foldl cbq b) (qsOf p)[j] := by
          rw [List.take_add_one, List.getElem?_eq_getElem hj, Option.toList_some, List.foldl_append]; rfl
        have hM3 := fun r' S' => hM2 r' S'
        rw [up] at hM3
        clear hM2 up
        generalize ((qsOf p).take j).foldl cbq b = c at *
        generalize (qsOf p)[j] = q at *
        have q0 : 0 < q.den := q.den_pos
        have g0 : 0 < Nat.gcd c q.den := Nat.gcd_pos_of_pos_right _ q0
        have eg : ((q.den : Nat) : Int).fdiv ((Nat.gcd c q.den : Nat) : Int) = ((q.den / Nat.gcd c q.den : Nat) : Int) := fdiv_nat _ _
        wide_open with (frD, sp_divisor, spGcd)
        rw [show Int.gcd (c : Int) (q.den : Int) = Nat.gcd c q.den from rfl, eg, show ((c : Int) * ((q.den / Nat.gcd c q.den : Nat) : Int)) = ((cbq c q : Nat) : Int) from rfl]
        refine ⟨cdv (n := 200) (by omega) (small (Nat.dvd_trans (Nat.gcd_dvd_left _ _) hc)) (by decide), mulOk (small hc) (small (Nat.dvd_trans (Nat.div_dvd_of_dvd (Nat.gcd_dvd_right _ _)) hq)) (by decide), _, _, Cut.refl, hM3 _ _ ⟨rfl, _, _, _, rfl⟩⟩
      · rintro r S1 ⟨rfl, y2, y3, y4, rfl⟩
        rw [List.length_map, List.length_map, List.take_length]
        wide_open with (if_true, if_true)
        exact ⟨_, _, Cut.refl, hM' _ _ ⟨rfl, _, _, _, rfl⟩⟩
    · rintro r S1 ⟨rfl, y2, y3, y4, rfl⟩
      rw [List.length_map, List.length_map, List.take_length]
      refine ⟨rfl, ?_⟩
      show P _ _
      refine hP _ _ ?_; clear hP
      wide_open with (if_true, if_true)
      exact h
  · exact h.elim
/-- slots: 0 ways, 1 one, 2 other -/
def w_two_apart : PS1 :=
  (wSeq (wFor (wIt (wVar 0)) (fNm 1) (wFor (wIt (wVar 0)) (fNm 2) (wIf (wTest (wBin pNe (wCall sp_upright_to_both 2 (wCons (wVar 1) (wCons (wVar 2) wNil))) (wTup (wCons (wC (.int 0)) (wCons (wC (.int 0)) (wCons (wC (.int 0)) wNil)))))) (wRet (wTup (wCons (wVar 1) (wCons (wVar 2) wNil)))) wNext)))
  (wRet (wC .non)))
def sp_two_apart : SpZ := spTwoApart
theorem rd_two_apart : ∀ rs S W, rs.length = 1 → sp_two_apart rs S W → w_two_apart { nx := fun _ S1 => retN S.length W (.d .non) S1, rt := retN S.length W } (start1 3 rs) S := by
  intro rs S W _ h
  unfold sp_two_apart spTwoApart at h
  split at h
  · rename_i xs
    obtain ⟨vs, rfl, hv, h0, h1⟩ := h
    unfold w_two_apart
    refine seqI fun P hP => ?_
    wide_open with (if_true, if_true)
    refine forL_ix (fun i r S1 => S1 = [.lst (vs.map fun v => .tup (v.map D.int))] ∧ (∀ v ∈ vs.take i, ∀ u ∈ vs, crs v u = [0, 0, 0]) ∧ ∃ y1 y2 : Option R, r = [some (.loc 0), y1, y2]) ?_ ?_ ⟨rfl, by simp, _, _, rfl⟩
    · rintro i x hx r S1 ⟨rfl, hz, y1, y2, rfl⟩ M hM
      have hi : i < vs.length := by
        have := (List.getElem?_eq_some_iff.mp hx).1
        simpa using this
      rw [List.getElem?_map, List.getElem?_map, List.getElem?_eq_getElem hi] at hx
      cases hx
      have hm := List.getElem_mem hi
      refine ⟨rfl, ?_⟩
      wide_open with (if_true, if_true)
      refine forL_ix (fun j r S1 => S1 = [.lst (vs.map fun v => .tup (v.map D.int))] ∧ (∀ u ∈ vs.take j, crs vs[i] u = [0, 0, 0]) ∧ ∃ y2 : Option R, r = [some (.loc 0), some (.d (.tup (vs[i].map D.int))), y2]) ?_ ?_ ⟨rfl, by simp, _, rfl⟩
      · rintro j x hx r S1 ⟨rfl, hy, y2, rfl⟩ M' hM'
        have hj : j < vs.length := by
          have := (List.getElem?_eq_some_iff.mp hx).1
          simpa using this
        rw [List.getElem?_map, List.getElem?_map, List.getElem?_eq_getElem hj] at hx
        cases hx
        have hm2 := List.getElem_mem hj
        obtain ⟨l1, b1⟩ := hv _ hm
        obtain ⟨l2, b2⟩ := hv _ hm2
        refine ⟨rfl, ?_⟩
        wide_open with (sp_upright_to_both, spCrs)
        refine ⟨_, _, rfl, rfl, l1, l2, fun x hx => (b1 x hx).mono (by decide), fun x hx => (b2 x hx).mono (by decide), Nat.le_trans (Nat.min_le_right _ _) (by decide), ?_⟩
        have h1' := h1 _ hm _ hm2
        have e3 : PyData.eqvAll (pys (List.map D.int (crs vs[i] vs[j]))) [PyData.int 0, PyData.int 0, PyData.int 0] = decide (crs vs[i] vs[j] = [0, 0, 0]) := eqv_ints (xs := _) (ys := [0, 0, 0])
        rw [e3]
        by_cases hc : crs vs[i] vs[j] = [0, 0, 0]
        · rw [if_neg (by simp [hc])]
          refine ⟨_, _, Cut.refl, hM' _ _ ⟨rfl, fun u hu => ?_, _, rfl⟩⟩
          rw [List.take_add_one, List.getElem?_eq_getElem hj, List.mem_append] at hu
          rcases hu with hu | hu
          · exact hy u hu
          · obtain rfl : u = vs[j] := by simpa using hu
            exact hc
        · rw [if_pos (by simp [hc])]
          exact h1' hc
      · rintro r S1 ⟨rfl, hy, y2, rfl⟩
        rw [List.length_map, List.length_map, List.take_length] at hy
        refine ⟨rfl, ?_⟩
        wide_open with (if_true, if_true)
        refine ⟨_, _, Cut.refl, hM _ _ ⟨rfl, fun v hv => ?_, _, _, rfl⟩⟩
        rw [List.take_add_one, List.getElem?_eq_getElem hi, List.mem_append] at hv
        rcases hv with hv | hv
        · exact hz v hv
        · obtain rfl : v = vs[i] := by simpa using hv
          exact hy
    · rintro r S1 ⟨rfl, hz, y1, y2, rfl⟩
      rw [List.length_map, List.length_map, List.take_length] at hz
      refine ⟨rfl, ?_⟩
      show P _ _
      refine hP _ _ ?_; clear hP
      wide_open with (if_true, if_true)
      exact h0 hz
  · exact h.elim
/-- slots: 0 _law_script, 1 _law_cells, 2 _law_number_here, 3 _law_k -/
def w_l_purse : PS1 :=
  (wSeq (wSet 1 (wBin pCat (wSl (wVar 0) wNo (wSome (wC (.int 63)))) (wLst (wCons (wC (.int 0)) wNil))))
  (wSeq (wSet 2 (wC (.int 1)))
  (wSeq (wFor (wRng1 (wCons (wC (.int 64)) wNil)) (fNm 3) (wSet 2 (wBin pAddI (wBin pMulI (wVar 2) (wC (.int 2147483587))) (wCall sp_l_mixed 2 (wCons (wBin pIx (wVar 1) (wBin pMod (wVar 3) (wFn fLen (wCons (wVar 1) wNil)))) (wCons (wVar 3) wNil))))))
  (wSeq (wIf (wTest (wBin pGe (wFn fAbs (wCons (wBin pIx (wVar 1) (wC (.int 0))) wNil)) (wBin pPow (wC (.int 10)) (wC (.int 18))))) (wRet (wLst (wCons (wFn fAbs (wCons (wBin pIx (wVar 1) (wC (.int 0))) wNil)) (wCons (wVar 2) wNil)))) wNext)
  (wRet (wLst (wCons (wVar 2) (wCons (wVar 2) wNil))))))))
def sp_l_purse : SpZ := fun rs S W => match rs, S with
  | [.ro xs], [] => ∃ ns : List Int, xs = ns.map D.int ∧ Script ns ∧ ∀ a b : Int, W (.loc 0) [.lst [.int a, .int b]]
  | _, _ => False
theorem rd_l_purse : ∀ rs S W, rs.length = 1 → sp_l_purse rs S W → w_l_purse { nx := fun _ S1 => retN S.length W (.d .non) S1, rt := retN S.length W } (start1 4 rs) S := by
  intro rs S W _ h
  unfold sp_l_purse at h
  split at h
  · obtain ⟨ns, rfl, hs, h⟩ := h
    wide_open with (w_l_purse, if_true)
    have e1 : cutD (ns.map D.int) none (some 63) = (ns.take 63).map D.int := by
      rw [show (63 : Int) = ((63 : Nat) : Int) from rfl, cutD_take, List.map_take]
    have e2 : cutD (ns.map D.int) none (some 63) ++ [D.int 0] = (ns.take 63 ++ [0]).map D.int := by rw [e1]; simp
    have hb : ∀ c ∈ ns.take 63 ++ [0], Bd SB c := fun c hc => by
      rcases List.mem_append.mp hc with q | q
      · exact Bd.lit (hs.2 c (List.mem_of_mem_take q))
      · simp at q; subst q; exact Bd.zero
    have hl : (ns.take 63 ++ [0]).length ≤ 64 := by simp; omega
    have hl0 : 0 < (ns.take 63 ++ [0]).length := by simp
    rw [e2]
    refine ⟨by rw [e1]; simp; omega, ?_⟩
    generalize ns.take 63 ++ [0] = cs at *
    refine forL_ix (fun i r S1 => S1 = [.lst (cs.map D.int)] ∧ ∃ v z, r = [some (.ro (ns.map D.int)), some (.loc 0), some (.d (.int v)), z]) ?_ ?_ ⟨rfl, _, _, rfl⟩
    · rintro i x hx r S1 ⟨rfl, v, z, rfl⟩ M hM
      obtain ⟨hi, rfl⟩ := rgR_get hx
      wide_open with (sp_l_mixed, if_true)
      have hm1 : 0 ≤ ((0 : Int) + (i : Nat)).fmod ((cs.map D.int).length : Nat) := by rw [fmod_pos (by simp; omega)]; exact Int.emod_nonneg _ (by simp only [List.length_map]; omega)
      have hm2 : ((0 : Int) + (i : Nat)).fmod ((cs.map D.int).length : Nat) < cs.length := by rw [fmod_pos (by simp; omega)]; simpa using Int.emod_lt_of_pos ((0 : Int) + (i : Nat)) (show (0 : Int) < ((cs.map D.int).length : Nat) by simp; omega)
      obtain ⟨c, hc, hm⟩ := getI_ints hm1 hm2
      rw [hc]
      wide_open with (if_true, if_true)
      refine ⟨mulOk_r (by decide), by simp only [List.length_map]; omega, hb c hm, by omega, fun y _ _ => ⟨_, _, Cut.refl, hM _ _ ⟨rfl, _, _, rfl⟩⟩⟩
    · rintro r S1 ⟨rfl, v, z, rfl⟩
      obtain ⟨c, cs', rfl⟩ := List.exists_cons_of_length_pos hl0
      wide_open with (if_true, if_true)
      refine ⟨⟨by decide, by decide, by decide⟩, ?_⟩
      split
      · exact h _ _
      · exact h _ _
  · exact h.elim
/-- slots: 0 _law_four, 1 _law_by, 2 _law_number_here, 3 _law_first -/
def w_l_plain : PS1 :=
  (wSeq (wSet 1 (wC (.int 0)))
  (wSeq (wFor (wIt (wVar 0)) (fNm 2) (wSet 1 (wCall sp_l_divisor 2 (wCons (wVar 1) (wCons (wVar 2) wNil)))))
  (wSeq (wSet 3 (wBin pIx (wLc (wIt (wVar 0)) (fNm 2) (wTest (wBin pNe (wVar 2) (wC (.int 0)))) (wVar 2) [2]) (wC (.int 0))))
  (wSeq (wIf (wTest (wBin pLt (wVar 3) (wC (.int 0)))) (wSet 1 (wBin pSub (wC (.int 0)) (wVar 1))) wNext)
  (wRet (wFn fTup (wCons (wLc (wIt (wVar 0)) (fNm 2) wYes (wBin pDiv (wVar 2) (wVar 1)) [2]) wNil)))))))
def sp_l_plain : SpZ := spPln
theorem rd_l_plain : ∀ rs S W, rs.length = 1 → sp_l_plain rs S W → w_l_plain { nx := fun _ S1 => retN S.length W (.d .non) S1, rt := retN S.length W } (start1 4 rs) S := by
  intro rs S W _ h
  unfold sp_l_plain spPln at h
  split at h
  · obtain ⟨ns, rfl, hz, hb, hl, h⟩ := h
    have hg := gl_pos hz
    wide_open with (w_l_plain, if_true)
    refine forL_ix (fun i r S1 => S1 = S ∧ ∃ z, r = [some (.d (.tup (ns.map D.int))), some (.d (.int ((ns.take i).foldl (fun g x => Nat.gcd g x.natAbs) 0 : Nat))), z, none]) ?_ ?_ ⟨rfl, _, rfl⟩
    · rintro i x hx r S1 ⟨rfl, z, rfl⟩ M hM
      obtain ⟨n, hn, rfl⟩ := item_ints hx
      wide_open with (sp_l_divisor, spGcd)
      exact ⟨_, _, Cut.refl, hM _ _ ⟨rfl, some (.d (.int n)), by rw [fold_take hn]; rfl⟩⟩
    · rintro r S1 ⟨rfl, z, rfl⟩
      rw [fold_all]
      wide_open with (if_true, if_true)
      refine ⟨by simp; omega, lcL_intsF (fun n => !(n == 0)) (by simp) trivial (fun n hn => ⟨_, rfl, fun W1 h => ?_, fun _ W1 h => ?_⟩) ?_⟩
      · wide_open with (if_true, if_true)
        exact h
      · wide_open with (if_true, if_true)
        exact h
      · obtain ⟨y, ys, e, h0, hf⟩ := first_nz hz
        rw [e]
        wide_open with (if_true, if_true)
        by_cases hy : y < 0
        · rw [if_pos hy] at hf
          wide_open with (decide_eq_true hy, if_true)
          refine ⟨by simp; omega, lcL_ints (fun n => fs ns * (n / (gl ns : Int))) (by simp) trivial (fun n hn => ⟨_, rfl, fun W1 h => h, fun W1 h => ?_⟩) ?_⟩
          · wide_open with (if_true, if_true)
            refine ⟨(gl_cdv hz hb n).2.1, ?_⟩
            rw [Int.zero_sub, fdiv_gl_neg hz hn, ← hf]; exact h
          · wide_open with (if_true, if_true)
            exact h
        · rw [if_neg hy] at hf
          wide_open with (decide_eq_false hy, if_true)
          refine ⟨by simp; omega, lcL_ints (fun n => fs ns * (n / (gl ns : Int))) (by simp) trivial (fun n hn => ⟨_, rfl, fun W1 h => h, fun W1 h => ?_⟩) ?_⟩
          · wide_open with (if_true, if_true)
            exact ⟨(gl_cdv hz hb n).1, by rw [fdiv_pos (by omega), show n / (gl ns : Int) = fs ns * (n / (gl ns : Int)) by rw [hf, Int.one_mul]]; exact h⟩
          · wide_open with (if_true, if_true)
            exact h
  · exact h.elim
/-- slots: 0 _law_found, 1 _law_due, 2 _law_number_here -/
def w_l_is_four : PS1 :=
  (wSeq (wIf (wOrT (wNotT (wTest (wIsi "tuple" (wVar 0)))) (wOrT (wTest (wBin pNe (wFn fLen (wCons (wVar 0) wNil)) (wC (.int 4)))) (wTest (wBin pNe (wVar 0) (wVar 1))))) (wRet (wC (.bl false))) wNext)
  (wRet (wBin pEq (wFn fLen (wCons (wLc (wIt (wVar 0)) (fNm 2) (wNotT (wTest (wCall sp_l_whole 1 (wCons (wVar 2) wNil)))) (wVar 2) [2]) wNil)) (wC (.int 0)))))
def sp_l_is_four : SpZ := fun rs S W => match rs with
  | [.d (.tup xs), .d y] => ∃ ns : List Int, xs = ns.map D.int ∧ y = .tup (ns.map D.int) ∧ ns.length = 4 ∧ W (.d (.bl true)) S
  | _ => False
theorem rd_l_is_four : ∀ rs S W, rs.length = 2 → sp_l_is_four rs S W → w_l_is_four { nx := fun _ S1 => retN S.length W (.d .non) S1, rt := retN S.length W } (start1 3 rs) S := by
  intro rs S W _ h
  unfold sp_l_is_four at h
  split at h
  · obtain ⟨ns, rfl, rfl, hl, h⟩ := h
    have e1 : (("tuple" : String) == "bool") = false := by decide
    have e3 : ((4 : Nat) : Int) = 4 := rfl
    wide_open with (w_l_is_four, eqv_ints, List.length_map, hl, sp_l_whole, e1, e3)
    refine ⟨by have := depth_ints ns; omega, ?_⟩
    refine lcL_intsF (fun _ => false) (by simp) trivial (fun n hn => ⟨_, rfl, fun W1 h => ?_, fun z => nomatch z⟩) ?_
    · wide_open with (sp_l_whole, if_true)
      exact h
    · have e4 : ns.filter (fun _ => false) = [] := by simp
      rw [e4]
      wide_open with (if_true, if_true)
      exact h
  · exact h.elim
/-- slots: 0 _law_top, 1 _law_bottom, 2 _law_by -/
def w_l_made : PS1 :=
  (wSeq (wSet 2 (wCall sp_l_divisor 2 (wCons (wVar 0) (wCons (wVar 1) wNil))))
  (wSeq (wIf (wTest (wBin pLt (wVar 1) (wC (.int 0)))) (wSet 2 (wBin pSub (wC (.int 0)) (wVar 2))) wNext)
  (wRet (wTup (wCons (wBin pDiv (wVar 0) (wVar 2)) (wCons (wBin pDiv (wVar 1) (wVar 2)) wNil))))))
def sp_l_made : SpZ := spMade
theorem rd_l_made : ∀ rs S W, rs.length = 2 → sp_l_made rs S W → w_l_made { nx := fun _ S1 => retN S.length W (.d .non) S1, rt := retN S.length W } (start1 3 rs) S := by
  intro rs S W _ h
  unfold sp_l_made spMade at h
  split at h
  · rename_i t b _
    obtain ⟨hb, h1, h⟩ := h
    wide_open with (w_l_made, sp_l_divisor, spGcd)
    by_cases hn : b < 0
    · rw [frD_neg hn] at h
      wide_open with (decide_eq_true hn, Int.zero_sub)
      exact ⟨(gcd_cdv hb h1 t).2, (gcd_cdv hb h1 b).2, h⟩
    · rw [frD_pos (by omega)] at h
      wide_open with (decide_eq_false hn, if_true)
      exact ⟨(gcd_cdv hb h1 t).1, (gcd_cdv hb h1 b).1, h⟩
  · exact h.elim
/-- slots: 0 numbers, 1 by, 2 number -/
def w_plain_row : PS1 :=
  (wSeq (wSet 1 (wCall sp_divisor_of 1 (wCons (wVar 0) wNil)))
  (wRet (wFn fTup (wCons (wLc (wIt (wVar 0)) (fNm 2) wYes (wBin pDiv (wVar 2) (wVar 1)) [2]) wNil))))
def sp_plain_row : SpZ := fun rs S W => match rs with
  | [.d (.tup xs)] => ∃ ns : List Int, xs = ns.map D.int ∧ (∃ n ∈ ns, n ≠ 0) ∧ (∀ n ∈ ns, Bd 9000 n) ∧ ns.length ≤ 1000 ∧ W (.d (.tup ((prow ns).map D.int))) S
  | _ => False
theorem rd_plain_row : ∀ rs S W, rs.length = 1 → sp_plain_row rs S W → w_plain_row { nx := fun _ S1 => retN S.length W (.d .non) S1, rt := retN S.length W } (start1 3 rs) S := by
  intro rs S W _ h
  unfold sp_plain_row at h
  split at h
  · obtain ⟨ns, rfl, hz, hb, hl, h⟩ := h
    wide_open with (w_plain_row, sp_divisor_of)
    have hg := gl_pos hz
    have hc : ∀ n : Int, CDv n (gl ns) := fun n => by
      obtain ⟨x, hx, h0⟩ := hz
      exact cdv (n := 9000) (by omega) (by
        have h1 := hb x hx
        have h2 := gl_le hx h0
        simp only [bd_iff] at *
        simp only [Int.natAbs_natCast]
        omega) (Nat.le_refl _)
    refine ⟨ns, rfl, by simp; omega, lcL_ints (fun n => n / (gl ns : Int)) (by simp) trivial (fun n hn => ⟨_, rfl, fun W1 h => h, fun W1 h => ?_⟩) ?_⟩
    · wide_open with (if_true, if_true)
      exact ⟨hc n, by rw [fdiv_pos (by omega)]; exact h⟩
    · wide_open with (if_true, if_true)
      exact h
  · exact h.elim
/-- slots: 0 four, 1 point, 2 bottom, 3 top, 4 part, 5 tops, 6 found, 7 row, 8 k -/
def w_turned : PS1 :=
  (wSeq (wSet 2 (wC (.int 1)))
  (wSeq (wFor (wIt (wVar 1)) (fTp 2 (fCons (fNm 3) (fCons (fNm 4) fNil))) (wSet 2 (wBin pMulI (wVar 2) (wBin pDiv (wVar 4) (wCall sp_divisor 2 (wCons (wVar 2) (wCons (wVar 4) wNil)))))))
  (wSeq (wSet 5 (wLc (wIt (wVar 1)) (fTp 2 (fCons (fNm 3) (fCons (fNm 4) fNil))) wYes (wBin pMulI (wVar 3) (wBin pDiv (wVar 2) (wVar 4))) [3, 4]))
  (wSeq (wSet 6 (wLst wNil))
  (wSeq (wFor (wIt (wCall sp_rows_of 1 (wCons (wVar 0) wNil))) (fNm 7) (wDrop (wApp (wVar 6) (wCall sp_made 2 (wCons (wFn fSum (wCons (wLc (wRng1 (wCons (wC (.int 3)) wNil)) (fNm 8) wYes (wBin pMulI (wBin pIx (wVar 7) (wVar 8)) (wBin pIx (wVar 5) (wVar 8))) [8]) wNil)) (wCons (wBin pMulI (wCall sp_size 1 (wCons (wVar 0) wNil)) (wVar 2)) wNil))))))
  (wRet (wFn fTup (wCons (wVar 6) wNil))))))))
def sp_turned : SpZ := spTurn
theorem rd_turned : ∀ rs S W, rs.length = 2 → sp_turned rs S W → w_turned { nx := fun _ S1 => retN S.length W (.d .non) S1, rt := retN S.length W } (start1 9 rs) S := by
  intro rs S W _ h
  unfold sp_turned spTurn at h
  split at h
  · obtain ⟨a, p, rfl, ha, hz, ⟨m, n, hmn, hb, hp⟩, rfl, h⟩ := h
    obtain ⟨L, hL, hLb, hq⟩ := hp
    have hq' : ∀ q ∈ qsOf p, q.den ∣ L ∧ Bd n (q.num * ((L / q.den : Nat) : Int)) := fun q hm => hq q (by simpa [qsOf] using hm)
    have dB : ∀ {b : Nat}, b ∣ L → Bd n (b : Int) := fun {b} hd => by
      have := Nat.le_of_dvd hL hd
      simp only [bd_iff, Int.natAbs_natCast] at *
      omega
    wide_open with (w_turned, ptD_qs)
    refine forL_ix (fun i r S1 => S1 = S ∧ ∃ (B : Nat) (z z' : Option R), 0 < B ∧ B ∣ L ∧ (∀ q ∈ (qsOf p).take i, q.den ∣ B) ∧ r = [some (.d (.tup (a.map D.int))), some (.d (.tup ((qsOf p).map frD))), some (.d (.int (B : Int))), z, z', none, none, none, none]) ?_ ?_ ⟨rfl, 1, _, _, by decide, Nat.one_dvd _, by simp, rfl⟩
    · rintro i x hx r S1 ⟨rfl, B, z, z', hB, hBL, hd, rfl⟩ M hM
      rw [List.map_map] at hx
      obtain ⟨q, hq, rfl⟩ := item_enc hx
      have hqq := hq' q (mem_of_at hq)
      wide_open with (frD, Function.comp, sp_divisor, spGcd, gcd_nat, fdiv_nat)
      have hg : 0 < B.gcd q.den := Nat.gcd_pos_of_pos_left _ hB
      refine ⟨cdv (by omega) (dB (Nat.dvd_trans (Nat.gcd_dvd_left _ _) hBL)) (by omega), mulOk (dB hBL) (dB (Nat.dvd_trans (Nat.div_dvd_of_dvd (Nat.gcd_dvd_right _ _)) hqq.1)) (by omega), _, _, Cut.refl, hM _ _ ⟨rfl, lcmS B q.den, _, _, lcmS_pos hB q.den_pos, lcmS_dvd hBL hqq.1, fun q' hm => ?_, rfl⟩⟩
      rcases mem_take_one hq hm with hm | rfl
      · exact Nat.dvd_trans (hd q' hm) (lcmS_l _ _)
      · exact lcmS_r _ _
    · rintro r S1 ⟨rfl, B, z, z', hB, hBL, hd, rfl⟩
      have hd' : ∀ q ∈ qsOf p, q.den ∣ B := fun q hm => hd q (by rw [List.length_map, List.length_map, List.take_length]; exact hm)
      have tb : ∀ q ∈ qsOf p, Bd n (topOf B q) := fun q hm => topOf_bd hL (hd' q hm) hBL (hq' q hm).2
      have nb : Bd (m + m + 2) (nrmI a) := nrmI_bd hb
      have nz := nrmI_ne ha hz
      wide_open with (if_true, if_true)
      rw [List.map_map]
      refine ⟨by rw [List.length_map]; simp [qsOf], lcL_enc _ (fun q => .int (topOf B q)) (by simp) trivial (fun q hm => ⟨_, rfl, fun W1 h => h, fun W1 h => ?_⟩) ?_⟩
      · have e : (q.num : Int) * ((B / q.den : Nat) : Int) = topOf B q := rfl
        wide_open with (fdiv_nat, e)
        exact ⟨cdv (fr_den q) (dB (Nat.dvd_trans (hd' q hm) hBL)) (by omega), mulOk (hq q (by simpa [qsOf] using hm) |> fun _ => (PtB.bq ⟨L, hL, hLb, hq⟩ (by simpa [qsOf] using hm)).1) (dB (Nat.dvd_trans (Nat.div_dvd_of_dvd (hd' q hm)) hBL)) (by omega), h⟩
      · wide_open with (sp_rows_of, if_true)
        refine ⟨a, rfl, ha, fun x hx => (hb x hx).mono (by omega), ?_⟩
        wide_open with (if_true, if_true)
        refine forL_ix (fun i r S2 => S2 = S1 ++ [.lst ((qsOf p).map fun q => .int (topOf B q)), .lst (((rowsI a).take i).map fun row => frD ((dotI row B p : Rat) / ((nrmI a * (B : Int) : Int) : Rat)))] ∧ ∃ (y y' : Option R), r = [some (.d (.tup (a.map D.int))), some (.d (.tup ((qsOf p).map frD))), some (.d (.int (B : Int))), z, z', some (.loc S1.length), some (.loc (S1.length + 1)), y, y']) ?_ ?_ ⟨rfl, _, _, rfl⟩
        · rintro i x hx r S2 ⟨rfl, y, y', rfl⟩ M hM
          rw [List.map_map] at hx
          obtain ⟨row, hrow, rfl⟩ := item_enc hx
          have rb := rowsI_bd hb row (mem_of_at hrow)
          obtain ⟨r1, r2, r3, rfl⟩ := rowsI_three (mem_of_at hrow)
          simp only [List.mem_cons, List.not_mem_nil, or_false, forall_eq_or_imp, forall_eq] at rb
          obtain ⟨b1, b2, b3⟩ := rb
          have c1 := tb p.1 (by simp [qsOf])
          have c2 := tb p.2.1 (by simp [qsOf])
          have c3 := tb p.2.2 (by simp [qsOf])
          wide_open with (Function.comp, rowD, rgR_succ, rgR_zero, lcL, qsOf, sp_size, spSize, sp_made, spMade)
          refine ⟨mulOk b1 c1 (by omega), mulOk b2 c2 (by omega), mulOk b3 c3 (by omega), a, rfl, fun x hx => (hb x hx).mono (by omega), by omega, ?_⟩
          wide_open with (sqs_four ha, if_true)
          refine ⟨mulOk nb (dB hBL) (by omega), ?_, (nb.mul (dB hBL)).mono (by omega), ?_, _, _, Cut.refl, hM _ _ ⟨?_, _, _, rfl⟩⟩
          · exact Int.mul_ne_zero nz (by omega)
          · simp only [List.length_map]; have := rowsI_len a; rw [List.length_take]; omega
          · rw [take_one hrow]
            simp only [dotI, qsOf, List.map_cons, List.map_nil, List.sum_cons, List.sum_nil, Int.add_zero, Int.add_assoc]
        · rintro r S2 ⟨rfl, y, y', rfl⟩
          wide_open with (if_true, if_true)
          rw [rot_rows ha hz hB (hd' p.1 (by simp [qsOf])) (hd' p.2.1 (by simp [qsOf])) (hd' p.2.2 (by simp [qsOf]))] at h
          rw [List.length_map, List.length_map, List.take_length]
          exact h
  · exact h.elim
/-- slots: 0 way, 1 axis, 2 far, 3 along, 4 number, 5 other -/
def w_shadow : PS1 :=
  (wSeq (wSet 2 (wCall sp_size_of 1 (wCons (wVar 1) wNil)))
  (wSeq (wSet 3 (wCall sp_product_of 2 (wCons (wVar 0) (wCons (wVar 1) wNil))))
  (wRet (wFn fTup (wCons (wLc (wZip (wCons (wVar 0) (wCons (wVar 1) wNil))) (fTp 2 (fCons (fNm 4) (fCons (fNm 5) fNil))) wYes (wBin pSub (wBin pMulI (wVar 2) (wVar 4)) (wBin pMulI (wVar 3) (wVar 5))) [4, 5]) wNil)))))
def sp_shadow : SpZ := fun rs S W => match rs with
  | [.d (.tup xs), .d (.tup ys)] => ∃ b c : List Int, xs = b.map D.int ∧ ys = c.map D.int ∧ b.length = 3 ∧ c.length = 3 ∧ (∀ x ∈ b, Bd 1000 x) ∧ (∀ x ∈ c, Bd 1000 x) ∧ W (.d (.tup ((shd b c).map D.int))) S
  | _ => False
theorem rd_shadow : ∀ rs S W, rs.length = 2 → sp_shadow rs S W → w_shadow { nx := fun _ S1 => retN S.length W (.d .non) S1, rt := retN S.length W } (start1 6 rs) S := by
  intro rs S W _ h
  unfold sp_shadow at h
  split at h
  · obtain ⟨b, c, rfl, rfl, lb, lc, bb, bc, h⟩ := h
    have d1 := dt_bd bc bc
    have d2 := dt_bd bb bc
    have b6 : ∀ x ∈ b, Bd 60000000 x := fun x hx => (bb x hx).mono (by decide)
    have c6 : ∀ x ∈ c, Bd 60000000 x := fun x hx => (bc x hx).mono (by decide)
    unfold shd at h
    unfold w_shadow
    refine seqI fun P hP => ?_
    wide_open with (sp_size_of, if_true)
    refine ⟨c, rfl, lc, c6, ?_⟩
    refine hP _ _ ?_; clear hP
    refine seqI fun P hP => ?_
    wide_open with (sp_product_of, spDt)
    refine ⟨b, c, rfl, rfl, lb, lc, b6, c6, ?_⟩
    refine hP _ _ ?_; clear hP
    generalize dt c c = k at *
    generalize dt b c = l at *
    obtain ⟨p, q, r, rfl⟩ := three_of lb
    obtain ⟨t, u, o, rfl⟩ := three_of lc
    simp only [List.mem_cons, List.not_mem_nil, or_false, forall_eq_or_imp, forall_eq] at bb bc
    obtain ⟨b1, b2, b3⟩ := bb
    obtain ⟨c1, c2, c3⟩ := bc
    wide_open with (lcL, if_true)
    refine ⟨mulOk d1 b1 (by decide), mulOk d2 c1 (by decide), mulOk d1 b2 (by decide), mulOk d2 c2 (by decide), mulOk d1 b3 (by decide), mulOk d2 c3 (by decide), ?_⟩
    have e : lin k [p, q, r] (-l) [t, u, o] = [k * p - l * t, k * q - l * u, k * r - l * o] := by
      simp only [lin, List.cons.injEq, and_true]
      refine ⟨?_, ?_, ?_⟩ <;> grind
    rw [e] at h
    exact h
  · exact h.elim
/-- slots: 0 _law_four, 1 _law_point, 2 _law_number_here, 3 _law_long, 4 _law_found, 5 _law_row, 6 _law_top, 7 _law_bottom, 8 _law_by -/
def w_l_turned : PS1 :=
  (wSeq (wSet 3 (wFn fSum (wCons (wLc (wIt (wVar 0)) (fNm 2) wYes (wBin pMulI (wVar 2) (wVar 2)) [2]) wNil)))
  (wSeq (wSet 4 (wLst wNil))
  (wSeq (wFor (wIt (wCall sp_l_rows 1 (wCons (wVar 0) wNil))) (fNm 5) (wSeq (wUnp (fTp 2 (fCons (fNm 6) (fCons (fNm 7) fNil))) (wTup (wCons (wC (.int 0)) (wCons (wC (.int 1)) wNil))))
  (wSeq (wFor (wZip (wCons (wVar 5) (wCons (wVar 1) wNil))) (fTp 2 (fCons (fNm 8) (fCons (fNm 2) fNil))) (wSeq (wSet 6 (wBin pAddI (wBin pMulI (wVar 6) (wBin pIx (wVar 2) (wC (.int 1)))) (wBin pMulI (wBin pMulI (wVar 8) (wBin pIx (wVar 2) (wC (.int 0)))) (wVar 7))))
  (wSet 7 (wBin pMulI (wVar 7) (wBin pIx (wVar 2) (wC (.int 1)))))))
  (wDrop (wApp (wVar 4) (wCall sp_l_made 2 (wCons (wVar 6) (wCons (wBin pMulI (wVar 7) (wVar 3)) wNil))))))))
  (wRet (wFn fTup (wCons (wVar 4) wNil))))))
def sp_l_turned : SpZ := spTurnL
theorem rd_l_turned : ∀ rs S W, rs.length = 2 → sp_l_turned rs S W → w_l_turned { nx := fun _ S1 => retN S.length W (.d .non) S1, rt := retN S.length W } (start1 9 rs) S := by
  intro rs S W _ h
  unfold sp_l_turned spTurnL at h
  split at h
  · obtain ⟨a, p, rfl, ha, hz, hb, rfl, hp, h⟩ := h
    have nb : Bd 4002 (nrmI a) := nrmI_bd hb
    have nz := nrmI_ne ha hz
    wide_open with (w_l_turned, if_true)
    refine ⟨by simp; omega, lcL_ints (fun n => n * n) (by simp) trivial (fun n hn => ⟨_, rfl, fun W1 h => h, fun W1 h => ?_⟩) ?_⟩
    · wide_open with (if_true, if_true)
      exact ⟨mulOk (hb n hn) (hb n hn) (by decide), h⟩
    · have e : (a.map (fun n => n * n)).sum = nrmI a := sqs_four ha
      wide_open with (intsOf_map, e, sp_l_rows)
      refine ⟨a, rfl, ha, fun x hx => (hb x hx).mono (by decide), ?_⟩
      refine forL_ix (fun i r S2 => S2 = S ++ [.lst (((rowsI a).take i).map fun row => frD (dotQ row p * (nrmI a : Rat)⁻¹))] ∧ ∃ (y0 y1 y2 y3 y4 : Option R), r = [some (.d (.tup (a.map D.int))), some (.d (ptD p)), y0, some (.d (.int (nrmI a))), some (.loc S.length), y1, y2, y3, y4]) ?_ ?_ ⟨rfl, _, _, _, _, _, rfl⟩
      · rintro i x hx r S2 ⟨rfl, y0, y1, y2, y3, y4, rfl⟩ M hM
        rw [List.map_map] at hx
        obtain ⟨row, hrow, rfl⟩ := item_enc hx
        have rb := rowsI_bd hb row (mem_of_at hrow)
        obtain ⟨r1, r2, r3, rfl⟩ := rowsI_three (mem_of_at hrow)
        simp only [List.mem_cons, List.not_mem_nil, or_false, forall_eq_or_imp, forall_eq, qsOf, BQ] at rb hp
        obtain ⟨b1, b2, b3⟩ := rb
        obtain ⟨⟨c1, d1⟩, ⟨c2, d2⟩, ⟨c3, d3⟩⟩ := hp
        wide_open with (Function.comp, rowD, ptD_fr)
        refine forL_cons trivial ?_
        wide_open with (if_true, if_true)
        refine ⟨mulOk (by repeat' (first | assumption | apply Bd.add | apply Bd.sub | apply Bd.mul | apply Bd.neg | exact Bd.lit (n := 200) (by decide))) (by repeat' (first | assumption | apply Bd.add | apply Bd.sub | apply Bd.mul | apply Bd.neg | exact Bd.lit (n := 200) (by decide))) (by decide), mulOk (by repeat' (first | assumption | apply Bd.add | apply Bd.sub | apply Bd.mul | apply Bd.neg | exact Bd.lit (n := 200) (by decide))) (by repeat' (first | assumption | apply Bd.add | apply Bd.sub | apply Bd.mul | apply Bd.neg | exact Bd.lit (n := 200) (by decide))) (by decide), mulOk (by repeat' (first | assumption | apply Bd.add | apply Bd.sub | apply Bd.mul | apply Bd.neg | exact Bd.lit (n := 200) (by decide))) (by repeat' (first | assumption | apply Bd.add | apply Bd.sub | apply Bd.mul | apply Bd.neg | exact Bd.lit (n := 200) (by decide))) (by decide), mulOk (by repeat' (first | assumption | apply Bd.add | apply Bd.sub | apply Bd.mul | apply Bd.neg | exact Bd.lit (n := 200) (by decide))) (by repeat' (first | assumption | apply Bd.add | apply Bd.sub | apply Bd.mul | apply Bd.neg | exact Bd.lit (n := 200) (by decide))) (by decide), _, _, Cut.refl, forL_cons trivial ?_⟩
        wide_open with (if_true, if_true)
        refine ⟨mulOk (by repeat' (first | assumption | apply Bd.add | apply Bd.sub | apply Bd.mul | apply Bd.neg | exact Bd.lit (n := 200) (by decide))) (by repeat' (first | assumption | apply Bd.add | apply Bd.sub | apply Bd.mul | apply Bd.neg | exact Bd.lit (n := 200) (by decide))) (by decide), mulOk (by repeat' (first | assumption | apply Bd.add | apply Bd.sub | apply Bd.mul | apply Bd.neg | exact Bd.lit (n := 200) (by decide))) (by repeat' (first | assumption | apply Bd.add | apply Bd.sub | apply Bd.mul | apply Bd.neg | exact Bd.lit (n := 200) (by decide))) (by decide), mulOk (by repeat' (first | assumption | apply Bd.add | apply Bd.sub | apply Bd.mul | apply Bd.neg | exact Bd.lit (n := 200) (by decide))) (by repeat' (first | assumption | apply Bd.add | apply Bd.sub | apply Bd.mul | apply Bd.neg | exact Bd.lit (n := 200) (by decide))) (by decide), mulOk (by repeat' (first | assumption | apply Bd.add | apply Bd.sub | apply Bd.mul | apply Bd.neg | exact Bd.lit (n := 200) (by decide))) (by repeat' (first | assumption | apply Bd.add | apply Bd.sub | apply Bd.mul | apply Bd.neg | exact Bd.lit (n := 200) (by decide))) (by decide), _, _, Cut.refl, forL_cons trivial ?_⟩
        wide_open with (if_true, if_true)
        refine ⟨mulOk (by repeat' (first | assumption | apply Bd.add | apply Bd.sub | apply Bd.mul | apply Bd.neg | exact Bd.lit (n := 200) (by decide))) (by repeat' (first | assumption | apply Bd.add | apply Bd.sub | apply Bd.mul | apply Bd.neg | exact Bd.lit (n := 200) (by decide))) (by decide), mulOk (by repeat' (first | assumption | apply Bd.add | apply Bd.sub | apply Bd.mul | apply Bd.neg | exact Bd.lit (n := 200) (by decide))) (by repeat' (first | assumption | apply Bd.add | apply Bd.sub | apply Bd.mul | apply Bd.neg | exact Bd.lit (n := 200) (by decide))) (by decide), mulOk (by repeat' (first | assumption | apply Bd.add | apply Bd.sub | apply Bd.mul | apply Bd.neg | exact Bd.lit (n := 200) (by decide))) (by repeat' (first | assumption | apply Bd.add | apply Bd.sub | apply Bd.mul | apply Bd.neg | exact Bd.lit (n := 200) (by decide))) (by decide), mulOk (by repeat' (first | assumption | apply Bd.add | apply Bd.sub | apply Bd.mul | apply Bd.neg | exact Bd.lit (n := 200) (by decide))) (by repeat' (first | assumption | apply Bd.add | apply Bd.sub | apply Bd.mul | apply Bd.neg | exact Bd.lit (n := 200) (by decide))) (by decide), _, _, Cut.refl, forL_nil trivial ?_⟩
        wide_open with (sp_l_made, spMade, dot_cross)
        refine ⟨mulOk (by repeat' (first | assumption | apply Bd.add | apply Bd.sub | apply Bd.mul | apply Bd.neg | exact Bd.lit (n := 200) (by decide))) (by repeat' (first | assumption | apply Bd.add | apply Bd.sub | apply Bd.mul | apply Bd.neg | exact Bd.lit (n := 200) (by decide))) (by decide), ?_, Bd.mono (by repeat' (first | assumption | apply Bd.add | apply Bd.sub | apply Bd.mul | apply Bd.neg | exact Bd.lit (n := 200) (by decide))) (by decide), ?_, _, _, Cut.refl, hM _ _ ⟨?_, _, _, _, _, _, rfl⟩⟩
        · have := p.1.den_pos; have := p.2.1.den_pos; have := p.2.2.den_pos
          refine Int.mul_ne_zero (Int.mul_ne_zero (Int.mul_ne_zero (Int.mul_ne_zero (by decide) (by omega)) (by omega)) (by omega)) nz
        · simp only [List.length_map]; have := rowsI_len a; rw [List.length_take]; omega
        · rw [take_one hrow]
      · rintro r S2 ⟨rfl, y0, y1, y2, y3, y4, rfl⟩
        wide_open with (if_true, if_true)
        rw [rot_dot ha] at h
        rw [List.length_map, List.length_map, List.take_length]
        exact h
  · exact h.elim
/-- slots: 0 _law_one, 1 _law_other, 2 _law_top, 3 _law_bottom, 4 _law_number_here, 5 _law_far -/
def w_l_product_of : PS1 :=
  (wSeq (wUnp (fTp 2 (fCons (fNm 2) (fCons (fNm 3) fNil))) (wTup (wCons (wC (.int 0)) (wCons (wC (.int 1)) wNil))))
  (wSeq (wFor (wZip (wCons (wVar 0) (wCons (wVar 1) wNil))) (fTp 2 (fCons (fNm 4) (fCons (fNm 5) fNil))) (wSeq (wSet 2 (wBin pAddI (wBin pMulI (wBin pMulI (wVar 2) (wBin pIx (wVar 4) (wC (.int 1)))) (wBin pIx (wVar 5) (wC (.int 1)))) (wBin pMulI (wBin pMulI (wBin pIx (wVar 4) (wC (.int 0))) (wBin pIx (wVar 5) (wC (.int 0)))) (wVar 3))))
  (wSet 3 (wBin pMulI (wBin pMulI (wVar 3) (wBin pIx (wVar 4) (wC (.int 1)))) (wBin pIx (wVar 5) (wC (.int 1)))))))
  (wRet (wCall sp_l_made 2 (wCons (wVar 2) (wCons (wVar 3) wNil))))))
def sp_l_product_of : SpZ := fun rs S W => match rs with
  | [.d x, .d y] => ∃ (p q : Pt) (m n : Nat), x = ptD p ∧ y = ptD q ∧ (∀ z ∈ qsOf p, BQ m z) ∧ (∀ z ∈ qsOf q, BQ n z) ∧ 3 * (m + n) ≤ 8900 ∧ W (.d (frD (dP p q))) S
  | _ => False
theorem rd_l_product_of : ∀ rs S W, rs.length = 2 → sp_l_product_of rs S W → w_l_product_of { nx := fun _ S1 => retN S.length W (.d .non) S1, rt := retN S.length W } (start1 6 rs) S := by
  intro rs S W _ h
  unfold sp_l_product_of at h
  split at h
  · obtain ⟨p, q, m, n, rfl, rfl, hp, hq, hmn, h⟩ := h
    have e1 : ptD p = .tup [frD p.1, frD p.2.1, frD p.2.2] := rfl
    have e2 : ptD q = .tup [frD q.1, frD q.2.1, frD q.2.2] := rfl
    obtain ⟨a1, b1⟩ := hp p.1 (by simp [qsOf])
    obtain ⟨a2, b2⟩ := hp p.2.1 (by simp [qsOf])
    obtain ⟨a3, b3⟩ := hp p.2.2 (by simp [qsOf])
    obtain ⟨c1, d1⟩ := hq q.1 (by simp [qsOf])
    obtain ⟨c2, d2⟩ := hq q.2.1 (by simp [qsOf])
    obtain ⟨c3, d3⟩ := hq q.2.2 (by simp [qsOf])
    have k0 : Bd 1 0 := Bd.zero
    have k1 : Bd 1 1 := Bd.lit (by decide)
    have t1 := ((k0.mul b1).mul d1).add ((a1.mul c1).mul k1)
    have u1 := (k1.mul b1).mul d1
    have t2 := ((t1.mul b2).mul d2).add ((a2.mul c2).mul u1)
    have u2 := (u1.mul b2).mul d2
    have t3 := ((t2.mul b3).mul d3).add ((a3.mul c3).mul u2)
    have u3 := (u2.mul b3).mul d3
    rw [e1, e2]
    unfold w_l_product_of
    refine seqI fun P hP => ?_
    wide_open with (if_true, if_true)
    refine hP _ _ ?_; clear hP
    refine seqI fun P hP => ?_
    wide_open with (if_true, if_true)
    refine forL_cons trivial ?_
    wide_open with (seq_fr, if_true)
    refine ⟨mulOk k0 b1 (by omega), mulOk (k0.mul b1) d1 (by omega), mulOk a1 c1 (by omega), mulOk (a1.mul c1) k1 (by omega), mulOk k1 b1 (by omega), mulOk (k1.mul b1) d1 (by omega), _, _, Cut.refl, forL_cons trivial ?_⟩
    wide_open with (seq_fr, if_true)
    refine ⟨mulOk t1 b2 (by omega), mulOk (t1.mul b2) d2 (by omega), mulOk a2 c2 (by omega), mulOk (a2.mul c2) u1 (by omega), mulOk u1 b2 (by omega), mulOk (u1.mul b2) d2 (by omega), _, _, Cut.refl, forL_cons trivial ?_⟩
    wide_open with (seq_fr, if_true)
    refine ⟨mulOk t2 b3 (by omega), mulOk (t2.mul b3) d3 (by omega), mulOk a3 c3 (by omega), mulOk (a3.mul c3) u2 (by omega), mulOk u2 b3 (by omega), mulOk (u2.mul b3) d3 (by omega), _, _, Cut.refl, forL_nil trivial ?_⟩
    show P _ _
    refine hP _ _ ?_; clear hP
    wide_open with (sp_l_made, spMade)
    have ne := Int.mul_ne_zero (Int.mul_ne_zero (Int.mul_ne_zero (Int.mul_ne_zero (Int.mul_ne_zero (Int.mul_ne_zero (show (1 : Int) ≠ 0 by decide) (fr_den p.1)) (fr_den q.1)) (fr_den p.2.1)) (fr_den q.2.1)) (fr_den p.2.2)) (fr_den q.2.2)
    refine ⟨ne, u3.mono (by omega), ?_⟩
    rw [dot_made7]
    exact h
  · exact h.elim
/-- slots: 0 _law_purse_here, 1 _law_found, 2 _law_k, 3 _law_top -/
def w_l_near : PS1 :=
  (wSeq (wSet 1 (wLst wNil))
  (wSeq (wFor (wRng1 (wCons (wC (.int 3)) wNil)) (fNm 2) (wSeq (wSet 3 (wCall sp_l_draw 2 (wCons (wVar 0) (wCons (wBin pIx (wLst (wCons (wC (.int 7)) (wCons (wC (.int 41)) (wCons (wBin pPow (wC (.int 10)) (wC (.int 9))) wNil)))) (wCall sp_l_draw 2 (wCons (wVar 0) (wCons (wC (.int 3)) wNil)))) wNil))))
  (wDrop (wApp (wVar 1) (wCall sp_l_made 2 (wCons (wBin pSub (wVar 3) (wC (.int 3))) (wCons (wBin pAddI (wC (.int 1)) (wCall sp_l_draw 2 (wCons (wVar 0) (wCons (wBin pIx (wLst (wCons (wC (.int 1)) (wCons (wC (.int 6)) (wCons (wC (.int 60)) wNil)))) (wCall sp_l_draw 2 (wCons (wVar 0) (wCons (wC (.int 3)) wNil)))) wNil)))) wNil)))))))
  (wRet (wFn fTup (wCons (wVar 1) wNil)))))
def sp_l_near : SpZ := spNr
theorem rd_l_near : ∀ rs S W, rs.length = 1 → sp_l_near rs S W → w_l_near { nx := fun _ S1 => retN S.length W (.d .non) S1, rt := retN S.length W } (start1 4 rs) S := by
  intro rs S W _ h
  unfold sp_l_near spNr at h
  split at h
  · rename_i a b _
    wide_open with (w_l_near, if_true)
    refine forL_ix (fun i r S1 => ∃ (a b : Int) (y z : Option R) (qs : List Rat), S1 = [.lst [.int a, .int b], .lst (qs.map frD)] ∧ qs.length = i ∧ (∀ q ∈ qs, NrQ q) ∧ r = [some (.loc 0), some (.loc 1), y, z]) ?_ ?_ ⟨a, b, _, _, [], rfl, rfl, by simp, rfl⟩
    · rintro i x hx r S1 ⟨a, b, y, z, qs, rfl, hl, hq, rfl⟩ M hM
      obtain ⟨hi, rfl⟩ := rgR_get (lo := 0) (n := 3) hx
      refine ⟨trivial, seqI fun P hP => ?_⟩
      wide_open with (sp_l_draw, if_true)
      refine ⟨⟨by decide, by decide, by decide⟩, fun v a b v0 v1 => ?_⟩
      obtain ⟨k, hk, hm⟩ := getI_ints (ns := [7, 41, 1000000000]) v0 (by simpa using v1)
      have hk' : getI [D.int 7, D.int 41, D.int 1000000000] v = some (.int k) := hk
      have hb : 7 ≤ k ∧ k ≤ 1000000000 := by
        simp only [List.mem_cons, List.not_mem_nil, or_false] at hm
        omega
      wide_open with (hk', sp_l_draw)
      refine ⟨⟨by omega, by omega⟩, fun t a b t0 t1 => ?_⟩
      refine hP _ _ ?_; clear hP
      wide_open with (sp_l_draw, if_true)
      intro w a b w0 w1
      obtain ⟨k2, hk2, hm2⟩ := getI_ints (ns := [1, 6, 60]) w0 (by simpa using w1)
      have hk2' : getI [D.int 1, D.int 6, D.int 60] w = some (.int k2) := hk2
      have hb2 : 1 ≤ k2 ∧ k2 ≤ 60 := by
        simp only [List.mem_cons, List.not_mem_nil, or_false] at hm2
        omega
      wide_open with (hk2', sp_l_draw, sp_l_made, spMade)
      refine ⟨⟨by omega, by omega⟩, fun u a b u0 u1 => ?_⟩
      have ub : Bd 6 (1 + u) := Bd.of_le (b := 60) (by omega) (by omega) (by decide)
      have nb : Bd 31 (t - 3) := Bd.of_le (b := 1000000000) (by omega) (by omega) (by decide)
      refine ⟨by omega, ub.mono (by decide), by simp only [List.length_map]; omega, _, _, Cut.refl, hM _ _ ⟨a, b, _, _, qs ++ [((t - 3 : Int) : Rat) / ((1 + u : Int) : Rat)], by simp, by simp [hl], fun q hm => ?_, rfl⟩⟩
      rcases List.mem_append.mp hm with hm | hm
      · exact hq q hm
      · simp only [List.mem_cons, List.not_mem_nil, or_false] at hm
        rw [hm]
        exact NrQ.made (by omega) nb ub
    · rintro r S1 ⟨a, b, y, z, qs, rfl, hl, hq, rfl⟩
      obtain ⟨p, rfl⟩ := pt_of (qs := qs) hl
      wide_open with (if_true, if_true)
      exact h p a b hq
  · exact h.elim
/-- slots: 0 _law_purse_here, 1 _law_some, 2 _law_kinds, 3 _law_makers, 4 _law_at, 5 _law_four, 6 _law_found -/
def w_l_made_group : PS1 :=
  (wSeq (wSet 1 (wLst (wCons (wTup (wCons (wC (.int 1)) (wCons (wC (.int 0)) (wCons (wC (.int 0)) (wCons (wC (.int 0)) wNil))))) wNil)))
  (wSeq (wSet 2 (wLst (wCons (wFz (wLst (wCons (wTup (wCons (wC (.int 0)) (wCons (wC (.int 1)) (wCons (wC (.int 0)) (wCons (wC (.int 0)) wNil))))) wNil))) (wCons (wFz (wLst (wCons (wTup (wCons (wC (.int 1)) (wCons (wC (.int 1)) (wCons (wC (.int 1)) (wCons (wC (.int 1)) wNil))))) wNil))) (wCons (wFz (wLst (wCons (wTup (wCons (wC (.int 1)) (wCons (wC (.int 1)) (wCons (wC (.int 0)) (wCons (wC (.int 0)) wNil))))) wNil))) (wCons (wFz (wLst (wCons (wTup (wCons (wC (.int 0)) (wCons (wC (.int 1)) (wCons (wC (.int 0)) (wCons (wC (.int 0)) wNil))))) (wCons (wTup (wCons (wC (.int 0)) (wCons (wC (.int 0)) (wCons (wC (.int 1)) (wCons (wC (.int 0)) wNil))))) wNil)))) wNil))))))
  (wSeq (wSet 2 (wBin pCat (wVar 2) (wLst (wCons (wFz (wLst (wCons (wTup (wCons (wC (.int 1)) (wCons (wC (.int 1)) (wCons (wC (.int 1)) (wCons (wC (.int 1)) wNil))))) (wCons (wTup (wCons (wC (.int 0)) (wCons (wC (.int 1)) (wCons (wUn pNeg (wC (.int 1))) (wCons (wC (.int 0)) wNil))))) wNil)))) (wCons (wFz (wLst (wCons (wTup (wCons (wC (.int 1)) (wCons (wC (.int 0)) (wCons (wC (.int 0)) (wCons (wC (.int 1)) wNil))))) (wCons (wTup (wCons (wC (.int 0)) (wCons (wC (.int 1)) (wCons (wC (.int 0)) (wCons (wC (.int 0)) wNil))))) wNil)))) (wCons (wFz (wLst (wCons (wTup (wCons (wC (.int 1)) (wCons (wC (.int 1)) (wCons (wC (.int 1)) (wCons (wC (.int 1)) wNil))))) (wCons (wTup (wCons (wC (.int 0)) (wCons (wC (.int 0)) (wCons (wC (.int 0)) (wCons (wC (.int 1)) wNil))))) wNil)))) wNil))))))
  (wSeq (wSet 3 (wBin pIx (wVar 2) (wCall sp_l_draw 2 (wCons (wVar 0) (wCons (wC (.int 7)) wNil)))))
  (wSeq (wSet 4 (wC (.int 0)))
  (wSeq (wWhile (wTest (wBin pLt (wVar 4) (wFn fLen (wCons (wVar 1) wNil)))) (wSeq (wFor (wIt (wVar 3)) (fNm 5) (wSeq (wSet 6 (wCall sp_l_plain 1 (wCons (wCall sp_l_product 2 (wCons (wVar 5) (wCons (wBin pIx (wVar 1) (wVar 4)) wNil))) wNil)))
  (wIf (wTest (wBin (pInB true) (wVar 6) (wVar 1))) (wDrop (wApp (wVar 1) (wVar 6))) wNext)))
  (wSet 4 (wBin pAddI (wVar 4) (wC (.int 1))))))
  (wRet (wVar 1))))))))
def sp_l_made_group : SpZ := fun rs S W => match rs, S with
  | [.loc 0], [.lst [.int _, .int _]] => ∀ (gs : List Fo) (a b : Int), 1 ≤ gs.length → gs.length ≤ 12 → (∀ f ∈ gs, f.length = 4 ∧ (∃ n ∈ f, n ≠ 0) ∧ (∀ x ∈ f, x.natAbs ≤ 2) ∧ nrmI f ∣ 4) → W (.loc 1) [.lst [.int a, .int b], .lst (fsL gs)]
  | _, _ => False
theorem rd_l_made_group : ∀ rs S W, rs.length = 1 → sp_l_made_group rs S W → w_l_made_group { nx := fun _ S1 => retN S.length W (.d .non) S1, rt := retN S.length W } (start1 7 rs) S := by
  intro rs S W _ h
  unfold sp_l_made_group at h
  split at h
  · rename_i a0 b0 _
    have one : ∀ (v : Int), 0 ≤ v → v < 7 → ∃ ms, kindsG[v.toNat]? = some ms ∧ getI (kindsG.map fun ms => D.lst (fsL ms)) v = some (.lst (fsL ms)) ∧ OkM ms := fun v v0 v1 => by
      obtain ⟨z, hz, hm⟩ := getI_in (xs := kindsG.map fun ms => D.lst (fsL ms)) v0 (by simpa [kindsG] using v1)
      rw [getI_of v0 (by simpa [kindsG] using v1), List.getElem?_map, Option.map_eq_some_iff] at hz
      obtain ⟨ms, h1, rfl⟩ := hz
      exact ⟨ms, h1, by rw [getI_of v0 (by simpa [kindsG] using v1), List.getElem?_map, h1]; rfl, kinds_ok ms (List.mem_of_getElem? h1)⟩
    unfold w_l_made_group
    refine seqI fun P hP => ?_
    wide_open with (if_true, if_true)
    refine hP _ _ ?_; clear hP
    refine seqI fun P hP => ?_
    wide_open with (if_true, if_true)
    refine hP _ _ ?_; clear hP
    refine seqI fun P hP => ?_
    wide_open with (if_true, if_true)
    refine hP _ _ ?_; clear hP
    refine seqI fun P hP => ?_
    have rest : ∀ (ms : List Fo) (K1 K2 : O) (a b : Int), OkM ms → P [some (.loc 0), some (.loc 1), some (.loc 3), some (.d (.lst (fsL ms))), none, none, none] [.lst [.int a, .int b], .lst (fsL [[1, 0, 0, 0]]), K1, K2] := fun ms K1 K2 a b ok => by
      refine hP _ _ ?_; clear hP
      refine seqI fun P hP => ?_
      wide_open with (if_true, if_true)
      refine hP _ _ ?_; clear hP
      refine seqI fun P hP => ?_
      unfold wWhile
      refine ⟨fun n r1 S1 => ∃ (s : List Fo) (at_ : Nat) (z5 z6 : Option R), goG ms (24 - at_) at_ s = goG ms 24 0 [[1, 0, 0, 0]] ∧ at_ ≤ s.length ∧ 1 ≤ s.length ∧ n = 24 - at_ ∧ S1 = [.lst [.int a, .int b], .lst (fsL s), K1, K2] ∧ r1 = [some (.loc 0), some (.loc 1), some (.loc 3), some (.d (.lst (fsL ms))), some (.d (.int (at_ : Int))), z5, z6], ⟨_, [[1, 0, 0, 0]], 0, none, none, rfl, by simp, by simp, rfl, rfl, rfl⟩, ?_⟩
      rintro n r1 S1 ⟨s, at_, z5, z6, e, al, s1, rfl, rfl, rfl⟩
      have pre := goG_pre ms (24 - at_) at_ s
      rw [e] at pre
      have sl := pre.length_le
      have few := ok.few
      wide_open with (List.length_map, if_true)
      by_cases lt : at_ < s.length
      · rw [if_pos (by simp; omega)]
        have hx : s[at_]? = some s[at_] := List.getElem?_eq_getElem lt
        generalize s[at_] = x at hx
        obtain ⟨ft, hft⟩ : ∃ ft, 24 - at_ = ft + 1 := ⟨24 - at_ - 1, by omega⟩
        have e2 : goG ms ft (at_ + 1) (ms.foldl (fun s m => stG s x m) s) = goG ms 24 0 [[1, 0, 0, 0]] := by
          rw [hft] at e
          unfold goG at e
          rw [hx] at e
          exact e
        obtain ⟨lx, zx, bx, _⟩ := ok.g x (pre.mem (List.mem_of_getElem? hx))
        have bd2 : ∀ {m : Fo}, (∀ y ∈ m, y.natAbs ≤ 2) → ∀ y ∈ m, Bd 2 y := fun h y hy => Bd.lit (by have := h y hy; omega)
        refine forL_ix (fun j r S1 => ∃ (t : List Fo) (z5 z6 : Option R), t = (ms.take j).foldl (fun s m => stG s x m) s ∧ s <+: t ∧ t.length ≤ s.length + j ∧ S1 = [.lst [.int a, .int b], .lst (fsL t), K1, K2] ∧ r = [some (.loc 0), some (.loc 1), some (.loc 3), some (.d (.lst (fsL ms))), some (.d (.int (at_ : Int))), z5, z6]) ?_ ?_ ⟨s, _, _, rfl, List.prefix_refl _, by omega, rfl, rfl⟩
        · rintro j y hy r S1 ⟨t, z5, z6, ht, pt, tl, rfl, rfl⟩ M hM
          rw [List.map_map] at hy
          obtain ⟨m, hm, rfl⟩ := item_enc hy
          have mm := mem_of_at hm
          obtain ⟨lm, zm, bm⟩ := ok.m m mm
          have jl : j < 2 := by
            have := (List.getElem?_eq_some_iff.mp hm).1
            have := ok.l
            omega
          have gi : getI (fsL t) (at_ : Int) = some (.tup (x.map D.int)) := by
            have h3 : t[at_]? = some x := by
              obtain ⟨u, rfl⟩ := pt
              rw [List.getElem?_append_left lt]; exact hx
            have h4 := (List.getElem?_eq_some_iff.mp h3).1
            rw [getI_of (by omega) (by simp; omega)]
            simp [h3]
          refine ⟨trivial, ?_⟩
          wide_open with (Function.comp, gi, sp_l_product, spProd)
          have zq := qmul_nz lm lx zm zx
          have lq := qmul_len lm lx
          have bq := qmul_bd (bd2 fun y hy => by have := bm y hy; omega) (bd2 bx)
          refine ⟨m, x, rfl, rfl, lm, lx, fun y hy => (bd2 (fun y hy => by have := bm y hy; omega) y hy).mono (by decide), fun y hy => (bd2 bx y hy).mono (by decide), ?_⟩
          wide_open with (sp_l_plain, spPln)
          refine ⟨qmul m x, rfl, zq, fun n hn => (bq n hn).mono (by decide), by omega, ?_⟩
          have tk : ms.take (j + 1) = ms.take j ++ [m] := by rw [List.take_add_one, hm]; rfl
          have nx : (ms.take (j + 1)).foldl (fun s m => stG s x m) s = stG t x m := by rw [tk, List.foldl_append, ← ht]; rfl
          have dp := depth_tup (ns := pln (qmul m x))
          have dp' : (py (D.tup ((pln (qmul m x)).map D.int))).depth ≤ 2 := dp
          have an := any_fo (pln (qmul m x)) t
          have pyt : py (D.tup ((pln (qmul m x)).map D.int)) = PyData.tuple (pys ((pln (qmul m x)).map D.int)) := rfl
          rw [pyt] at an dp'
          wide_open with (an, if_true)
          refine ⟨by first | omega | (simp only [PyData.depth] at dp'; omega), ?_⟩
          by_cases hin : pln (qmul m x) ∈ t
          · rw [decide_eq_true hin]
            wide_open with (if_true, if_true)
            refine ⟨_, _, Cut.refl, hM _ _ ⟨t, _, _, by rw [nx]; unfold stG; rw [if_pos hin], pt, by omega, rfl, rfl⟩⟩
          · rw [decide_eq_false hin]
            wide_open with (if_true, if_true)
            refine ⟨by simp; omega, _, _, Cut.refl, hM _ _ ⟨t ++ [pln (qmul m x)], _, _, by rw [nx]; unfold stG; rw [if_neg hin], pt.trans (List.prefix_append _ _), by simp; omega, by simp, rfl⟩⟩
        · rintro r S1 ⟨t, z5, z6, ht, pt, tl, rfl, rfl⟩
          rw [List.length_map, List.length_map, List.take_length] at ht
          refine ⟨trivial, ?_⟩
          wide_open with (if_true, if_true)
          refine ⟨_, _, Cut.refl, 24 - (at_ + 1), by omega, t, at_ + 1, _, _, ?_, by have := pt.length_le; omega, by have := pt.length_le; omega, rfl, rfl, rfl⟩
          rw [show 24 - (at_ + 1) = ft by omega, ht]
          exact e2
      · rw [if_neg (by simp; omega)]
        have ea : at_ = s.length := by omega
        have fin : goG ms (24 - at_) at_ s = s := by
          cases hf : 24 - at_ with
          | zero => rfl
          | succ f => unfold goG; rw [ea, List.getElem?_eq_none (Nat.le_refl _)]
        rw [fin] at e
        refine hP _ _ ?_; clear hP
        wide_open with (if_true, if_true)
        exact h s a b s1 (by omega) (by rw [e]; exact ok.g)
    wide_open with (sp_l_draw, if_true)
    intro v a b v0 v1
    obtain ⟨ms, _, h2, ok⟩ := one v v0 v1
    generalize hk : getI _ v = o
    have : o = some (.lst (fsL ms)) := hk.symm.trans h2
    subst this
    exact rest ms _ _ a b ok
  · exact h.elim
/-- slots: 0 _law_one, 1 _law_other, 2 _law_found, 3 _law_j, 4 _law_k, 5 _law_low, 6 _law_by, 7 _law_top -/
def w_l_upright : PS1 :=
  (wSeq (wSet 2 (wLst wNil))
  (wSeq (wFor (wIt (wLst (wCons (wTup (wCons (wC (.int 1)) (wCons (wC (.int 2)) wNil))) (wCons (wTup (wCons (wC (.int 2)) (wCons (wC (.int 0)) wNil))) (wCons (wTup (wCons (wC (.int 0)) (wCons (wC (.int 1)) wNil))) wNil))))) (fTp 2 (fCons (fNm 3) (fCons (fNm 4) fNil))) (wSeq (wSet 5 (wBin pMulI (wBin pIx (wBin pIx (wVar 0) (wVar 3)) (wC (.int 1))) (wBin pIx (wBin pIx (wVar 1) (wVar 4)) (wC (.int 1)))))
  (wSeq (wSet 6 (wBin pMulI (wBin pIx (wBin pIx (wVar 0) (wVar 4)) (wC (.int 1))) (wBin pIx (wBin pIx (wVar 1) (wVar 3)) (wC (.int 1)))))
  (wSeq (wSet 7 (wBin pMulI (wBin pMulI (wBin pIx (wBin pIx (wVar 0) (wVar 3)) (wC (.int 0))) (wBin pIx (wBin pIx (wVar 1) (wVar 4)) (wC (.int 0)))) (wVar 6)))
  (wSeq (wSet 7 (wBin pSub (wVar 7) (wBin pMulI (wBin pMulI (wBin pIx (wBin pIx (wVar 0) (wVar 4)) (wC (.int 0))) (wBin pIx (wBin pIx (wVar 1) (wVar 3)) (wC (.int 0)))) (wVar 5))))
  (wDrop (wApp (wVar 2) (wCall sp_l_made 2 (wCons (wVar 7) (wCons (wBin pMulI (wVar 5) (wVar 6)) wNil))))))))))
  (wRet (wFn fTup (wCons (wVar 2) wNil)))))
def sp_l_upright : SpZ := fun rs S W => match rs, S with
  | [.d x, .d y], [] => ∃ (p q : Pt) (n : Nat), x = ptD p ∧ y = ptD q ∧ (∀ z ∈ qsOf p, BQ n z) ∧ (∀ z ∈ qsOf q, BQ n z) ∧ 4 * n ≤ 9000 ∧ W (.d (ptD (xP p q))) []
  | _, _ => False
theorem rd_l_upright : ∀ rs S W, rs.length = 2 → sp_l_upright rs S W → w_l_upright { nx := fun _ S1 => retN S.length W (.d .non) S1, rt := retN S.length W } (start1 8 rs) S := by
  intro rs S W _ h
  unfold sp_l_upright at h
  split at h
  · obtain ⟨p, q, n, rfl, rfl, hp, hq, hn, h⟩ := h
    have e1 : ptD p = .tup [frD p.1, frD p.2.1, frD p.2.2] := rfl
    have e2 : ptD q = .tup [frD q.1, frD q.2.1, frD q.2.2] := rfl
    have e3 : ptD (xP p q) = .tup [frD (xP p q).1, frD (xP p q).2.1, frD (xP p q).2.2] := rfl
    have fe : ∀ z : Rat, frD z = .tup [.int z.num, .int (z.den : Int)] := fun _ => rfl
    obtain ⟨a1, b1⟩ := hp p.1 (by simp [qsOf])
    obtain ⟨a2, b2⟩ := hp p.2.1 (by simp [qsOf])
    obtain ⟨a3, b3⟩ := hp p.2.2 (by simp [qsOf])
    obtain ⟨c1, d1⟩ := hq q.1 (by simp [qsOf])
    obtain ⟨c2, d2⟩ := hq q.2.1 (by simp [qsOf])
    obtain ⟨c3, d3⟩ := hq q.2.2 (by simp [qsOf])
    have one : ∀ {a b c d : Rat}, BQ n a → BQ n b → BQ n c → BQ n d → ∀ (W : R → Sto → Prop) (S : Sto), W (.d (frD (a * b - c * d))) S → sp_l_made [.d (.int (a.num * b.num * ((c.den : Int) * (d.den : Int)) - c.num * d.num * ((a.den : Int) * (b.den : Int)))), .d (.int ((a.den : Int) * (b.den : Int) * ((c.den : Int) * (d.den : Int))))] S W := fun {a b c d} ha hb hc hd W S h => by
      refine ⟨?_, (((ha.2.mul hb.2).mul (hc.2.mul hd.2))).mono (by omega), by rw [frac_up2]; exact h⟩
      have k : ∀ z : Rat, (z.den : Int) ≠ 0 := fun z => by have := z.den_pos; omega
      exact Int.mul_ne_zero (Int.mul_ne_zero (k a) (k b)) (Int.mul_ne_zero (k c) (k d))
    have ml : ∀ {a b c d : Rat}, BQ n a → BQ n b → BQ n c → BQ n d → MulOk (a.den : Int) (b.den : Int) ∧ MulOk (c.den : Int) (d.den : Int) ∧ MulOk a.num b.num ∧ MulOk (a.num * b.num) ((c.den : Int) * (d.den : Int)) ∧ MulOk c.num d.num ∧ MulOk (c.num * d.num) ((a.den : Int) * (b.den : Int)) ∧ MulOk ((a.den : Int) * (b.den : Int)) ((c.den : Int) * (d.den : Int)) := fun ha hb hc hd =>
      ⟨mulOk ha.2 hb.2 (by omega), mulOk hc.2 hd.2 (by omega), mulOk ha.1 hb.1 (by omega), mulOk (ha.1.mul hb.1) (hc.2.mul hd.2) (by omega), mulOk hc.1 hd.1 (by omega), mulOk (hc.1.mul hd.1) (ha.2.mul hb.2) (by omega), mulOk (ha.2.mul hb.2) (hc.2.mul hd.2) (by omega)⟩
    have P1 : BQ n p.1 := ⟨a1, b1⟩
    have P2 : BQ n p.2.1 := ⟨a2, b2⟩
    have P3 : BQ n p.2.2 := ⟨a3, b3⟩
    have Q1 : BQ n q.1 := ⟨c1, d1⟩
    have Q2 : BQ n q.2.1 := ⟨c2, d2⟩
    have Q3 : BQ n q.2.2 := ⟨c3, d3⟩
    obtain ⟨g1, g2, g3, g4, g5, g6, g7⟩ := ml P2 Q3 P3 Q2
    obtain ⟨k1, k2, k3, k4, k5, k6, k7⟩ := ml P3 Q1 P1 Q3
    obtain ⟨l1, l2, l3, l4, l5, l6, l7⟩ := ml P1 Q2 P2 Q1
    rw [e1, e2, fe, fe, fe, fe, fe, fe]
    unfold w_l_upright
    refine seqI fun P hP => ?_
    wide_open with (if_true, if_true)
    refine hP _ _ ?_; clear hP
    refine seqI fun P hP => ?_
    wide_open with (if_true, if_true)
    refine forL_cons trivial ?_
    wide_open with (if_true, if_true)
    refine ⟨g1, g2, g3, g4, g5, g6, g7, one P2 Q3 P3 Q2 _ _ ?_⟩
    wide_open with (if_true, if_true)
    refine ⟨_, _, Cut.refl, forL_cons trivial ?_⟩
    wide_open with (if_true, if_true)
    refine ⟨k1, k2, k3, k4, k5, k6, k7, one P3 Q1 P1 Q3 _ _ ?_⟩
    wide_open with (if_true, if_true)
    refine ⟨_, _, Cut.refl, forL_cons trivial ?_⟩
    wide_open with (if_true, if_true)
    refine ⟨l1, l2, l3, l4, l5, l6, l7, one P1 Q2 P2 Q1 _ _ ?_⟩
    wide_open with (if_true, if_true)
    refine ⟨_, _, Cut.refl, forL_nil trivial ?_⟩
    refine hP _ _ ?_; clear hP
    wide_open with (if_true, if_true)
    exact h
  · exact h.elim
/-- slots: 0 four, 1 found, 2 first, 3 number -/
def w_plain : PS1 :=
  (wSeq (wSet 1 (wCall sp_plain_row 1 (wCons (wVar 0) wNil)))
  (wSeq (wSet 2 (wBin pIx (wLc (wIt (wVar 1)) (fNm 3) (wTest (wBin pNe (wVar 3) (wC (.int 0)))) (wVar 3) [3]) (wC (.int 0))))
  (wSeq (wIf (wTest (wBin pLt (wVar 2) (wC (.int 0)))) (wSet 1 (wFn fTup (wCons (wLc (wIt (wVar 1)) (fNm 3) wYes (wUn pNeg (wVar 3)) [3]) wNil))) wNext)
  (wRet (wVar 1)))))
def sp_plain : SpZ := spPln
theorem rd_plain : ∀ rs S W, rs.length = 1 → sp_plain rs S W → w_plain { nx := fun _ S1 => retN S.length W (.d .non) S1, rt := retN S.length W } (start1 4 rs) S := by
  intro rs S W _ h
  unfold sp_plain spPln at h
  split at h
  · obtain ⟨ns, rfl, hz, hb, hl, h⟩ := h
    wide_open with (w_plain, sp_plain_row)
    refine ⟨ns, rfl, hz, hb, hl, by simp [prow]; omega, lcL_intsF (fun n => !(n == 0)) (by simp) trivial (fun n hn => ⟨_, rfl, fun W1 h => ?_, fun _ W1 h => ?_⟩) ?_⟩
    · wide_open with (if_true, if_true)
      exact h
    · wide_open with (if_true, if_true)
      exact h
    · obtain ⟨y, ys, e, h0, hf⟩ := first_nz (prow_nz hz)
      rw [fs_prow hz] at hf
      rw [e]
      wide_open with (if_true, if_true)
      rw [pln_prow, hf] at h
      by_cases hy : y < 0
      · rw [if_pos hy] at h
        wide_open with (decide_eq_true hy, if_true)
        refine ⟨by simp [prow]; omega, lcL_ints (fun n => -n) (by simp) trivial (fun n hn => ⟨_, rfl, fun W1 h => h, fun W1 h => ?_⟩) ?_⟩
        · wide_open with (if_true, if_true)
          exact h
        · wide_open with (if_true, if_true)
          have e2 : (fun n : Int => -n) = fun n => -1 * n := by funext n; omega
          rw [e2]
          exact h
      · rw [if_neg hy] at h
        wide_open with (decide_eq_false hy, if_true)
        have e2 : (prow ns).map (1 * ·) = prow ns := by simp
        rw [e2] at h
        exact h
  · exact h.elim
/-- slots: 0 _law_purse_here, 1 _law_k, 2 _law_four, 3 _law_group, 4 _law_found, 5 _law_point, 6 _law_one -/
def w_l_kept_points : PS1 :=
  (wSeq (wSet 2 (wFn fTup (wCons (wLc (wRng1 (wCons (wC (.int 4)) wNil)) (fNm 1) wYes (wBin pSub (wCall sp_l_draw 2 (wCons (wVar 0) (wCons (wC (.int 7)) wNil))) (wC (.int 3))) [1]) wNil)))
  (wSeq (wIf (wTest (wBin pEq (wVar 2) (wTup (wCons (wC (.int 0)) (wCons (wC (.int 0)) (wCons (wC (.int 0)) (wCons (wC (.int 0)) wNil))))))) (wSet 2 (wTup (wCons (wC (.int 1)) (wCons (wC (.int 0)) (wCons (wC (.int 0)) (wCons (wC (.int 0)) wNil)))))) wNext)
  (wSeq (wSet 3 (wCall sp_l_made_group 1 (wCons (wVar 0) wNil)))
  (wSeq (wSet 4 (wLst wNil))
  (wSeq (wFor (wRng1 (wCons (wBin pAddI (wC (.int 1)) (wFn fInt (wCons (wAndV (wBin pLt (wFn fLen (wCons (wVar 3) wNil)) (wC (.int 7))) (wBin pEq (wCall sp_l_draw 2 (wCons (wVar 0) (wCons (wC (.int 2)) wNil))) (wC (.int 1)))) wNil))) wNil)) (fNm 1) (wSeq (wSet 5 (wCall sp_l_near 1 (wCons (wVar 0) wNil)))
  (wFor (wIt (wVar 3)) (fNm 6) (wDrop (wApp (wVar 4) (wCall sp_l_turned 2 (wCons (wVar 2) (wCons (wCall sp_l_turned 2 (wCons (wVar 6) (wCons (wVar 5) wNil))) wNil))))))))
  (wRet (wVar 4)))))))
def sp_l_kept_points : SpZ := spPts39
theorem rd_l_kept_points : ∀ rs S W, rs.length = 1 → sp_l_kept_points rs S W → w_l_kept_points { nx := fun _ S1 => retN S.length W (.d .non) S1, rt := retN S.length W } (start1 7 rs) S := by
  intro rs S W _ h
  unfold sp_l_kept_points spPts39 at h
  split at h
  · rename_i a0 b0 _
    unfold w_l_kept_points
    refine seqI fun P hP => ?_
    wide_open with (rgR_succ, rgR_zero, lcL, sp_l_draw)
    intro v1 p1 p2 v2 q1 q2 v3 r1 r2 v4 a b s1 s2
    refine hP _ _ ?_; clear hP
    refine seqI fun P hP => ?_
    have go : ∀ (f : Fo) (a b : Int), f.length = 4 → (∃ n ∈ f, n ≠ 0) → (∀ x ∈ f, x.natAbs ≤ 3) → P [some (.loc 0), none, some (.d (.tup (f.map D.int))), none, none, none, none] [.lst [.int a, .int b]] := fun f a b lf zf bf => by
      refine hP _ _ ?_; clear hP
      refine seqI fun P hP => ?_
      wide_open with (sp_l_made_group, if_true)
      intro gs a b g1 g12 hg
      refine hP _ _ ?_; clear hP
      refine seqI fun P hP => ?_
      wide_open with (if_true, if_true)
      refine hP _ _ ?_; clear hP
      refine seqI fun P hP => ?_
      have nf : nrmI f ≤ 36 := by
        obtain ⟨w, x, y, z, rfl⟩ := four_of lf
        have sq : ∀ u : Int, u.natAbs ≤ 3 → u * u ≤ 9 := fun u hu => by
          have : u = 0 ∨ u = 1 ∨ u = 2 ∨ u = 3 ∨ u = -1 ∨ u = -2 ∨ u = -3 := by omega
          rcases this with rfl | rfl | rfl | rfl | rfl | rfl | rfl <;> decide
        have h1 := sq w (bf w (by simp))
        have h2 := sq x (bf x (by simp))
        have h3 := sq y (bf y (by simp))
        have h4 := sq z (bf z (by simp))
        show w * w + x * x + y * y + z * z ≤ 36
        omega
      have n0 : 0 < nrmI f := by
        obtain ⟨w, x, y, z, rfl⟩ := four_of lf
        exact nrmI_pos zf
      have one : ∀ (p : Pt) (Lp : Nat), GP Lp 43 p → ∀ g ∈ gs, GP ((nrmI f).toNat * (4 * Lp)) 62 (rot f (rot g p)) := fun p Lp hp g hgm => by
        obtain ⟨lg, zg, bg, ng⟩ := hg g hgm
        have h1 := GP.rot lg zg (m := 2) (fun x hx => Bd.lit (by have := bg x hx; omega)) hp
        have g0 : 0 < nrmI g := by
          obtain ⟨w, x, y, z, rfl⟩ := four_of lg
          exact nrmI_pos zg
        obtain ⟨c, hc⟩ := ng
        have c0 : 0 < c := by
          refine Classical.byContradiction fun z => ?_
          have := Int.mul_nonpos_of_nonneg_of_nonpos (Int.le_of_lt g0) (show c ≤ 0 by omega)
          omega
        have c4 : c ≤ 4 := by
          have : 1 * c ≤ nrmI g * c := Int.mul_le_mul_of_nonneg_right (by omega) (Int.le_of_lt c0)
          omega
        have h2 := h1.up (c := c.toNat) (k := 3) (by omega) (by omega)
        have e : (nrmI g).toNat * Lp * c.toNat = 4 * Lp := by
          have e1 : (nrmI g).toNat * c.toNat = 4 := by
            have : (((nrmI g).toNat * c.toNat : Nat) : Int) = 4 := by rw [Int.natCast_mul, Int.toNat_of_nonneg (by omega), Int.toNat_of_nonneg (by omega)]; exact hc.symm
            exact_mod_cast this
          rw [Nat.mul_right_comm, e1]
        rw [e] at h2
        have h3 := GP.rot lf zf (m := 2) (fun x hx => Bd.lit (by have := bf x hx; omega)) h2
        exact ⟨h3.1, fun q hq => ⟨(h3.2 q hq).1, ((h3.2 q hq).2).mono (by omega)⟩⟩
      have loop : ∀ (m : Nat) (a b : Int), 1 ≤ m → m ≤ 2 → forL 3 (fun _ => True) (fNm 1) (wSeq (wSet 5 (wCall sp_l_near 1 (wCons (wVar 0) wNil))) (wFor (wIt (wVar 3)) (fNm 6) (wDrop (wApp (wVar 4) (wCall sp_l_turned 2 (wCons (wVar 2) (wCons (wCall sp_l_turned 2 (wCons (wVar 6) (wCons (wVar 5) wNil))) wNil))))))) { nx := P, rt := retN 1 W } (rgR 0 m) [some (.loc 0), none, some (.d (.tup (f.map D.int))), some (.loc 1), some (.loc 2), none, none] [.lst [.int a, .int b], .lst (fsL gs), .lst []] := fun m a b m1 m2 => by
        refine forL_ix (fun i r S1 => ∃ (ps : List Pt) (La : Nat) (a b : Int) (z1 z5 z6 : Option R), ps.length = i * gs.length ∧ 0 < La ∧ La < 2 ^ (18 * i + 1) ∧ (∀ p ∈ ps, GP ((nrmI f).toNat * (4 * La)) (62 + 19 * i) p) ∧ S1 = [.lst [.int a, .int b], .lst (fsL gs), .lst (ptL ps)] ∧ r = [some (.loc 0), z1, some (.d (.tup (f.map D.int))), some (.loc 1), some (.loc 2), z5, z6]) ?_ ?_ ⟨[], 1, a, b, none, none, none, by simp, by decide, by decide, by simp, rfl, rfl⟩
        · rintro i x hx r S1 ⟨ps, La, a, b, z1, z5, z6, pl, la, lb, hp, rfl, rfl⟩ M hM
          obtain ⟨hi, rfl⟩ := rgR_get hx
          refine ⟨trivial, ?_⟩
          wide_open with (sp_l_near, spNr)
          intro p a b hp1
          obtain ⟨gp, lt⟩ := near_gp hp1
          generalize p.1.den * p.2.1.den * p.2.2.den = Lp at gp lt
          refine forL_ix (fun j r S1 => ∃ z6 : Option R, S1 = [.lst [.int a, .int b], .lst (fsL gs), .lst (ptL (ps ++ (gs.take j).map fun g => rot f (rot g p)))] ∧ r = [some (.loc 0), some (.d (.int (0 + (i : Int)))), some (.d (.tup (f.map D.int))), some (.loc 1), some (.loc 2), some (.d (ptD p)), z6]) ?_ ?_ ⟨z6, by simp, rfl⟩
          · rintro j x hx r S1 ⟨z6, rfl, rfl⟩ M2 hM2
            rw [fsL, List.map_map, List.getElem?_map, Option.map_eq_some_iff] at hx
            obtain ⟨g, hg1, rfl⟩ := hx
            have hgm := List.mem_of_getElem? hg1
            obtain ⟨lg, zg, bg, ng⟩ := hg g hgm
            refine ⟨rfl, ?_⟩
            wide_open with (Function.comp, sp_l_turned, spTurn)
            have bq : ∀ {L : Nat} {q : Pt}, GP L 57 q → L < 2 ^ 57 → ∀ x ∈ qsOf q, BQ 1000 x := fun {L} {q} hq hl x hx => by
              refine ⟨(hq.num x hx).mono (by decide), Bd.mono (m := 57) (Bd.lit ?_) (by decide)⟩
              rw [Int.natAbs_natCast]
              exact Nat.lt_of_le_of_lt (Nat.le_of_dvd hq.1 (hq.2 x hx).1) hl
            have gb : ∀ x ∈ g, Bd 2 x := fun x hx => Bd.lit (by have := bg x hx; omega)
            have fb : ∀ x ∈ f, Bd 3 x := fun x hx => Bd.lit (by have := bf x hx; omega)
            have g2 : GP ((nrmI g).toNat * Lp) 51 (rot g p) := GP.rot lg zg gb gp
            have nl : (nrmI g).toNat * Lp < 2 ^ 57 := by
              have h1 : (nrmI g).toNat < 2 ^ 6 := by
                have := (nrmI_bd gb).lt
                omega
              have e := Nat.mul_lt_mul'' h1 lt
              exact Nat.lt_trans e (by decide)
            refine ⟨g, p, rfl, lg, zg, fun x hx => (gb x hx).mono (by decide), rfl, bq ⟨gp.1, fun x hx => ⟨(gp.2 x hx).1, ((gp.2 x hx).2).mono (by decide)⟩⟩ (Nat.lt_trans lt (by decide)), ?_⟩
            refine ⟨f, rot g p, rfl, lf, zf, fun x hx => (fb x hx).mono (by decide), rfl, bq ⟨g2.1, fun x hx => ⟨(g2.2 x hx).1, ((g2.2 x hx).2).mono (by decide)⟩⟩ nl, ?_⟩
            have jl : j < gs.length := (List.getElem?_eq_some_iff.1 hg1).1
            refine ⟨?_, _, _, Cut.refl, hM2 _ _ ⟨_, ?_, rfl⟩⟩
            · rw [List.length_map, List.length_append, List.length_map, List.length_take, pl]
              have : i * gs.length ≤ 2 * gs.length := Nat.mul_le_mul_right _ (by omega)
              omega
            · rw [List.take_succ, hg1]
              simp
          · rintro r S1 ⟨z6, rfl, rfl⟩
            refine ⟨rfl, ?_⟩
            rw [show gs.take (List.map R.d (fsL gs)).length = gs by rw [List.length_map, fsL, List.length_map, List.take_length]]
            refine ⟨_, _, Cut.refl, ?_⟩
            refine hM _ _ ⟨ps ++ gs.map fun g => rot f (rot g p), La * Lp, a, b, some (.d (.int (0 + (i : Int)))), some (.d (ptD p)), z6, ?_, Nat.mul_pos la (Nat.pos_of_ne_zero ?_), ?_, ?_, rfl, rfl⟩
            · rw [List.length_append, List.length_map, pl, Nat.succ_mul]
            · have := gp.1
              omega
            · have e := Nat.mul_lt_mul'' lb lt
              rw [← Nat.pow_add] at e
              exact Nat.lt_of_lt_of_le e (Nat.pow_le_pow_right (by decide) (by omega))
            · intro q hq
              rcases List.mem_append.1 hq with h1 | h1
              · have h2 := (hp q h1).up (c := Lp) (k := 18) gp.1 lt
                rw [Nat.mul_assoc, Nat.mul_assoc] at h2
                exact ⟨h2.1, fun x hx => ⟨(h2.2 x hx).1, ((h2.2 x hx).2).mono (by omega)⟩⟩
              · obtain ⟨g, hgm, rfl⟩ := List.mem_map.1 h1
                have h2 := (one p Lp gp g hgm).up (c := La) (k := 18 * i + 1) la lb
                rw [show (nrmI f).toNat * (4 * Lp) * La = (nrmI f).toNat * (4 * (La * Lp)) by simp only [Nat.mul_assoc, Nat.mul_comm La]] at h2
                exact ⟨h2.1, fun x hx => ⟨(h2.2 x hx).1, ((h2.2 x hx).2).mono (by omega)⟩⟩
        · rintro r S1 ⟨ps, La, a, b, z1, z5, z6, pl, la, lb, hp, rfl, rfl⟩
          rw [rgR_len] at pl lb hp
          refine ⟨trivial, ?_⟩
          refine hP _ _ ?_; clear hP
          wide_open with (if_true, if_true)
          have nt : (nrmI f).toNat ≤ 36 := by omega
          have big : (nrmI f).toNat * (4 * La) < 2 ^ 50 := by
            have h1 : La < 2 ^ 37 := Nat.lt_of_lt_of_le lb (Nat.pow_le_pow_right (by decide) (by omega))
            have h2 := Nat.mul_le_mul nt (Nat.le_of_lt (Nat.mul_lt_mul_of_pos_left h1 (show 0 < 4 by decide)))
            exact Nat.lt_of_le_of_lt h2 (by decide)
          refine h ps ((nrmI f).toNat * (4 * La)) a b ?_ ?_ (Nat.mul_pos (by omega) (by omega)) (Bd.lit (by rw [Int.natAbs_natCast]; exact big)) fun p hp1 => ⟨(hp p hp1).1, fun q hq => ⟨((hp p hp1).2 q hq).1, (((hp p hp1).2 q hq).2).mono (by omega)⟩⟩
          · rcases (show m = 1 ∨ m = 2 by omega) with rfl | rfl <;> omega
          · rcases (show m = 1 ∨ m = 2 by omega) with rfl | rfl <;> omega
      wide_open with (sp_l_draw, List.length_map)
      split
      · intro v a b v0 v1
        rcases (show v = 0 ∨ v = 1 by omega) with rfl | rfl
        · exact ⟨by decide, by decide, loop 1 _ _ (by decide) (by decide)⟩
        · exact ⟨by decide, by decide, loop 2 _ _ (by decide) (by decide)⟩
      · exact loop 1 _ _ (by decide) (by decide)
    have e0 : (v1 - 3 == 0 && (v2 - 3 == 0 && (v3 - 3 == 0 && v4 - 3 == 0))) = decide ([v1 - 3, v2 - 3, v3 - 3, v4 - 3] = [0, 0, 0, 0]) := by
      simp only [List.cons.injEq, and_true, Bool.decide_and]; rfl
    wide_open with (e0, if_true)
    by_cases hz : [v1 - 3, v2 - 3, v3 - 3, v4 - 3] = [0, 0, 0, 0]
    · wide_open with (decide_eq_true hz, if_true)
      exact go [1, 0, 0, 0] _ _ rfl ⟨1, by simp, by decide⟩ (by decide)
    · wide_open with (decide_eq_false hz, if_true)
      exact go [v1 - 3, v2 - 3, v3 - 3, v4 - 3] _ _ rfl (nz_four rfl hz) (by simp only [List.mem_cons, List.not_mem_nil, or_false, forall_eq_or_imp, forall_eq]; omega)
  · exact h.elim
/-- slots: 0 _law_points_here, 1 _law_one, 2 _law_other -/
def w_l_two : PS1 :=
  (wSeq (wFor (wIt (wVar 0)) (fNm 1) (wFor (wIt (wVar 0)) (fNm 2) (wIf (wTest (wBin pNe (wCall sp_l_upright 2 (wCons (wVar 1) (wCons (wVar 2) wNil))) (wTup (wCons (wTup (wCons (wC (.int 0)) (wCons (wC (.int 1)) wNil))) (wCons (wTup (wCons (wC (.int 0)) (wCons (wC (.int 1)) wNil))) (wCons (wTup (wCons (wC (.int 0)) (wCons (wC (.int 1)) wNil))) wNil)))))) (wRet (wTup (wCons (wVar 1) (wCons (wVar 2) wNil)))) wNext)))
  (wRet (wC .non)))
def sp_l_two : SpZ := fun rs S W => match rs, S with
  | [.loc 0], [.lst xs] => ∃ (us : List Pt) (n : Nat), xs = ptL us ∧ (∀ p ∈ us, ∀ z ∈ qsOf p, BQ n z) ∧ 4 * n ≤ 9000 ∧ ((∀ p ∈ us, ∀ r ∈ us, xP p r = (0, 0, 0)) → W (.d .non) [.lst xs]) ∧ ∀ p ∈ us, ∀ r ∈ us, xP p r ≠ (0, 0, 0) → W (.d (.tup [ptD p, ptD r])) [.lst xs]
  | _, _ => False
theorem rd_l_two : ∀ rs S W, rs.length = 1 → sp_l_two rs S W → w_l_two { nx := fun _ S1 => retN S.length W (.d .non) S1, rt := retN S.length W } (start1 3 rs) S := by
  intro rs S W _ h
  unfold sp_l_two at h
  split at h
  · obtain ⟨us, n, rfl, hb, hn, h0, h1⟩ := h
    have z3 : (py (ptD (0, 0, 0))) = PyData.tuple [.tuple [.int 0, .int 1], .tuple [.int 0, .int 1], .tuple [.int 0, .int 1]] := rfl
    have enc : (ptL us).map R.d = us.map fun p => R.d (ptD p) := by simp [ptL]
    unfold w_l_two
    refine seqI fun P hP => ?_
    wide_open with (if_true, if_true)
    rw [enc]
    refine forL_ix (fun i r S1 => S1 = [.lst (ptL us)] ∧ (∀ p ∈ us.take i, ∀ r ∈ us, xP p r = (0, 0, 0)) ∧ ∃ z1 z2 : Option R, r = [some (.loc 0), z1, z2]) ?_ ?_ ⟨rfl, by simp, _, _, rfl⟩
    · rintro i x hx r S1 ⟨rfl, k, z1, z2, rfl⟩ M hM
      obtain ⟨p, hp, rfl⟩ := item_enc hx
      have pm := mem_of_at hp
      refine ⟨rfl, ?_⟩
      wide_open with (if_true, if_true)
      rw [enc]
      refine forL_ix (fun j r S1 => S1 = [.lst (ptL us)] ∧ (∀ r ∈ us.take j, xP p r = (0, 0, 0)) ∧ ∃ z2 : Option R, r = [some (.loc 0), some (.d (ptD p)), z2]) ?_ ?_ ⟨rfl, by simp, _, rfl⟩
      · rintro j x hx r S1 ⟨rfl, k2, z2, rfl⟩ M2 hM2
        obtain ⟨r, hr, rfl⟩ := item_enc hx
        have rm := mem_of_at hr
        refine ⟨rfl, ?_⟩
        wide_open with (sp_l_upright, if_true)
        refine ⟨p, r, n, rfl, rfl, hb p pm, hb r rm, hn, ?_⟩
        wide_open with (if_true, if_true)
        rw [← z3, eqv_pt]
        refine ⟨by omega, ?_⟩
        by_cases e : xP p r = (0, 0, 0)
        · rw [decide_eq_true e, if_neg (by decide)]
          refine ⟨_, _, Cut.refl, hM2 _ _ ⟨rfl, fun q hq => ?_, _, rfl⟩⟩
          rcases mem_take_one hr hq with hq | rfl
          · exact k2 q hq
          · exact e
        · rw [decide_eq_false e, if_pos (by decide)]
          exact h1 p pm r rm e
      · rintro r S1 ⟨rfl, k2, z2, rfl⟩
        refine ⟨rfl, _, _, Cut.refl, hM _ _ ⟨rfl, fun q hq => ?_, _, _, rfl⟩⟩
        rcases mem_take_one hp hq with hq | rfl
        · exact k q hq
        · exact fun r hr => k2 r (by rw [List.length_map, List.take_length]; exact hr)
    · rintro r S1 ⟨rfl, k, z1, z2, rfl⟩
      refine ⟨rfl, ?_⟩
      show P _ _
      refine hP _ _ ?_; clear hP
      wide_open with (if_true, if_true)
      exact h0 fun p hp => k p (by rw [List.length_map, List.take_length]; exact hp)
  · exact h.elim
/-- slots: 0 _law_points_here, 1 _law_one, 2 _law_other, 3 _law_ways, 4 _law_point, 5 _law_way -/
def w_l_marks : PS1 :=
  (wSeq (wSet 3 (wLst (wCons (wVar 1) (wCons (wVar 2) (wCons (wCall sp_l_upright 2 (wCons (wVar 1) (wCons (wVar 2) wNil))) wNil)))))
  (wRet (wFn fSorted (wCons (wLc (wIt (wVar 0)) (fNm 4) wYes (wFn fTup (wCons (wLc (wIt (wVar 3)) (fNm 5) wYes (wCall sp_l_product_of 2 (wCons (wVar 4) (wCons (wVar 5) wNil))) [5]) wNil)) [4]) wNil))))
def sp_l_marks : SpZ := fun rs S W => match rs, S with
  | [.loc 0, .d x, .d y], [.lst xs] => ∃ (us : List Pt) (a b : Pt) (n : Nat), xs = ptL us ∧ x = ptD a ∧ y = ptD b ∧ us.length ≤ 100 ∧ (∀ p ∈ us, ∀ z ∈ qsOf p, BQ n z) ∧ (∀ z ∈ qsOf a, BQ n z) ∧ (∀ z ∈ qsOf b, BQ n z) ∧ 15 * n ≤ 8000 ∧ W (.loc 1) [.lst xs, .lst (srtD (ptL (us.map fun p => (dP p a, dP p b, dP p (xP a b)))))]
  | _, _ => False
theorem rd_l_marks : ∀ rs S W, rs.length = 3 → sp_l_marks rs S W → w_l_marks { nx := fun _ S1 => retN S.length W (.d .non) S1, rt := retN S.length W } (start1 6 rs) S := by
  intro rs S W _ h
  unfold sp_l_marks at h
  split at h
  · obtain ⟨us, a, b, n, rfl, rfl, rfl, ul, hu, ha, hb, hn, h⟩ := h
    have bx : ∀ z ∈ qsOf (xP a b), BQ (4 * n + 1) z := fun z hz => by
      have m : ∀ {p q r s : Rat}, p ∈ qsOf a → q ∈ qsOf b → r ∈ qsOf a → s ∈ qsOf b → BQ (4 * n + 1) (p * q - r * s) := fun hp hq hr hs => (((ha _ hp).mul (hb _ hq)).sub ((ha _ hr).mul (hb _ hs))).mono (by omega)
      simp only [qsOf, xP, List.mem_cons, List.not_mem_nil, or_false] at hz
      rcases hz with rfl | rfl | rfl <;> exact m (by simp [qsOf]) (by simp [qsOf]) (by simp [qsOf]) (by simp [qsOf])
    unfold w_l_marks
    refine seqI fun P hP => ?_
    wide_open with (sp_l_upright, if_true)
    refine ⟨a, b, n, rfl, rfl, ha, hb, by omega, ?_⟩
    wide_open with (if_true, if_true)
    refine hP _ _ ?_; clear hP
    wide_open with (if_true, if_true)
    refine ⟨by simp [ptL]; omega, lcL_mapD (g := ptD) (fun p => ptD (dP p a, dP p b, dP p (xP a b))) rfl rfl (fun p hp => ⟨_, rfl, fun W1 h => h, fun W1 h => ?_⟩) ?_⟩
    · have hp' := hu p hp
      wide_open with (lcL, sp_l_product_of)
      refine ⟨p, a, n, n, rfl, rfl, hp', ha, by omega, p, b, n, n, rfl, rfl, hp', hb, by omega, p, xP a b, n, 4 * n + 1, rfl, rfl, hp', bx, by omega, ?_⟩
      exact h
    · have em : us.map (fun p => ptD (dP p a, dP p b, dP p (xP a b))) = ptL (us.map fun p => (dP p a, dP p b, dP p (xP a b))) := by simp [ptL]
      rw [em]
      obtain ⟨⟨s1, s2⟩, s3⟩ := pt_sort (us.map fun p => (dP p a, dP p b, dP p (xP a b)))
      wide_open with (if_true, if_true)
      exact ⟨⟨s1, s2, s3⟩, h⟩
  · exact h.elim
/-- slots: 0 _law_one, 1 _law_other -/
def w_l_sizes : PS1 :=
  (wRet (wLst (wCons (wCall sp_l_product_of 2 (wCons (wVar 0) (wCons (wVar 0) wNil))) (wCons (wCall sp_l_product_of 2 (wCons (wVar 0) (wCons (wVar 1) wNil))) (wCons (wCall sp_l_product_of 2 (wCons (wVar 1) (wCons (wVar 1) wNil))) wNil)))))
def sp_l_sizes : SpZ := fun rs S W => match rs, S with
  | [.d x, .d y], [] => ∃ (p q : Pt) (n : Nat), x = ptD p ∧ y = ptD q ∧ (∀ z ∈ qsOf p, BQ n z) ∧ (∀ z ∈ qsOf q, BQ n z) ∧ 6 * n ≤ 8900 ∧ W (.loc 0) [.lst [frD (dP p p), frD (dP p q), frD (dP q q)]]
  | _, _ => False
theorem rd_l_sizes : ∀ rs S W, rs.length = 2 → sp_l_sizes rs S W → w_l_sizes { nx := fun _ S1 => retN S.length W (.d .non) S1, rt := retN S.length W } (start1 2 rs) S := by
  intro rs S W _ h
  unfold sp_l_sizes at h
  split at h
  · obtain ⟨p, q, n, rfl, rfl, hp, hq, hn, h⟩ := h
    wide_open with (w_l_sizes, sp_l_product_of)
    refine ⟨p, p, n, n, rfl, rfl, hp, hp, by omega, p, q, n, n, rfl, rfl, hp, hq, by omega, q, q, n, n, rfl, rfl, hq, hq, by omega, ?_⟩
    exact h
  · exact h.elim
/-- slots: 0 one, 1 other -/
def w_then : PS1 :=
  (wRet (wCall sp_plain 1 (wCons (wCall sp_product 2 (wCons (wVar 1) (wCons (wVar 0) wNil))) wNil)))
def sp_then : SpZ := spThen
theorem rd_then : ∀ rs S W, rs.length = 2 → sp_then rs S W → w_then { nx := fun _ S1 => retN S.length W (.d .non) S1, rt := retN S.length W } (start1 2 rs) S := by
  intro rs S W _ h
  unfold sp_then spThen at h
  split at h
  · obtain ⟨a, b, rfl, rfl, ha, hb, za, zb, h1, h2, h⟩ := h
    wide_open with (w_then, sp_product, spProd, sp_plain, spPln)
    refine ⟨b, a, rfl, rfl, hb, ha, fun x hx => (h2 x hx).mono (by decide), fun x hx => (h1 x hx).mono (by decide), qmul b a, rfl, qmul_nz hb ha zb za, fun x hx => (qmul_bd h2 h1 x hx).mono (by decide), by rw [qmul_len hb ha]; decide, h⟩
  · exact h.elim
/-- slots: 0 one, 1 other, 2 both, 3 side, 4 first -/
def w_led : PS1 :=
  (wSeq (wSet 2 (wBin pMulI (wCall sp_size_of 1 (wCons (wVar 0) wNil)) (wCall sp_size_of 1 (wCons (wVar 1) wNil))))
  (wSeq (wSet 3 (wCall sp_side_of 1 (wCons (wVar 2) wNil)))
  (wSeq (wIf (wTest (wBin (pIsN false) (wVar 3) (wC .non))) (wRet (wTup (wCons (wC (.str (PySem.Str.ofString "none"))) (wCons (wVar 2) wNil)))) wNext)
  (wSeq (wSet 4 (wBin pAddI (wVar 3) (wCall sp_product_of 2 (wCons (wVar 0) (wCons (wVar 1) wNil)))))
  (wSeq (wIf (wTest (wBin pEq (wVar 4) (wC (.int 0)))) (wRet (wTup (wCons (wC (.str (PySem.Str.ofString "led"))) (wCons (wCall sp_plain 1 (wCons (wBin pAddI (wTup (wCons (wC (.int 0)) wNil)) (wCall sp_upright_to 1 (wCons (wVar 0) wNil))) wNil)) wNil)))) wNext)
  (wRet (wTup (wCons (wC (.str (PySem.Str.ofString "led"))) (wCons (wCall sp_plain 1 (wCons (wBin pAddI (wTup (wCons (wVar 4) wNil)) (wCall sp_upright_to_both 2 (wCons (wVar 0) (wCons (wVar 1) wNil)))) wNil)) wNil)))))))))
def sp_led : SpZ := spLed
theorem rd_led : ∀ rs S W, rs.length = 2 → sp_led rs S W → w_led { nx := fun _ S1 => retN S.length W (.d .non) S1, rt := retN S.length W } (start1 5 rs) S := by
  intro rs S W _ h
  unfold sp_led spLed at h
  split at h
  · obtain ⟨a, b, rfl, rfl, la, lb, za, zb, ba, bb, h1, h2⟩ := h
    have A := dt_pos la za
    have B := dt_pos lb zb
    have bA := dt_bd ba ba
    have bB := dt_bd bb bb
    have ba6 : ∀ x ∈ a, Bd 60000000 x := fun x hx => (ba x hx).mono (by decide)
    have bb6 : ∀ x ∈ b, Bd 60000000 x := fun x hx => (bb x hx).mono (by decide)
    unfold w_led
    refine seqI fun P hP => ?_
    wide_open with (sp_size_of, if_true)
    refine ⟨a, rfl, la, ba6, b, rfl, lb, bb6, mulOk bA bB (by decide), ?_⟩
    refine hP _ _ ?_; clear hP
    refine seqI fun P hP => ?_
    wide_open with (sp_side_of, spSide)
    refine ⟨Int.le_of_lt (Int.mul_pos A B), (bA.mul bB).mono (by decide), fun s hs => ?_, fun hn => ?_⟩
    · refine hP _ _ ?_; clear hP
      refine seqI fun P hP => ?_
      wide_open with (isNon, if_true)
      refine hP _ _ ?_; clear hP
      have sb : Bd (3500 + 3500 + 2) (s : Int) := root_bd ba bb hs
      refine seqI fun P hP => ?_
      wide_open with (sp_product_of, spDt)
      refine ⟨a, b, rfl, rfl, la, lb, ba6, bb6, ?_⟩
      refine hP _ _ ?_; clear hP
      have k := h1 s hs
      have rl := ledR_len la lb (s : Int)
      have rz := ledR_nz a b (s : Int)
      have rb := ledR_bd la ba bb sb
      unfold ledF at k
      have l1 : ((upr a).map D.int).length = 3 := by rw [List.length_map, upr_len]
      have l2 : ((crs a b).map D.int).length = 3 := by rw [List.length_map, crs_len la lb]
      refine seqI fun P hP => ?_
      wide_open with (if_true, if_true)
      by_cases h0 : (s : Int) + dt a b = 0
      · have e : ledR a b (s : Int) = 0 :: upr a := by unfold ledR; rw [if_pos h0]
        have e0 : ((s : Int) + dt a b == 0) = true := by simpa using h0
        wide_open with (e0, sp_upright_to)
        refine ⟨a, rfl, la, by omega, ?_⟩
        wide_open with (sp_plain, spPln)
        refine ⟨ledR a b (s : Int), by rw [e]; rfl, rz, fun x hx => (rb x hx).mono (by decide), by rw [rl]; decide, k⟩
      · have e : ledR a b (s : Int) = ((s : Int) + dt a b) :: crs a b := by unfold ledR; rw [if_neg h0]
        have e0 : ((s : Int) + dt a b == 0) = false := by simpa using h0
        wide_open with (e0, if_true)
        refine hP _ _ ?_; clear hP
        wide_open with (sp_upright_to_both, spCrs)
        refine ⟨a, b, rfl, rfl, la, lb, ba6, bb6, by omega, ?_⟩
        wide_open with (sp_plain, spPln)
        refine ⟨ledR a b (s : Int), by rw [e]; rfl, rz, fun x hx => (rb x hx).mono (by decide), by rw [rl]; decide, k⟩
    · refine hP _ _ ?_; clear hP
      refine seqI fun P hP => ?_
      wide_open with (isNon, if_true)
      exact h2 hn
  · exact h.elim
/-- slots: 0 _law_purse_here, 1 _law_kind, 2 _law_many, 3 _law_k, 4 _law_by, 5 _law_found, 6 _law_far, 7 _law_j, 8 _law_top, 9 _law_bottom -/
def w_l_points : PS1 :=
  (wSeq (wSet 1 (wCall sp_l_draw 2 (wCons (wVar 0) (wCons (wC (.int 5)) wNil))))
  (wSeq (wIf (wTest (wBin pLt (wVar 1) (wC (.int 3)))) (wRet (wCall sp_l_kept_points 1 (wCons (wVar 0) wNil))) wNext)
  (wSeq (wIf (wTest (wBin pEq (wVar 1) (wC (.int 3)))) (wSeq (wSet 2 (wBin pAddI (wC (.int 1)) (wCall sp_l_draw 2 (wCons (wVar 0) (wCons (wC (.int 5)) wNil)))))
  (wRet (wLc (wRng1 (wCons (wVar 2) wNil)) (fNm 3) wYes (wFn fTup (wCons (wLc (wRng1 (wCons (wC (.int 3)) wNil)) (fNm 7) wYes (wTup (wCons (wBin pSub (wCall sp_l_draw 2 (wCons (wVar 0) (wCons (wC (.int 3)) wNil))) (wC (.int 1))) (wCons (wC (.int 1)) wNil))) [7]) wNil)) [3]))) wNext)
  (wSeq (wSet 4 (wCall sp_l_near 1 (wCons (wVar 0) wNil)))
  (wSeq (wSet 5 (wLst wNil))
  (wSeq (wFor (wRng1 (wCons (wBin pAddI (wC (.int 1)) (wCall sp_l_draw 2 (wCons (wVar 0) (wCons (wC (.int 4)) wNil)))) wNil)) (fNm 3) (wSeq (wSet 6 (wBin pSub (wCall sp_l_draw 2 (wCons (wVar 0) (wCons (wC (.int 7)) wNil))) (wC (.int 3))))
  (wDrop (wApp (wVar 5) (wFn fTup (wCons (wLc (wIt (wVar 4)) (fTp 2 (fCons (fNm 8) (fCons (fNm 9) fNil))) wYes (wCall sp_l_made 2 (wCons (wBin pMulI (wVar 8) (wVar 6)) (wCons (wVar 9) wNil))) [8, 9]) wNil))))))
  (wRet (wVar 5))))))))
def sp_l_points : SpZ := spPts39
theorem rd_l_points : ∀ rs S W, rs.length = 1 → sp_l_points rs S W → w_l_points { nx := fun _ S1 => retN S.length W (.d .non) S1, rt := retN S.length W } (start1 10 rs) S := by
  intro rs S W _ h
  unfold sp_l_points spPts39 at h
  split at h
  · rename_i a0 b0 _
    unfold w_l_points
    refine seqI fun P hP => ?_
    wide_open with (sp_l_draw, if_true)
    intro v a b v0 v5
    refine hP _ _ ?_; clear hP
    refine seqI fun P hP => ?_
    wide_open with (if_true, if_true)
    by_cases h3 : v < 3
    · wide_open with (decide_eq_true h3, sp_l_kept_points, spPts39)
      exact h
    wide_open with (decide_eq_false h3, if_true)
    refine hP _ _ ?_; clear hP
    refine seqI fun P hP => ?_
    wide_open with (if_true, if_true)
    have e3' : (v == 3) = decide (v = 3) := rfl
    by_cases e3 : v = 3
    · wide_open with (e3', decide_eq_true e3, sp_l_draw)
      intro n a b n0 n5
      refine ⟨by omega, by omega, ?_, ?_⟩
      · rw [rgR_len]
        omega
      refine lcL_inv (k := 1) (fun S => ∃ a b : Int, S = [.lst [.int a, .int b]]) (fun d => ∃ p : Pt, d = ptD p ∧ GP 1 100 p) (by rintro _ ⟨a, b, rfl⟩; rfl) (fun _ _ => trivial) ?_ ⟨a, b, rfl⟩ ?_
      · rintro x hx S1 ⟨a, b, rfl⟩
        obtain ⟨i, hi⟩ := List.getElem?_of_mem hx
        obtain ⟨_, rfl⟩ := rgR_get hi
        refine ⟨_, rfl, fun W1 h1 => h1, fun W1 h1 => ?_⟩
        wide_open with (if_true, if_true)
        refine ⟨by rw [rgR_len]; decide, ?_⟩
        refine lcL_inv (k := 1) (fun S => ∃ a b : Int, S = [.lst [.int a, .int b]]) (fun d => ∃ k : Int, d = .tup [.int k, .int 1] ∧ k.natAbs ≤ 1) (by rintro _ ⟨a, b, rfl⟩; rfl) (fun _ _ => trivial) ?_ ⟨a, b, rfl⟩ ?_
        · rintro x hx S1 ⟨a, b, rfl⟩
          obtain ⟨j, hj⟩ := List.getElem?_of_mem hx
          obtain ⟨_, rfl⟩ := rgR_get hj
          refine ⟨_, rfl, fun W1 h1 => h1, fun W1 h1 => ?_⟩
          wide_open with (sp_l_draw, if_true)
          intro k a b k0 k3
          exact h1 _ _ ⟨k - 1, rfl, by omega⟩ ⟨a, b, rfl⟩
        · rintro ds S1 dl dg ⟨a, b, rfl⟩
          rw [rgR_len] at dl
          obtain ⟨d1, d2, d3, rfl⟩ : ∃ d1 d2 d3, ds = [d1, d2, d3] := by
            match ds, dl with
            | [d1, d2, d3], _ => exact ⟨d1, d2, d3, rfl⟩
          obtain ⟨k1, rfl, b1⟩ := dg d1 (by simp)
          obtain ⟨k2, rfl, b2⟩ := dg d2 (by simp)
          obtain ⟨k3, rfl, b3⟩ := dg d3 (by simp)
          have ok : ∀ k : Int, k.natAbs ≤ 1 → (k : Rat).den ∣ 1 ∧ Bd 100 (topOf 1 (k : Rat)) := fun k hk => by
            refine ⟨by rw [Rat.den_intCast]; exact Nat.dvd_refl 1, Bd.lit ?_⟩
            unfold topOf
            rw [Rat.den_intCast, Rat.num_intCast, Nat.div_self (by decide), Int.natCast_one, Int.mul_one]
            omega
          refine h1 _ _ ⟨((k1 : Rat), (k2 : Rat), (k3 : Rat)), rfl, by decide, fun x hx => ?_⟩ ⟨a, b, rfl⟩
          simp only [qsOf, List.mem_cons, List.not_mem_nil, or_false] at hx
          rcases hx with rfl | rfl | rfl
          · exact ok k1 b1
          · exact ok k2 b2
          · exact ok k3 b3
      · rintro ds S1 dl dg ⟨a, b, rfl⟩
        rw [rgR_len] at dl
        have un : ∀ ds : List D, (∀ d ∈ ds, ∃ p : Pt, d = ptD p ∧ GP 1 100 p) → ∃ ps : List Pt, ds = ptL ps ∧ ∀ p ∈ ps, GP 1 100 p := by
          intro ds
          induction ds with
          | nil => exact fun _ => ⟨[], rfl, by simp⟩
          | cons d ds ih =>
            intro hh
            obtain ⟨p, rfl, hp⟩ := hh d (by simp)
            obtain ⟨ps, rfl, hps⟩ := ih fun d hd => hh d (by simp [hd])
            exact ⟨p :: ps, rfl, fun q hq => by rcases List.mem_cons.1 hq with rfl | h1; exact hp; exact hps q h1⟩
        obtain ⟨ps, rfl, hps⟩ := un ds dg
        wide_open with (if_true, if_true)
        simp only [ptL, List.length_map] at dl
        exact h ps 1 a b (by omega) (by omega) (by decide) (Bd.lit (by decide)) hps
    wide_open with (e3', decide_eq_false e3)
    refine hP _ _ ?_; clear hP
    refine seqI fun P hP => ?_
    wide_open with (sp_l_near, spNr)
    intro p a b hp
    obtain ⟨gp, lt⟩ := near_gp hp
    refine hP _ _ ?_; clear hP
    refine seqI fun P hP => ?_
    wide_open with (if_true, if_true)
    refine hP _ _ ?_; clear hP
    refine seqI fun P hP => ?_
    wide_open with (sp_l_draw, if_true)
    intro n a b n0 n4
    refine ⟨by omega, by omega, ?_⟩
    generalize hL : p.1.den * p.2.1.den * p.2.2.den = Lp at gp lt
    refine forL_ix (fun i r S1 => ∃ (ps : List Pt) (a b : Int) (z3 z6 : Option R), ps.length = i ∧ (∀ q ∈ ps, GP Lp 100 q) ∧ S1 = [.lst [.int a, .int b], .lst (ptL ps)] ∧ r = [some (.loc 0), some (.d (.int v)), none, z3, some (.d (ptD p)), some (.loc 1), z6, none, none, none]) ?_ ?_ ⟨[], a, b, none, none, rfl, by simp, rfl, rfl⟩
    · rintro i x hx r S1 ⟨ps, a, b, z3, z6, pl, hq, rfl, rfl⟩ M hM
      obtain ⟨hi, rfl⟩ := rgR_get hx
      refine ⟨trivial, ?_⟩
      wide_open with (sp_l_draw, if_true)
      intro c a b c0 c7
      have bc : Bd 3 (c - 3) := Bd.lit (by omega)
      rw [show ptD p = .tup [frD p.1, frD p.2.1, frD p.2.2] from rfl]
      wide_open with (if_true, if_true)
      refine lcL_enc (xs := [p.1, p.2.1, p.2.2]) (fun q => R.d (frD q)) (fun q => frD (q * ((c - 3 : Int) : Rat))) rfl trivial ?_ ?_
      · intro q hq
        refine ⟨_, rfl, fun W1 h1 => h1, fun W1 h1 => ?_⟩
        have nq := hp q (by simpa [qsOf] using hq)
        wide_open with (sp_l_made, if_true)
        have d0 := q.den_pos
        refine ⟨mulOk nq.1 bc (by decide), by omega, nq.2.mono (by decide), ?_⟩
        have e : ((q.num * (c - 3) : Int) : Rat) / ((q.den : Int) : Rat) = q * ((c - 3 : Int) : Rat) := by
          rw [Rat.intCast_mul, Rat.div_def, Rat.mul_assoc, Rat.mul_comm ((c - 3 : Int) : Rat), ← Rat.mul_assoc, ← Rat.div_def, show ((q.num : Rat) / ((q.den : Int) : Rat)) = q by rw [← Rat.divInt_eq_div]; exact Rat.num_divInt_den q]
        rw [e]
        exact h1
      · wide_open with (if_true, if_true)
        refine ⟨by rw [List.length_map]; omega, _, _, Cut.refl, hM _ _ ⟨ps ++ [(p.1 * ((c - 3 : Int) : Rat), p.2.1 * ((c - 3 : Int) : Rat), p.2.2 * ((c - 3 : Int) : Rat))], a, b, _, _, by simp [pl], ?_, by simp [ptD], rfl⟩⟩
        intro z hz
        rcases List.mem_append.1 hz with h1 | h1
        · exact hq z h1
        rw [List.mem_singleton] at h1
        subst h1
        have sc : ∀ x : Rat, x ∈ qsOf p → (x * ((c - 3 : Int) : Rat)).den ∣ Lp ∧ Bd 100 (topOf Lp (x * ((c - 3 : Int) : Rat))) := fun x hx => by
          obtain ⟨g1, g2⟩ := gp.2 x hx
          have dd : (x * ((c - 3 : Int) : Rat)).den ∣ Lp := by
            refine Nat.dvd_trans ?_ g1
            rw [Rat.den_mul, Rat.den_intCast, Nat.mul_one]
            exact Nat.div_dvd_of_dvd (Nat.gcd_dvd_right _ _)
          refine ⟨dd, ?_⟩
          have e : topOf Lp (x * ((c - 3 : Int) : Rat)) = topOf Lp x * (c - 3) := by
            have h1 := topOf_eq gp.1 dd
            have h2 := topOf_eq gp.1 g1
            have : ((topOf Lp (x * ((c - 3 : Int) : Rat)) : Int) : Rat) = ((topOf Lp x * (c - 3) : Int) : Rat) := by
              rw [h1, Rat.intCast_mul, h2]
              rw [Rat.mul_assoc, Rat.mul_assoc, Rat.mul_comm (Lp : Rat)]
            exact Rat.intCast_inj.1 this
          rw [e]
          exact (g2.mul bc).mono (by decide)
        refine ⟨gp.1, fun x hx => ?_⟩
        simp only [qsOf, List.mem_cons, List.not_mem_nil, or_false] at hx
        rcases hx with rfl | rfl | rfl <;> exact sc _ (by simp [qsOf])
    · rintro r S1 ⟨ps, a, b, z3, z6, pl, hq, rfl, rfl⟩
      rw [rgR_len] at pl
      refine ⟨trivial, ?_⟩
      refine hP _ _ ?_; clear hP
      wide_open with (if_true, if_true)
      refine h ps Lp a b (by omega) (by omega) gp.1 (Bd.lit ?_) hq
      rw [Int.natAbs_natCast]
      exact Nat.lt_trans lt (by decide)
  · exact h.elim
/-- slots: 0 _law_points_here, 1 _law_two_here, 2 _law_due, 3 _law_sizes_here, 4 _law_many, 5 _law_one, 6 _law_other -/
def w_l_count : PS1 :=
  (wSeq (wSet 2 (wCall sp_l_marks 3 (wCons (wVar 0) (wCons (wBin pIx (wVar 1) (wC (.int 0))) (wCons (wBin pIx (wVar 1) (wC (.int 1))) wNil)))))
  (wSeq (wSet 3 (wCall sp_l_sizes 2 (wCons (wBin pIx (wVar 1) (wC (.int 0))) (wCons (wBin pIx (wVar 1) (wC (.int 1))) wNil))))
  (wSeq (wSet 4 (wC (.int 0)))
  (wSeq (wFor (wIt (wVar 0)) (fNm 5) (wFor (wIt (wVar 0)) (fNm 6) (wIf (wAndT (wTest (wBin pEq (wCall sp_l_sizes 2 (wCons (wVar 5) (wCons (wVar 6) wNil))) (wVar 3))) (wTest (wBin pEq (wCall sp_l_marks 3 (wCons (wVar 0) (wCons (wVar 5) (wCons (wVar 6) wNil)))) (wVar 2)))) (wSet 4 (wBin pAddI (wVar 4) (wC (.int 1)))) wNext)))
  (wRet (wVar 4))))))
def sp_l_count : SpZ := fun rs S W => match rs, S with
  | [.loc 0, .d x], [.lst xs] => ∃ (us : List Pt) (a b : Pt) (n : Nat), xs = ptL us ∧ x = .tup [ptD a, ptD b] ∧ a ∈ us ∧ b ∈ us ∧ us.length ≤ 100 ∧ (∀ p ∈ us, ∀ z ∈ qsOf p, BQ n z) ∧ 15 * n ≤ 8000 ∧ W (.d (.int (((prP us).filter (goodP us a b)).length : Nat))) [.lst xs]
  | _, _ => False
theorem rd_l_count : ∀ rs S W, rs.length = 2 → sp_l_count rs S W → w_l_count { nx := fun _ S1 => retN S.length W (.d .non) S1, rt := retN S.length W } (start1 7 rs) S := by
  intro rs S W _ h
  unfold sp_l_count at h
  split at h
  · obtain ⟨us, a, b, n, rfl, rfl, am, bm, ul, hu, hn, h⟩ := h
    unfold w_l_count
    refine seqI fun P hP => ?_
    wide_open with (sp_l_marks, if_true)
    refine ⟨us, a, b, n, rfl, rfl, rfl, ul, hu, hu a am, hu b bm, hn, ?_⟩
    wide_open with (if_true, if_true)
    refine hP _ _ ?_; clear hP
    refine seqI fun P hP => ?_
    wide_open with (sp_l_sizes, if_true)
    refine ⟨a, b, n, rfl, rfl, hu a am, hu b bm, by omega, ?_⟩
    wide_open with (if_true, if_true)
    refine hP _ _ ?_; clear hP
    refine seqI fun P hP => ?_
    wide_open with (if_true, if_true)
    refine hP _ _ ?_; clear hP
    refine seqI fun P hP => ?_
    wide_open with (if_true, if_true)
    have enc : (ptL us).map R.d = us.map fun p => R.d (ptD p) := by simp [ptL]
    rw [enc]
    refine forL_ix (fun i r S1 => S1 = [.lst (ptL us), .lst (srtD (ptL (mk3 us a b))), .lst [frD (dP a a), frD (dP a b), frD (dP b b)]] ∧ ∃ z5 z6 : Option R, r = [some (.loc 0), some (.d (.tup [ptD a, ptD b])), some (.loc 1), some (.loc 2), some (.d (.int ((((prT us i).filter (goodP us a b)).length : Nat) : Int))), z5, z6]) ?_ ?_ ⟨rfl, _, _, rfl⟩
    · rintro i x hx r S1 ⟨rfl, z5, z6, rfl⟩ M hM
      obtain ⟨c, hc, rfl⟩ := item_enc hx
      have cm := mem_of_at hc
      refine ⟨rfl, ?_⟩
      wide_open with (if_true, if_true)
      rw [enc]
      refine forL_ix (fun j r S1 => S1 = [.lst (ptL us), .lst (srtD (ptL (mk3 us a b))), .lst [frD (dP a a), frD (dP a b), frD (dP b b)]] ∧ ∃ z6 : Option R, r = [some (.loc 0), some (.d (.tup [ptD a, ptD b])), some (.loc 1), some (.loc 2), some (.d (.int ((((prT us i ++ (us.take j).map fun d => (c, d)).filter (goodP us a b)).length : Nat) : Int))), some (.d (ptD c)), z6]) ?_ ?_ ⟨rfl, z6, by simp⟩
      · rintro j x hx r S1 ⟨rfl, z6, rfl⟩ M2 hM2
        obtain ⟨d, hd, rfl⟩ := item_enc hx
        have dm := mem_of_at hd
        refine ⟨rfl, ?_⟩
        have more : (prT us i ++ (us.take (j + 1)).map fun d => (c, d)).filter (goodP us a b) = (prT us i ++ (us.take j).map fun d => (c, d)).filter (goodP us a b) ++ [(c, d)].filter (goodP us a b) := by
          rw [List.take_add_one, hd, ← List.filter_append]; simp
        wide_open with (sp_l_sizes, if_true)
        refine ⟨c, d, n, rfl, rfl, hu c cm, hu d dm, by omega, ?_⟩
        wide_open with (if_true, if_true)
        have dep : ∀ z : Rat, (py (frD z)).depth ≤ 1 := fun z => by simp [frD, py, pys, PyData.depth, PyData.depthAll]
        have q1 := dep (dP c c)
        have q2 := dep (dP c d)
        have q3 := dep (dP d d)
        rw [eqv_fr, eqv_fr, eqv_fr]
        refine ⟨by omega, ?_⟩
        by_cases e : [dP c c, dP c d, dP d d] = [dP a a, dP a b, dP b b]
        · have e' := e
          simp only [List.cons.injEq, and_true] at e'
          obtain ⟨f1, f2, f3⟩ := e'
          rw [if_pos (by simp [f1, f2, f3])]
          refine ⟨us, c, d, n, rfl, rfl, rfl, ul, hu, hu c cm, hu d dm, hn, ?_⟩
          have em : (us.map fun p => (dP p c, dP p d, dP p (xP c d))) = mk3 us c d := rfl
          rw [em]
          have d1 := depth_pts (mk3 us c d)
          wide_open with (marks_eq, if_true)
          refine ⟨by omega, ?_⟩
          by_cases pm : (mk3 us c d).isPerm (mk3 us a b) = true
          · have g : goodP us a b (c, d) = true := by unfold goodP; rw [decide_eq_true e, pm]; rfl
            rw [if_pos pm]
            refine ⟨_, _, Cut.to (n := 3) (by decide) (by simp), hM2 _ _ ⟨rfl, some (.d (ptD d)), ?_⟩⟩
            have fe : [(c, d)].filter (goodP us a b) = [(c, d)] := by simp [g]
            rw [more, fe, List.length_append]
            rfl
          · have g : goodP us a b (c, d) = false := by unfold goodP; rw [Bool.eq_false_iff.mpr pm, Bool.and_false]
            rw [if_neg pm]
            refine ⟨_, _, Cut.to (n := 3) (by decide) (by simp), hM2 _ _ ⟨rfl, some (.d (ptD d)), ?_⟩⟩
            have fe : [(c, d)].filter (goodP us a b) = [] := by simp [g]
            rw [more, fe, List.append_nil]
            rfl
        · have g : goodP us a b (c, d) = false := by unfold goodP; rw [decide_eq_false e]; rfl
          rw [if_neg (fun z => e (by simpa using z))]
          refine ⟨_, _, Cut.to (n := 3) (by decide) (by simp), hM2 _ _ ⟨rfl, some (.d (ptD d)), ?_⟩⟩
          have fe : [(c, d)].filter (goodP us a b) = [] := by simp [g]
          rw [more, fe, List.append_nil]
          rfl
      · rintro r S1 ⟨rfl, z6, rfl⟩
        refine ⟨rfl, _, _, Cut.refl, hM _ _ ⟨rfl, some (.d (ptD c)), z6, ?_⟩⟩
        rw [prT_succ hc, List.length_map, List.take_length]
    · rintro r S1 ⟨rfl, z5, z6, rfl⟩
      refine ⟨rfl, ?_⟩
      show P _ _
      refine hP _ _ ?_; clear hP
      wide_open with (if_true, if_true)
      rw [List.length_map, prT_all]
      exact h
  · exact h.elim
/-- slots: 0 one, 1 other, 2 axis -/
def w_about_axis : PS1 :=
  (wSeq (wIf (wOrT (wTest (wCall sp_point_alike 2 (wCons (wVar 0) (wCons (wVar 1) wNil)))) (wTest (wBin pNe (wCall sp_upright_to_both 2 (wCons (wVar 0) (wCons (wVar 1) wNil))) (wTup (wCons (wC (.int 0)) (wCons (wC (.int 0)) (wCons (wC (.int 0)) wNil))))))) (wRet (wBin pIx (wCall sp_led 2 (wCons (wVar 0) (wCons (wVar 1) wNil))) (wC (.int 1)))) wNext)
  (wRet (wBin pAddI (wTup (wCons (wC (.int 0)) wNil)) (wVar 2))))
def sp_about_axis : SpZ := fun rs S W => match rs with
  | [.d (.tup xs), .d (.tup ys), .d (.tup us)] => ∃ (u v c : List Int) (s : Nat), xs = u.map D.int ∧ ys = v.map D.int ∧ us = c.map D.int ∧ u.length = 3 ∧ v.length = 3 ∧ c.length = 3 ∧ (∃ n ∈ u, n ≠ 0) ∧ (∃ n ∈ v, n ≠ 0) ∧ (∀ x ∈ u, Bd 3500 x) ∧ (∀ x ∈ v, Bd 3500 x) ∧ (s : Int) * s = dt u u * dt v v ∧ W (.d (.tup ((abtR u v c s).map D.int))) S
  | _ => False
theorem rd_about_axis : ∀ rs S W, rs.length = 3 → sp_about_axis rs S W → w_about_axis { nx := fun _ S1 => retN S.length W (.d .non) S1, rt := retN S.length W } (start1 3 rs) S := by
  intro rs S W _ h
  unfold sp_about_axis at h
  split at h
  · obtain ⟨u, v, c, s, rfl, rfl, rfl, lu, lv, lc, zu, zv, bu, bv, hs, h⟩ := h
    have u6 : ∀ x ∈ u, Bd 60000 x := fun x hx => (bu x hx).mono (by decide)
    have v6 : ∀ x ∈ v, Bd 60000 x := fun x hx => (bv x hx).mono (by decide)
    have e0 : PyData.eqvAll (pys ((crs u v).map D.int)) [PyData.int 0, PyData.int 0, PyData.int 0] = decide (crs u v = [0, 0, 0]) := eqv_ints (ys := [0, 0, 0])
    have dp := depth_ints (crs u v)
    have ll : (c.map D.int).length = 3 := by rw [List.length_map, lc]
    unfold abtR at h
    have led : (alike u v = true ∨ crs u v ≠ [0, 0, 0]) → sp_led [.d (.tup (u.map D.int)), .d (.tup (v.map D.int))] S (fun w S2 => ∃ x, w = .d (.tup [x, .tup ((ledF u v s).map D.int)]) ∧ S2 = S) := by
      intro hc
      refine ⟨u, v, rfl, rfl, lu, lv, zu, zv, bu, bv, fun t ht => ?_, fun hn => (hn s hs).elim⟩
      have : s = t := by have := root_eq (Int.natCast_nonneg s) (Int.natCast_nonneg t) hs ht; omega
      subst this
      exact ⟨_, rfl, rfl⟩
    clear led
    unfold w_about_axis
    refine seqI fun P hP => ?_
    wide_open with (sp_point_alike, spAlike)
    refine ⟨u, v, rfl, rfl, lu, lv, u6, v6, ?_⟩
    by_cases ha : alike u v = true
    · rw [if_pos (.inl ha)] at h
      rw [ha]
      wide_open with (sp_led, spLed)
      refine ⟨u, v, rfl, rfl, lu, lv, zu, zv, bu, bv, fun t ht => ?_, fun hn => (hn s hs).elim⟩
      have : s = t := by have := root_eq (Int.natCast_nonneg s) (Int.natCast_nonneg t) hs ht; omega
      subst this
      wide_open with (if_true, if_true)
      exact h
    · have ha' : alike u v = false := by simpa using ha
      rw [ha']
      wide_open with (sp_upright_to_both, spCrs, sp_led, spLed)
      refine ⟨u, v, rfl, rfl, lu, lv, fun x hx => (u6 x hx).mono (by decide), fun x hx => (v6 x hx).mono (by decide), by omega, ?_⟩
      rw [e0]
      by_cases hc : crs u v = [0, 0, 0]
      · rw [if_neg (by rintro (h | h); exact ha h; exact h hc)] at h
        wide_open with (decide_eq_true hc, if_true)
        refine hP _ _ ?_; clear hP
        wide_open with (if_true, if_true)
        exact ⟨by omega, h⟩
      · rw [if_pos (.inr hc)] at h
        wide_open with (decide_eq_false hc, if_true)
        refine ⟨u, v, rfl, rfl, lu, lv, zu, zv, bu, bv, fun t ht => ?_, fun hn => (hn s hs).elim⟩
        have : s = t := by have := root_eq (Int.natCast_nonneg s) (Int.natCast_nonneg t) hs ht; omega
        subst this
        wide_open with (if_true, if_true)
        exact h
  · exact h.elim
/-- slots: 0 _law_points_here, 1 _law_found, 2 _law_unlike, 3 _law_two_here, 4 _law_four, 5 _law_point -/
def w_l_right : PS1 :=
  (wSeq (wSet 2 (wSrtSet (wVar 0)))
  (wSeq (wSet 3 (wCall sp_l_two 1 (wCons (wVar 2) wNil)))
  (wSeq (wIf (wTest (wBin (pIsN false) (wVar 3) (wC .non))) (wRet (wBin pEq (wVar 1) (wTupR (wCons (wC (.str (PySem.Str.ofString "line"))) wNil)))) wNext)
  (wSeq (wIf (wOrT (wNotT (wTest (wIsi "tuple" (wVar 1)))) (wOrT (wTest (wBin pNe (wFn fLenT (wCons (wVar 1) wNil)) (wC (.int 2)))) (wTest (wBin pNe (wBin pIxT (wVar 1) (wC (.int 0))) (wC (.str (PySem.Str.ofString "some"))))))) (wRet (wC (.bl false))) wNext)
  (wSeq (wIf (wOrT (wNotT (wTest (wIsi "list" (wBin pIxT (wVar 1) (wC (.int 1)))))) (wTest (wBin pNe (wBin pIxT (wVar 1) (wC (.int 1))) (wSrtSet (wBin pIxT (wVar 1) (wC (.int 1))))))) (wRet (wC (.bl false))) wNext)
  (wSeq (wIf (wTest (wBin pNe (wFn fLen (wCons (wBin pIxT (wVar 1) (wC (.int 1))) wNil)) (wCall sp_l_count 2 (wCons (wVar 2) (wCons (wVar 3) wNil))))) (wRet (wC (.bl false))) wNext)
  (wSeq (wFor (wIt (wBin pIxT (wVar 1) (wC (.int 1)))) (fNm 4) (wSeq (wIf (wNotT (wTest (wCall sp_l_is_four 2 (wCons (wVar 4) (wCons (wCall sp_l_plain 1 (wCons (wVar 4) wNil)) wNil))))) (wRet (wC (.bl false))) wNext)
  (wFor (wIt (wVar 2)) (fNm 5) (wIf (wTest (wBin (pInB true) (wCall sp_l_turned 2 (wCons (wVar 4) (wCons (wVar 5) wNil))) (wVar 2))) (wRet (wC (.bl false))) wNext))))
  (wRet (wC (.bl true))))))))))
def sp_l_right : SpZ := spRight
theorem rd_l_right : ∀ rs S W, rs.length = 2 → sp_l_right rs S W → w_l_right { nx := fun _ S1 => retN S.length W (.d .non) S1, rt := retN S.length W } (start1 6 rs) S := by
  intro rs S W _ h
  unfold sp_l_right spRight at h
  have bq : ∀ {L : Nat} {p : Pt}, Bd 50 (L : Int) → GP L 100 p → ∀ z ∈ qsOf p, BQ 100 z := fun {L p} bL g z hz => by
    refine ⟨g.num z hz, Bd.mono (m := 50) (Bd.lit ?_) (by decide)⟩
    rw [Int.natAbs_natCast]
    have := bL.lt
    rw [Int.natAbs_natCast] at this
    exact Nat.lt_of_le_of_lt (Nat.le_of_dvd g.1 (g.2 z hz).1) this
  have ok : ∀ ps : List Pt, (∀ d ∈ ptL ps, elOk d = true) := fun ps d hd => by
    obtain ⟨p, _, rfl⟩ := List.mem_map.mp hd
    exact elOk_pt p
  split at h
  · obtain ⟨ps, L, rfl, rfl, pl, bL, gp, hx, h⟩ := h
    unfold w_l_right
    refine seqI fun P hP => ?_
    wide_open with (if_true, if_true)
    obtain ⟨⟨s1, s2⟩, s3⟩ := pt_sort ps
    refine ⟨ok ps, by simp [ptL]; omega, ⟨s1, s2, s3⟩, fun M nd hm => ?_⟩
    obtain ⟨us, eu, nu, mu'⟩ := set_pts nd hm
    rw [eu]
    refine hP _ _ ?_; clear hP
    refine seqI fun P hP => ?_
    wide_open with (sp_l_two, if_true)
    refine ⟨us, 100, rfl, fun p hp => bq bL (gp p ((mu' p).mpr hp)), by decide, fun hz => ?_, fun p hp r hr n => (n (hx p ((mu' p).mpr hp) r ((mu' r).mpr hr))).elim⟩
    refine hP _ _ ?_; clear hP
    refine seqI fun P hP => ?_
    wide_open with (if_true, if_true)
    exact h
  · obtain ⟨ps, L, ws0, rfl, rfl, rfl, pl, L0, bL, gp, hx, kl0, wb0, h⟩ := h
    obtain ⟨ws, ev, pv⟩ := srt_fs ws0
    have st : ∀ M : List D, M.Nodup → (∀ y, y ∈ M ↔ y ∈ fsL ws) → srtD M = fsL ws := fun M nd hm => by
      rw [← ev] at hm ⊢
      exact set_fos kl0.1 nd hm
    have kl : KeepL ps ws := ⟨pv.nodup_iff.mpr kl0.1, fun f => by rw [pv.mem_iff]; exact kl0.2 f⟩
    have wb : ∀ f ∈ ws, ∀ x ∈ f, Bd 2000 x := fun f hf => wb0 f (pv.mem_iff.mp hf)
    rw [ev] at h ⊢
    clear ev pv kl0 wb0
    unfold w_l_right
    refine seqI fun P hP => ?_
    wide_open with (if_true, if_true)
    obtain ⟨⟨s1, s2⟩, s3⟩ := pt_sort ps
    refine ⟨ok ps, by simp [ptL]; omega, ⟨s1, s2, s3⟩, fun M nd hm => ?_⟩
    obtain ⟨us, eu, nu, mu'⟩ := set_pts nd hm
    rw [eu]
    refine hP _ _ ?_; clear hP
    refine seqI fun P hP => ?_
    wide_open with (sp_l_two, if_true)
    refine ⟨us, 100, rfl, fun p hp => bq bL (gp p ((mu' p).mpr hp)), by decide, fun hz => ?_, fun a ha b hb n => ?_⟩
    · obtain ⟨p, hp, r, hr, n⟩ := hx
      exact (n (hz p ((mu' p).mp hp) r ((mu' r).mp hr))).elim
    refine hP _ _ ?_; clear hP
    refine seqI fun P hP => ?_
    wide_open with (if_true, if_true)
    have dv : ∀ p ∈ us, ∀ q ∈ qsOf p, q.den ∣ L := fun p hp q hq => ((gp p ((mu' p).mpr hp)).2 q hq).1
    have ul : us.length ≤ 12 := Nat.le_trans (List.Nodup.length_le_of_subset nu fun p hp => (mu' p).mpr hp) pl
    have ku := kl.same mu'
    have w72 := keep_few12 nu ul L0 dv ku ha hb n
    have wc := keep_count nu L0 dv ku ha hb n
    have l4 : ∀ f ∈ ws, f.length = 4 := fun f hf => (kl.pf hf).len
    obtain ⟨⟨t1, t2⟩, t3⟩ := four_sort l4
    have dws : PyData.depthAll (pys (fsL ws)) ≤ 50 := depth_fsL l4
    refine hP _ _ ?_; clear hP
    refine seqI fun P hP => ?_
    wide_open with (if_true, if_true)
    refine hP _ _ ?_; clear hP
    refine seqI fun P hP => ?_
    wide_open with (if_true, if_true)
    refine ⟨fun d hd => ?_, by rw [fsL, List.length_map]; omega, ⟨t1, t2, t3⟩, fun M nd hm => ?_⟩
    · obtain ⟨f, _, rfl⟩ := List.mem_map.mp hd
      exact elOk_fo f
    rw [st M nd hm, eqa_fos]
    refine ⟨by omega, ?_⟩
    wide_open with (if_true, if_true)
    refine hP _ _ ?_; clear hP
    refine seqI fun P hP => ?_
    wide_open with (sp_l_count, if_true)
    refine ⟨us, a, b, 100, rfl, rfl, ha, hb, by omega, fun p hp => bq bL (gp p ((mu' p).mpr hp)), by decide, ?_⟩
    rw [fsL, List.length_map, ← wc, ← fsL, beq_self_eq_true, Bool.not_true, if_neg (by decide)]
    refine hP _ _ ?_; clear hP
    refine seqI fun P hP => ?_
    wide_open with (if_true, if_true)
    rw [show (fsL ws).map R.d = ws.map fun f => R.d (D.tup (f.map D.int)) by simp [fsL]]
    refine forL_ix (fun i r S1 => S1 = [O.lst (ptL ps), O.lst (fsL ws), O.lst (ptL us)] ∧ ∃ z4 z5 : Option R, r = [some (R.loc 0), some (R.tr [R.d (D.str (PySem.Str.ofString "some")), R.loc 1]), some (R.loc 2), some (R.d (D.tup [ptD a, ptD b])), z4, z5]) ?_ ?_ ⟨rfl, _, _, rfl⟩
    · rintro i x hx r S1 ⟨rfl, z4, z5, rfl⟩ M hM
      rw [List.getElem?_map, Option.map_eq_some_iff] at hx
      obtain ⟨f, hf, rfl⟩ := hx
      have fm := List.mem_of_getElem? hf
      obtain ⟨pf, kf⟩ := ku.mem.mp fm
      refine ⟨rfl, ?_⟩
      refine seqI fun P hP => ?_
      wide_open with (sp_l_plain, spPln, sp_l_is_four)
      refine ⟨f, rfl, pf.nz, fun x hx => (wb f fm x hx).mono (by decide), by rw [pf.len]; decide, f, rfl, by rw [pf.pl], pf.len, ?_⟩
      refine hP _ _ ?_; clear hP
      wide_open with (if_true, if_true)
      rw [show (ptL us).map R.d = us.map fun p => R.d (ptD p) by simp [ptL]]
      refine forL_ix (fun j r S1 => S1 = [O.lst (ptL ps), O.lst (fsL ws), O.lst (ptL us)] ∧ ∃ z5 : Option R, r = [some (R.loc 0), some (R.tr [R.d (D.str (PySem.Str.ofString "some")), R.loc 1]), some (R.loc 2), some (R.d (D.tup [ptD a, ptD b])), some (R.d (D.tup (f.map D.int))), z5]) ?_ ?_ ⟨rfl, _, rfl⟩
      · rintro j x hx r S1 ⟨rfl, z5, rfl⟩ M2 hM2
        obtain ⟨p, hp, rfl⟩ := item_enc hx
        have pm := mem_of_at hp
        refine ⟨rfl, ?_⟩
        wide_open with (sp_l_turned, spTurnL)
        refine ⟨f, p, rfl, pf.len, pf.nz, wb f fm, rfl, fun z hz => (bq bL (gp p ((mu' p).mpr pm)) z hz).mono (by decide), ?_⟩
        rw [any_pt, decide_eq_true (kf p pm), Bool.not_true, if_neg (by decide)]
        exact ⟨Nat.le_trans (dp_pt _) (by decide), _, _, Cut.refl, hM2 _ _ ⟨rfl, _, rfl⟩⟩
      · rintro r S1 ⟨rfl, z5, rfl⟩
        refine ⟨rfl, ?_⟩
        exact ⟨_, _, Cut.refl, hM _ _ ⟨rfl, _, _, rfl⟩⟩
    · rintro r S1 ⟨rfl, z4, z5, rfl⟩
      refine ⟨rfl, ?_⟩
      show P _ _
      refine hP _ _ ?_; clear hP
      wide_open with (if_true, if_true)
      exact h
  · exact h.elim
/-- slots: 0 first, 1 second, 2 third, 3 fourth, 4 one, 5 other, 6 far, 7 begun, 8 rest -/
def w_led_both : PS1 :=
  (wSeq (wSet 4 (wCall sp_side_of 1 (wCons (wBin pMulI (wCall sp_size_of 1 (wCons (wVar 0) wNil)) (wCall sp_size_of 1 (wCons (wVar 2) wNil))) wNil)))
  (wSeq (wIf (wTest (wBin (pIsN false) (wVar 4) (wC .non))) (wRet (wTup (wCons (wC (.str (PySem.Str.ofString "none"))) (wCons (wC (.str (PySem.Str.ofString "first"))) wNil)))) wNext)
  (wSeq (wSet 5 (wCall sp_side_of 1 (wCons (wBin pMulI (wCall sp_size_of 1 (wCons (wVar 1) wNil)) (wCall sp_size_of 1 (wCons (wVar 3) wNil))) wNil)))
  (wSeq (wIf (wTest (wBin (pIsN false) (wVar 5) (wC .non))) (wRet (wTup (wCons (wC (.str (PySem.Str.ofString "none"))) (wCons (wC (.str (PySem.Str.ofString "second"))) wNil)))) wNext)
  (wSeq (wSet 6 (wBin pMulI (wCall sp_size_of 1 (wCons (wVar 2) wNil)) (wCall sp_size_of 1 (wCons (wVar 3) wNil))))
  (wSeq (wIf (wTest (wBin pNe (wBin pMulI (wCall sp_product_of 2 (wCons (wVar 0) (wCons (wVar 1) wNil))) (wVar 6)) (wBin pMulI (wBin pMulI (wVar 4) (wVar 5)) (wCall sp_product_of 2 (wCons (wVar 2) (wCons (wVar 3) wNil)))))) (wRet (wTup (wCons (wC (.str (PySem.Str.ofString "none"))) (wCons (wC (.str (PySem.Str.ofString "between"))) wNil)))) wNext)
  (wSeq (wSet 7 (wBin pIx (wCall sp_led 2 (wCons (wVar 0) (wCons (wVar 2) wNil))) (wC (.int 1))))
  (wSeq (wSet 8 (wCall sp_about_axis 3 (wCons (wCall sp_shadow 2 (wCons (wCall sp_spun 2 (wCons (wVar 7) (wCons (wVar 1) wNil))) (wCons (wVar 2) wNil))) (wCons (wCall sp_shadow 2 (wCons (wVar 3) (wCons (wVar 2) wNil))) (wCons (wVar 2) wNil)))))
  (wRet (wTup (wCons (wC (.str (PySem.Str.ofString "only"))) (wCons (wCall sp_then 2 (wCons (wVar 7) (wCons (wVar 8) wNil))) wNil))))))))))))
def sp_led_both : SpZ := spBoth
theorem rd_led_both : ∀ rs S W, rs.length = 4 → sp_led_both rs S W → w_led_both { nx := fun _ S1 => retN S.length W (.d .non) S1, rt := retN S.length W } (start1 9 rs) S := by
  intro rs S W _ h
  unfold sp_led_both spBoth at h
  split at h
  · obtain ⟨a, b, c, d, rfl, rfl, rfl, rfl, la, lb, lc, ld, za, zb, zc, zd, hab, hcd, ba, bb, bc, bd, k1, k2⟩ := h
    have hdc := crs_flip lc ld hcd
    have A := dt_pos la za
    have B := dt_pos lb zb
    have C := dt_pos lc zc
    have D' := dt_pos ld zd
    have bA := dt_bd ba ba
    have bB := dt_bd bb bb
    have bC := dt_bd bc bc
    have bD := dt_bd bd bd
    have bAB := dt_bd ba bb
    have bCD := dt_bd bc bd
    have six : ∀ {a : List Int}, (∀ x ∈ a, Bd 100 x) → ∀ x ∈ a, Bd 60000000 x := fun h x hx => (h x hx).mono (by decide)
    unfold w_led_both
    refine seqI fun P hP => ?_
    wide_open with (sp_size_of, sp_side_of, spSide)
    refine ⟨a, rfl, la, six ba, c, rfl, lc, six bc, mulOk bA bC (by decide), Int.le_of_lt (Int.mul_pos A C), (bA.mul bC).mono (by decide), fun s hs => ?_, fun hn => ?_⟩
    · refine hP _ _ ?_; clear hP
      refine seqI fun P hP => ?_
      wide_open with (isNon, if_true)
      refine hP _ _ ?_; clear hP
      obtain ⟨k3, k4⟩ := k2 s hs
      have sb := root_bd ba bc hs
      refine seqI fun P hP => ?_
      wide_open with (sp_size_of, sp_side_of, spSide)
      refine ⟨b, rfl, lb, six bb, d, rfl, ld, six bd, mulOk bB bD (by decide), Int.le_of_lt (Int.mul_pos B D'), (bB.mul bD).mono (by decide), fun t ht => ?_, fun hn => ?_⟩
      · refine hP _ _ ?_; clear hP
        refine seqI fun P hP => ?_
        wide_open with (isNon, if_true)
        refine hP _ _ ?_; clear hP
        obtain ⟨k5, k6⟩ := k4 t ht
        have tb := root_bd bb bd ht
        refine seqI fun P hP => ?_
        wide_open with (sp_size_of, if_true)
        refine ⟨c, rfl, lc, six bc, d, rfl, ld, six bd, mulOk bC bD (by decide), ?_⟩
        refine hP _ _ ?_; clear hP
        refine seqI fun P hP => ?_
        wide_open with (sp_product_of, spDt)
        refine ⟨a, b, rfl, rfl, la, lb, six ba, six bb, mulOk bAB (bC.mul bD) (by decide), mulOk sb tb (by decide), c, d, rfl, rfl, lc, ld, six bc, six bd, mulOk (sb.mul tb) bCD (by decide), ?_⟩
        by_cases hb : between a b c d s t
        · have e : (dt a b * (dt c c * dt d d) == (s : Int) * t * dt c d) = true := by unfold between at hb; simpa using hb
          rw [e]
          wide_open with (if_true, if_true)
          refine hP _ _ ?_; clear hP
          have gl := ledF_len la lc (s : Int)
          have gz := ledF_nz a c (s : Int)
          have gb : ∀ x ∈ ledF a c (s : Int), Bd 203 x := pln_bds (ledR_nz a c _) (ledR_bd la ba bc sb)
          have gL := ledF_leads la lc za zc (Int.natCast_nonneg s) hs
          have k7 := k6 hb
          have s0 := Int.natCast_nonneg s
          have t0 := Int.natCast_nonneg t
          have pn := shd_spn_nz la lb lc ld za zb zc zd s0 hs t0 ht hb gl gz gL hab
          obtain ⟨r, hr, _⟩ := both_root la lb lc ld za zb zc zd s0 hs t0 ht hb gl gz gL hdc
          have bl := both_leads la lb lc ld za zb zc zd s0 hs t0 ht hb gl gz gL hdc hab (Int.natCast_nonneg r) hr
          refine seqI fun P hP => ?_
          wide_open with (sp_led, spLed)
          refine ⟨a, c, rfl, rfl, la, lc, za, zc, fun x hx => (ba x hx).mono (by decide), fun x hx => (bc x hx).mono (by decide), fun s' hs' => ?_, fun hn => (hn s hs).elim⟩
          have : s = s' := by have := root_eq s0 (Int.natCast_nonneg s') hs hs'; omega
          subst this
          wide_open with (if_true, if_true)
          refine hP _ _ ?_; clear hP
          generalize ledF a c (s : Int) = g at *
          have p2 := spn_len (a := b) gl
          have pb : ∀ x ∈ spn g b, Bd 510 x := spn_bd gb bb
          have ul := shd_len p2 lc
          have vl := shd_len ld lc
          have ub : ∀ x ∈ shd (spn g b) c, Bd 713 x := shd_bd p2 lc pb bc
          have vb : ∀ x ∈ shd d c, Bd 303 x := shd_bd ld lc bd bc
          have vz := shd_nz ld lc zc hdc
          refine seqI fun P hP => ?_
          wide_open with (sp_spun, spSpn, sp_shadow, sp_about_axis)
          refine ⟨g, b, rfl, rfl, gl, lb, fun x hx => (gb x hx).mono (by decide), fun x hx => (bb x hx).mono (by decide), spn g b, c, rfl, rfl, p2, lc, fun x hx => (pb x hx).mono (by decide), fun x hx => (bc x hx).mono (by decide), ?_⟩
          wide_open with (if_true, if_true)
          refine ⟨d, c, rfl, rfl, ld, lc, fun x hx => (bd x hx).mono (by decide), fun x hx => (bc x hx).mono (by decide), ?_⟩
          wide_open with (if_true, if_true)
          refine ⟨shd (spn g b) c, shd d c, c, r, rfl, rfl, rfl, ul, vl, lc, pn, vz, fun x hx => (ub x hx).mono (by decide), fun x hx => (vb x hx).mono (by decide), hr, ?_⟩
          refine hP _ _ ?_; clear hP
          have rl := abtR_len ul vl lc pn vz zc (s := (r : Int))
          have rz := abtR_nz ul vl lc pn vz zc (s := (r : Int))
          have rb : ∀ x ∈ abtR (shd (spn g b) c) (shd d c) c r, Bd 1100 x := by
            unfold abtR
            split
            · exact fun x hx => (pln_bds (n := 713 + 303 + 3) (ledR_nz _ _ _) (ledR_bd ul ub vb (root_bd ub vb hr)) x hx).mono (by decide)
            · intro x hx
              rcases List.mem_cons.mp hx with rfl | hx
              · exact Bd.zero
              · exact (bc x hx).mono (by decide)
          generalize abtR (shd (spn g b) c) (shd d c) c r = k at *
          have ql := qmul_len rl gl
          have qz := qmul_nz rl gl rz gz
          wide_open with (sp_then, spThen)
          refine ⟨g, k, rfl, rfl, gl, rl, gz, rz, fun x hx => (gb x hx).mono (by decide), fun x hx => (rb x hx).mono (by decide), ?_⟩
          have le : ∀ x y : List Int, x.length = 3 → y.length = 3 → ledsTo (qmul k g) x y = true → ledsTo (pln (qmul k g)) x y = true := by
            intro x y lx ly hh
            have e := pln_mul qz
            have k0 := fsgl_ne qz
            have pl : (pln (qmul k g)).length = 4 := by rw [pln_len, ql]
            generalize fs (qmul k g) * (Z.gl (qmul k g) : Int) = m at *
            rw [e, ledsTo_smul k0 pl lx ly] at hh
            exact hh
          exact k7 (pln (qmul k g)) (by rw [pln_len, ql]) (pln_nz qz) (fun x hx => (pln_bds qz (qmul_bd rb gb) x hx).mono (by decide)) (pln_pln qz) (le _ _ la lc bl.1) (le _ _ lb ld bl.2)
        · have e : (dt a b * (dt c c * dt d d) == (s : Int) * t * dt c d) = false := by unfold between at hb; simpa using hb
          rw [e]
          wide_open with (if_true, if_true)
          exact k5 hb
      · refine hP _ _ ?_; clear hP
        refine seqI fun P hP => ?_
        wide_open with (isNon, if_true)
        exact k3 hn
    · refine hP _ _ ?_; clear hP
      refine seqI fun P hP => ?_
      wide_open with (isNon, if_true)
      exact k1 hn
  · exact h.elim
/-- slots: 0 points, 1 bottom, 2 ways, 3 point, 4 two, 5 here, 6 there, 7 found, 8 one, 9 other, 10 some, 11 top, 12 part, 13 four -/
def w_keeps : PS1 :=
  (wSeq (wSet 1 (wCall sp_common_bottom 1 (wCons (wVar 0) wNil)))
  (wSeq (wSet 2 (wLst wNil))
  (wSeq (wFor (wIt (wVar 0)) (fNm 3) (wDrop (wApp (wVar 2) (wFn fTup (wCons (wLc (wIt (wVar 3)) (fTp 2 (fCons (fNm 11) (fCons (fNm 12) fNil))) wYes (wBin pMulI (wVar 11) (wBin pDiv (wVar 1) (wVar 12))) [11, 12]) wNil)))))
  (wSeq (wSet 4 (wCall sp_two_apart 1 (wCons (wVar 2) wNil)))
  (wSeq (wIf (wTest (wBin (pIsN false) (wVar 4) (wC .non))) (wRet (wTupR (wCons (wC (.str (PySem.Str.ofString "line"))) wNil))) wNext)
  (wSeq (wUnp (fTp 2 (fCons (fNm 5) (fCons (fNm 6) fNil))) (wVar 4))
  (wSeq (wSet 7 wDNew)
  (wSeq (wFor (wIt (wVar 2)) (fNm 8) (wFor (wIt (wVar 2)) (fNm 9) (wIf (wAndT (wTest (wBin pEq (wCall sp_size_of 1 (wCons (wVar 8) wNil)) (wCall sp_size_of 1 (wCons (wVar 5) wNil)))) (wTest (wBin pEq (wCall sp_size_of 1 (wCons (wVar 9) wNil)) (wCall sp_size_of 1 (wCons (wVar 6) wNil))))) (wIf (wTest (wBin pEq (wCall sp_product_of 2 (wCons (wVar 8) (wCons (wVar 9) wNil))) (wCall sp_product_of 2 (wCons (wVar 5) (wCons (wVar 6) wNil))))) (wDPut (wVar 7) (wBin pIx (wCall sp_led_both 4 (wCons (wVar 5) (wCons (wVar 6) (wCons (wVar 8) (wCons (wVar 9) wNil))))) (wC (.int 1))) (wC (.bl true))) wNext) wNext)))
  (wSeq (wSet 10 (wLc (wItX (wVar 7)) (fNm 13) (wTest (wFn fAll (wCons (wLc (wIt (wVar 0)) (fNm 3) wYes (wBin (pInB false) (wCall sp_turned 2 (wCons (wVar 13) (wCons (wVar 3) wNil))) (wVar 0)) [3]) wNil))) (wVar 13) [13]))
  (wRet (wTupR (wCons (wC (.str (PySem.Str.ofString "some"))) (wCons (wNum (wFn fSorted (wCons (wVar 10) wNil))) wNil)))))))))))))
def sp_keeps : SpZ := spKeepsN
theorem rd_keeps : ∀ rs S W, rs.length = 1 → sp_keeps rs S W → w_keeps { nx := fun _ S1 => retN S.length W (.d .non) S1, rt := retN S.length W } (start1 14 rs) S := by
  intro rs S W _ h
  unfold sp_keeps spKeepsN at h
  split at h
  · rename_i xs
    obtain ⟨ps, L, rfl, pl, L0, bL, hp, h1, h2⟩ := h
    have dv : ∀ p ∈ ps, ∀ q ∈ qsOf p, q.den ∣ L := fun p h q hq => (hp p h q hq).1
    unfold w_keeps
    refine seqI fun P hP => ?_
    wide_open with (sp_common_bottom, spCbot)
    refine ⟨ps, L, rfl, L0, bL.mono (by decide), dv, ?_⟩
    have du : ∀ p ∈ ps, ∀ q ∈ qsOf p, q.den ∣ cbot ps := fun p h q hq => cbot_up h hq
    have cL : cbot ps ∣ L := cbot_dvd dv
    generalize cbot ps = B at *
    refine hP _ _ ?_; clear hP
    refine seqI fun P hP => ?_
    wide_open with (if_true, if_true)
    refine hP _ _ ?_; clear hP
    refine seqI fun P hP => ?_
    wide_open with (if_true, if_true)
    refine forL_ix (fun i r S1 => S1 = [.lst (ptL ps), .lst ((ps.take i).map fun p => .tup ((wayOf B p).map D.int))] ∧ ∃ y3 y4 y5 y6 y7 y8 y9 y10 y11 y12 y13 : Option R, r = [some (.loc 0), some (.d (.int (B : Int))), some (.loc 1), y3, y4, y5, y6, y7, y8, y9, y10, y11, y12, y13]) ?_ ?_ ⟨rfl, _, _, _, _, _, _, _, _, _, _, _, rfl⟩
    · rintro i x hx r S1 ⟨rfl, y3, y4, y5, y6, y7, y8, y9, y10, y11, y12, y13, rfl⟩ M hM
      have hi : i < ps.length := by
        have := (List.getElem?_eq_some_iff.mp hx).1
        simpa using this
      rw [List.getElem?_map, List.getElem?_map, List.getElem?_eq_getElem hi] at hx
      cases hx
      have hm := List.getElem_mem hi
      refine ⟨rfl, ?_⟩
      wide_open with (ptD_qs, if_true)
      have wp : ∀ p ∈ ps, ∀ q ∈ qsOf p, Bd 100 (topOf B q) := fun p h q hq => topOf_bd L0 (du p h q hq) cL (hp p h q hq).2.2
      have up : ps.take (i + 1) = ps.take i ++ [ps[i]] := by rw [List.take_add_one, List.getElem?_eq_getElem hi]; rfl
      refine ⟨by simp [qsOf], ?_⟩
      rw [List.map_map]
      refine lcL_enc (fun q => R.d (frD q)) (fun q => .int (topOf B q)) rfl trivial (fun q hq => ⟨_, rfl, fun W1 h => h, fun W1 h => ?_⟩) ?_
      · have e : (q.num : Int) * ((B / q.den : Nat) : Int) = topOf B q := rfl
        have le : ∀ {b : Nat}, b ≤ L → Bd 50 (b : Int) := fun {b} hb => Bd.lit (by
          have := bL.lt
          simp only [Int.natAbs_natCast] at this ⊢
          omega)
        have hq' := hp _ hm q hq
        have BL := Nat.le_of_dvd L0 cL
        wide_open with (fdiv_nat, e)
        exact ⟨cdv (n := 50) (fr_den q) (le (Nat.le_of_dvd L0 hq'.1)) (by decide), mulOk hq'.2.1 (le (Nat.le_trans (Nat.div_le_self _ _) BL)) (by decide), h⟩
      · wide_open with (if_true, if_true)
        have ew : ((qsOf ps[i]).map fun q => D.int (topOf B q)) = (wayOf B ps[i]).map D.int := rfl
        refine ⟨by simp; omega, _, _, Cut.refl, hM _ _ ⟨?_, _, _, _, _, _, _, _, _, _, _, _, rfl⟩⟩
        rw [up, List.map_append]
        rfl
    · rintro r S1 ⟨rfl, y3, y4, y5, y6, y7, y8, y9, y10, y11, y12, y13, rfl⟩
      rw [List.length_map, List.length_map, List.take_length]
      refine ⟨rfl, ?_⟩
      show P _ _
      refine hP _ _ ?_; clear hP
      refine seqI fun P hP => ?_
      wide_open with (sp_two_apart, spTwoApart)
      have wp : ∀ p ∈ ps, ∀ q ∈ qsOf p, Bd 100 (topOf B q) := fun p h q hq => topOf_bd L0 (du p h q hq) cL (hp p h q hq).2.2
      refine ⟨ps.map (wayOf B), by rw [List.map_map]; rfl, fun v hv => ?_, fun hz => ?_, fun v hv u hu hc => ?_⟩
      · obtain ⟨p, hp', rfl⟩ := List.mem_map.mp hv
        refine ⟨rfl, fun x hx => ?_⟩
        simp only [wayOf, List.mem_cons, List.not_mem_nil, or_false] at hx
        rcases hx with rfl | rfl | rfl
        · exact wp p hp' _ (by simp [qsOf])
        · exact wp p hp' _ (by simp [qsOf])
        · exact wp p hp' _ (by simp [qsOf])
      · refine hP _ _ ?_; clear hP
        refine seqI fun P hP => ?_
        wide_open with (isNon, if_true)
        exact h1 (fun p hp r hr => hz _ (List.mem_map_of_mem hp) _ (List.mem_map_of_mem hr)) _
      · obtain ⟨here, hh, rfl⟩ := List.mem_map.mp hv
        obtain ⟨there, ht, rfl⟩ := List.mem_map.mp hu
        refine hP _ _ ?_; clear hP
        refine seqI fun P hP => ?_
        wide_open with (isNon, if_true)
        refine hP _ _ ?_; clear hP
        refine seqI fun P hP => ?_
        wide_open with (if_true, if_true)
        refine hP _ _ ?_; clear hP
        refine seqI fun P hP => ?_
        wide_open with (if_true, if_true)
        refine hP _ _ ?_; clear hP
        refine seqI fun P hP => ?_
        wide_open with (if_true, if_true)
        have WL : ∀ p : Pt, D.tup ((wayOf B p).map D.int) = (fun p => D.tup ((wayOf B p).map D.int)) p := fun _ => rfl
        refine forL_ix (fun i r S1 => (∃ ep gs, FoundJ here there (fun a b => a ∈ ps.take i ∧ b ∈ ps) gs ∧ gs.length ≤ i * 12 ∧ S1 = [.lst (ptL ps), .lst (ps.map fun p => .tup ((wayOf B p).map D.int)), .dct ep (seenD gs)]) ∧ ∃ y4 y8 y9 : Option R, r = [some (.loc 0), some (.d (.int (B : Int))), some (.loc 1), y3, y4, some (.d (.tup ((wayOf B here).map D.int))), some (.d (.tup ((wayOf B there).map D.int))), some (.loc 2), y8, y9, y10, y11, y12, y13]) ?_ ?_ ⟨⟨0, [], ⟨List.nodup_nil, by simp, by simp⟩, by simp, rfl⟩, _, _, _, rfl⟩
        · rintro i x hx r S1 ⟨⟨ep, gs, fj, gl, rfl⟩, y4, y8, y9, rfl⟩ M hM
          have hi : i < ps.length := by
            have := (List.getElem?_eq_some_iff.mp hx).1
            simpa using this
          rw [List.getElem?_map, List.getElem?_map, List.getElem?_eq_getElem hi] at hx
          cases hx
          have hm := List.getElem_mem hi
          refine ⟨rfl, ?_⟩
          wide_open with (if_true, if_true)
          refine forL_ix (fun j r S1 => (∃ ep gs, FoundJ here there (fun a b => (a ∈ ps.take i ∧ b ∈ ps) ∨ (a = ps[i] ∧ b ∈ ps.take j)) gs ∧ gs.length ≤ i * 12 + j ∧ S1 = [.lst (ptL ps), .lst (ps.map fun p => .tup ((wayOf B p).map D.int)), .dct ep (seenD gs)]) ∧ ∃ y9 : Option R, r = [some (.loc 0), some (.d (.int (B : Int))), some (.loc 1), y3, y4, some (.d (.tup ((wayOf B here).map D.int))), some (.d (.tup ((wayOf B there).map D.int))), some (.loc 2), some (.d (.tup ((wayOf B ps[i]).map D.int))), y9, y10, y11, y12, y13]) ?_ ?_ ⟨⟨ep, gs, fj.weaken (by simp), by omega, rfl⟩, _, rfl⟩
          · rintro j x hx r S1 ⟨⟨ep, gs, fj, gl, rfl⟩, y9, rfl⟩ M' hM'
            have hj : j < ps.length := by
              have := (List.getElem?_eq_some_iff.mp hx).1
              simpa using this
            rw [List.getElem?_map, List.getElem?_map, List.getElem?_eq_getElem hj] at hx
            cases hx
            have hm2 := List.getElem_mem hj
            refine ⟨rfl, ?_⟩
            have wB : ∀ p ∈ ps, ∀ x ∈ wayOf B p, Bd 100 x := fun p h x hx => by
              simp only [wayOf, List.mem_cons, List.not_mem_nil, or_false] at hx
              rcases hx with rfl | rfl | rfl
              · exact wp p h _ (by simp [qsOf])
              · exact wp p h _ (by simp [qsOf])
              · exact wp p h _ (by simp [qsOf])
            have six : ∀ p ∈ ps, ∀ x ∈ wayOf B p, Bd 60000000 x := fun p h x hx => (wB p h x hx).mono (by decide)
            have B0 : 0 < B := Nat.pos_of_dvd_of_pos cL L0
            have tk : ∀ a b, (a ∈ ps.take i ∧ b ∈ ps) ∨ (a = ps[i] ∧ b ∈ ps.take (j + 1)) → ((a ∈ ps.take i ∧ b ∈ ps) ∨ (a = ps[i] ∧ b ∈ ps.take j)) ∨ (a = ps[i] ∧ b = ps[j]) := fun a b hab => by
              rw [List.take_add_one, List.getElem?_eq_getElem hj, List.mem_append] at hab
              rcases hab with h3 | ⟨h3, h4 | h4⟩
              · exact .inl (.inl h3)
              · exact .inl (.inr ⟨h3, h4⟩)
              · exact .inr ⟨h3, by simpa using h4⟩
            have skip : (∀ G, PlF G → rot G here = ps[i] → rot G there = ps[j] → False) → M' [some (.loc 0), some (.d (.int (B : Int))), some (.loc 1), y3, y4, some (.d (.tup ((wayOf B here).map D.int))), some (.d (.tup ((wayOf B there).map D.int))), some (.loc 2), some (.d (.tup ((wayOf B ps[i]).map D.int))), some (.d (.tup ((wayOf B ps[j]).map D.int))), y10, y11, y12, y13] [.lst (ptL ps), .lst (ps.map fun p => .tup ((wayOf B p).map D.int)), .dct ep (seenD gs)] := fun no => hM' _ _ ⟨⟨ep, gs, (fj.skip no).weaken tk, by omega, rfl⟩, _, rfl⟩
            wide_open with (sp_size_of, if_true)
            refine ⟨_, rfl, rfl, six _ hm, _, rfl, rfl, six _ hh, ?_⟩
            by_cases e1 : dt (wayOf B ps[i]) (wayOf B ps[i]) = dt (wayOf B here) (wayOf B here)
            · rw [if_pos (by simpa using e1)]
              refine ⟨_, rfl, rfl, six _ hm2, _, rfl, rfl, six _ ht, ?_⟩
              by_cases e2 : dt (wayOf B ps[j]) (wayOf B ps[j]) = dt (wayOf B there) (wayOf B there)
              · rw [if_pos (by simpa using e2)]
                wide_open with (sp_product_of, spDt)
                refine ⟨_, _, rfl, rfl, rfl, rfl, six _ hm, six _ hm2, _, _, rfl, rfl, rfl, rfl, six _ hh, six _ ht, ?_⟩
                by_cases e3 : dt (wayOf B ps[i]) (wayOf B ps[j]) = dt (wayOf B here) (wayOf B there)
                · rw [if_pos (by simpa using e3)]
                  have hcr : ∃ n ∈ crs (wayOf B here) (wayOf B there), n ≠ 0 := nz_three (crs_len rfl rfl) hc
                  have hcd := crs_same (c := wayOf B ps[i]) (d := wayOf B ps[j]) rfl rfl rfl rfl e1.symm e2.symm e3.symm hcr
                  have za := crs_nz_l rfl rfl hcr
                  have zb := crs_nz_l rfl rfl (crs_flip rfl rfl hcr)
                  have zc := crs_nz_l rfl rfl hcd
                  have zd := crs_nz_l rfl rfl (crs_flip rfl rfl hcd)
                  have A := dt_pos rfl za
                  have Bp := dt_pos rfl zb
                  have rA : (((dt (wayOf B here) (wayOf B here)).toNat : Nat) : Int) * ((dt (wayOf B here) (wayOf B here)).toNat : Nat) = dt (wayOf B here) (wayOf B here) * dt (wayOf B ps[i]) (wayOf B ps[i]) := by rw [e1, Int.toNat_of_nonneg (by omega)]
                  have rB : (((dt (wayOf B there) (wayOf B there)).toNat : Nat) : Int) * ((dt (wayOf B there) (wayOf B there)).toNat : Nat) = dt (wayOf B there) (wayOf B there) * dt (wayOf B ps[j]) (wayOf B ps[j]) := by rw [e2, Int.toNat_of_nonneg (by omega)]
                  wide_open with (sp_led_both, spBoth)
                  refine ⟨_, _, _, _, rfl, rfl, rfl, rfl, rfl, rfl, rfl, rfl, za, zb, zc, zd, hcr, hcd, wB _ hh, wB _ ht, wB _ hm, wB _ hm2, fun hn => hn _ rA, fun s hs => ⟨fun hn => hn _ rB, fun t ht' => ⟨fun hn => hn ?_, fun bt F fl fz fb fp f1 f2 => ?_⟩⟩⟩
                  · have es := root_eq (Int.natCast_nonneg s) (Int.natCast_nonneg _) hs rA
                    have et := root_eq (Int.natCast_nonneg t) (Int.natCast_nonneg _) ht' rB
                    exact betw_same (by omega) (by omega) e1.symm e2.symm e3.symm
                  · have g1 := (led_rot fl fz B0 (du _ hh) (du _ hm) za zc e1.symm).mp f1
                    have g2 := (led_rot fl fz B0 (du _ ht) (du _ hm2) zb zd e2.symm).mp f2
                    have fj' := (fj.put ⟨fl, fz, fp⟩ fb fun G pG k1 k2 => by
                      have := rot_only pG.1 pG.2.1 fl fz B0 (du _ hh) (du _ hm) (du _ ht) (du _ hm2) hcr k1 k2 g1 g2
                      rw [pG.2.2, fp] at this
                      exact this).weaken tk
                    have il : (insF gs F).length ≤ i * 12 + (j + 1) := by
                      unfold insF
                      split
                      · omega
                      · simp; omega
                    have pp := putT_seen gs F
                    have kk := keyOk_ints F
                    unfold tI at pp
                    wide_open with (kk, pp)
                    exact ⟨by simp only [seenD, List.length_map]; omega, fun ep2 => ⟨_, _, Cut.refl, hM' _ _ ⟨⟨ep2, _, fj', il, rfl⟩, _, rfl⟩⟩⟩
                · rw [if_neg (by simpa using e3)]
                  exact ⟨_, _, Cut.refl, skip fun G pG g1 g2 => e3 (rot_dt pG.1 pG.2.1 B0 (du _ hh) (du _ hm) (du _ ht) (du _ hm2) g1 g2).symm⟩
              · rw [if_neg (by simpa using e2)]
                exact ⟨_, _, Cut.refl, skip fun G pG g1 g2 => e2 (rot_dt pG.1 pG.2.1 B0 (du _ ht) (du _ hm2) (du _ ht) (du _ hm2) g2 g2).symm⟩
            · rw [if_neg (by simpa using e1)]
              exact ⟨_, _, Cut.refl, skip fun G pG g1 g2 => e1 (rot_dt pG.1 pG.2.1 B0 (du _ hh) (du _ hm) (du _ hh) (du _ hm) g1 g1).symm⟩
          · rintro r S1 ⟨⟨ep, gs, fj, gl, rfl⟩, y9, rfl⟩
            rw [List.length_map, List.length_map] at fj gl
            rw [List.take_length] at fj
            refine ⟨rfl, ?_⟩
            wide_open with (if_true, if_true)
            refine ⟨_, _, Cut.refl, hM _ _ ⟨⟨ep, gs, fj.weaken fun a b => ?_, by omega, rfl⟩, _, _, _, rfl⟩⟩
            rw [List.take_add_one, List.getElem?_eq_getElem hi, List.mem_append]
            rintro ⟨h3 | h3, h4⟩
            · exact .inl ⟨h3, h4⟩
            · exact .inr ⟨by simpa using h3, h4⟩
        · rintro r S1 ⟨⟨ep, gs, fj, gl, rfl⟩, y4, y8, y9, rfl⟩
          rw [List.length_map, List.length_map] at fj gl
          rw [List.take_length] at fj
          have kl := fj.keep hh ht
          refine ⟨rfl, ?_⟩
          show P _ _
          refine hP _ _ ?_; clear hP
          refine seqI fun P hP => ?_
          wide_open with (if_true, if_true)
          refine ⟨by simp only [seenD, List.length_map]; omega, ?_⟩
          rw [show (seenD gs).map (fun p => R.d p.1) = (gs.map fun f => D.tup (f.map D.int)).map R.d by simp only [seenD, List.map_map]; rfl]
          refine lcL_filD (g := fun f : Fo => D.tup (f.map D.int)) (fun f => keepsB ps f) (fun f => D.tup (f.map D.int)) rfl rfl (fun f hf => ⟨_, rfl, fun W1 h => ?_, fun _ W1 h => ?_⟩) ?_
          · obtain ⟨⟨fl, fz, fp⟩, fb⟩ := fj.pl f hf
            have tb : ∀ p ∈ ps, TB f p := fun p hp' => by
              have := hp p hp'
              exact ⟨2000, 400, by decide, fb, L, L0, bL.mono (by decide), fun q hq => by
                have k := this q (by simpa [qsOf] using hq)
                exact ⟨k.1, k.2.2.mono (by decide)⟩⟩
            wide_open with (if_true, if_true)
            refine ⟨by simp [ptL]; omega, ?_⟩
            rw [show (ptL ps).map R.d = ps.map fun p => R.d (ptD p) by simp [ptL]]
            refine lcL_enc (fun p => R.d (ptD p)) (fun p => .bl (decide (rot f p ∈ ps))) rfl rfl (fun p hp' => ⟨_, rfl, fun W1 h => h, fun W1 h => ?_⟩) ?_
            · wide_open with (sp_turned, spTurn)
              refine ⟨_, p, rfl, fl, fz, tb p hp', rfl, ?_⟩
              rw [in_pt]
              exact ⟨Nat.le_trans (dp_pt _) (by decide), h⟩
            · rw [show (ps.map fun p => D.bl (decide (rot f p ∈ ps))) = (ps.map fun p => decide (rot f p ∈ ps)).map D.bl by rw [List.map_map]; rfl]
              wide_open with (blsOf_map, if_true)
              have e : (ps.map fun p => decide (rot f p ∈ ps)).all id = keepsB ps f := by
                rw [Bool.eq_iff_iff, List.all_map, List.all_eq_true]
                unfold keepsB
                simp
              unfold fAll
              simp only [isLst, seqOf, Option.bind_some, blsOf_map]
              rw [e]
              exact h
          · wide_open with (if_true, if_true)
            exact h
          · refine hP _ _ ?_; clear hP
            have so := four_sort (ws := gs.filter fun f => keepsB ps f) (fun f hf => (fj.pl f (List.mem_filter.mp hf).1).1.1)
            wide_open with (if_true, if_true)
            exact ⟨⟨so.1.1, so.1.2, so.2⟩, h2 ⟨here, hh, there, ht, hc⟩ _ kl (fun f hf => (fj.pl f (List.mem_filter.mp hf).1).2) _ _ _ _⟩
  · exact h.elim
/-- slots: 0 _law_script, 1 _law_purse_here, 2 _law_points_here, 3 _law_at, 4 _law_more, 5 _law_handed, 6 _law_kept -/
def w_law : PS1 :=
  (wSeq (wSet 1 (wCall sp_l_purse 1 (wCons (wVar 0) wNil)))
  (wSeq (wSet 2 (wSl (wCall sp_l_points 1 (wCons (wVar 1) wNil)) wNo (wSome (wC (.int 12)))))
  (wSeq (wSet 3 (wCall sp_l_draw 2 (wCons (wVar 1) (wCons (wFn fLen (wCons (wVar 2) wNil)) wNil))))
  (wSeq (wSet 4 (wSl (wVar 2) wNo (wSome (wCall sp_l_draw 2 (wCons (wVar 1) (wCons (wC (.int 2)) wNil))))))
  (wSeq (wSet 5 (wSl (wBin pCat (wBin pCat (wSl (wVar 2) (wSome (wVar 3)) wNo) (wSl (wVar 2) wNo (wSome (wVar 3)))) (wVar 4)) wNo (wSome (wC (.int 12)))))
  (wSeq (wSet 6 (wFn fList (wCons (wVar 5) wNil)))
  (wRet (wAndV (wCall sp_l_right 2 (wCons (wVar 6) (wCons (wCall sp_keeps 1 (wCons (wVar 5) wNil)) wNil))) (wBin pEq (wVar 5) (wVar 6))))))))))
def sp_law : SpZ := spLaw Script
theorem rd_law : ∀ rs S W, rs.length = 1 → sp_law rs S W → w_law { nx := fun _ S1 => retN S.length W (.d .non) S1, rt := retN S.length W } (start1 7 rs) S := by
  intro rs S W _ h
  unfold sp_law spLaw at h
  split at h
  · obtain ⟨ns, rfl, hs, h⟩ := h
    unfold w_law
    refine seqI fun P hP => ?_
    wide_open with (sp_l_purse, if_true)
    refine ⟨ns, rfl, hs, fun a b => ?_⟩
    refine hP _ _ ?_; clear hP
    refine seqI fun P hP => ?_
    wide_open with (sp_l_points, spPts39)
    refine fun ps L a b p1 p24 L0 bL gp => ?_
    rw [show cutD (ptL ps) none (some 12) = ptL (ps.take 12) by rw [show (some (12 : Int)) = some ((12 : Nat) : Int) from rfl, cutD_take, ptL, ptL, List.map_take]]
    refine hP _ _ ?_; clear hP
    refine seqI fun P hP => ?_
    wide_open with (sp_l_draw, if_true)
    have n0 : 0 < (ptL (ps.take 12)).length := by rw [ptL, List.length_map, List.length_take]; omega
    have n12 : (ptL (ps.take 12)).length ≤ 12 := by rw [ptL, List.length_map, List.length_take]; omega
    refine ⟨⟨by omega, by omega⟩, fun v a b v0 v1 => ?_⟩
    have gp2 : ∀ p ∈ ps.take 12, GP L 100 p := fun p hp => gp p (List.mem_of_mem_take hp)
    generalize ps.take 12 = qs at *
    refine hP _ _ ?_; clear hP
    refine seqI fun P hP => ?_
    wide_open with (sp_l_draw, if_true)
    intro w a b w0 w2
    obtain ⟨v', rfl⟩ : ∃ k : Nat, v = (k : Int) := ⟨v.toNat, by omega⟩
    obtain ⟨w', rfl⟩ : ∃ k : Nat, w = (k : Int) := ⟨w.toNat, by omega⟩
    rw [cutD_take, ptL, ← List.map_take, ← ptL, ← ptL]
    refine hP _ _ ?_; clear hP
    refine seqI fun P hP => ?_
    wide_open with (if_true, if_true)
    rw [show (some (12 : Int)) = some ((12 : Nat) : Int) from rfl, cutD_take, cutD_take, cutD_drop]
    refine ⟨by simp only [List.length_drop, List.length_take]; omega, by simp only [List.length_drop, List.length_take, ptL, List.length_map]; simp only [ptL, List.length_map] at n12; omega, ?_⟩
    rw [show ((ptL qs).drop v' ++ ((ptL qs).take v' ++ ptL (qs.take w'))).take 12 = ptL ((qs.drop v' ++ (qs.take v' ++ qs.take w')).take 12) by simp [ptL, List.map_take]]
    have gp3 : ∀ p ∈ (qs.drop v' ++ (qs.take v' ++ qs.take w')).take 12, GP L 100 p := fun p hp => by
      have := List.mem_of_mem_take hp
      rw [List.mem_append, List.mem_append] at this
      rcases this with h1 | h1 | h1
      · exact gp2 p (List.mem_of_mem_drop h1)
      · exact gp2 p (List.mem_of_mem_take h1)
      · exact gp2 p (List.mem_of_mem_take h1)
    have hl : ((qs.drop v' ++ (qs.take v' ++ qs.take w')).take 12).length ≤ 12 := by rw [List.length_take]; omega
    generalize (qs.drop v' ++ (qs.take v' ++ qs.take w')).take 12 = hs' at *
    refine hP _ _ ?_; clear hP
    refine seqI fun P hP => ?_
    wide_open with (if_true, if_true)
    refine hP _ _ ?_; clear hP
    wide_open with (sp_keeps, spKeepsN)
    have dv : ∀ p ∈ hs', ∀ q ∈ qsOf p, q.den ∣ L := fun p hp q hq => ((gp3 p hp).2 q hq).1
    have c0 : 0 < cbot hs' := Nat.pos_of_dvd_of_pos (cbot_dvd dv) L0
    have cx : ∀ p ∈ hs', ∀ r ∈ hs', (crs (wayOf (cbot hs') p) (wayOf (cbot hs') r) = [0, 0, 0] ↔ xP p r = (0, 0, 0)) := fun p hp r hr => crs_xP c0 (fun q hq => cbot_up hp hq) fun q hq => cbot_up hr hq
    have d50 : PyData.depthAll (pys (ptL hs')) ≤ 50 := depth_ptL hs'
    refine ⟨hs', L, rfl, hl, L0, bL, fun p hp q hq => ⟨dv p hp q hq, (gp3 p hp).num q hq, ((gp3 p hp).2 q hq).2⟩, fun hz => ?_, fun hx ws kl wb => ⟨by omega, ?_⟩⟩
    · wide_open with (sp_l_right, spRight)
      refine ⟨hs', L, rfl, hl, bL, gp3, fun p hp r hr => (cx p hp r hr).mp (hz p hp r hr), ?_⟩
      wide_open with (eqa_pts, decide_true)
      exact ⟨by omega, h⟩
    · obtain ⟨p, hp, r, hr, n⟩ := hx
      wide_open with (sp_l_right, spRight)
      refine ⟨hs', L, ws, rfl, rfl, hl, L0, bL, gp3, ⟨p, hp, r, hr, fun e => n ((cx p hp r hr).mpr e)⟩, kl, wb, ?_⟩
      wide_open with (eqa_pts, decide_true)
      exact ⟨by omega, h⟩
  · exact h.elim
def topS (i : Nat) : Stmt := PySem.Challenge.pw_hangrings_k39_turns_that_keep_points.main.body.getD i (.Pass ⟨0, 0, 0, 0⟩)
abbrev st_divisor : Stmt := topS 1
abbrev N_divisor : List Str := ["one", "other"]
theorem sc_divisor : FnScope N_divisor ["one", "other"] (defScope st_divisor) := ⟨rfl, rfl, rfl, by decide +kernel, rfl, by decide +kernel, by decide +kernel⟩
theorem tm_divisor {P : Program} {w : World} {K : PySem.W.Frag} {mg : Str → Option Value} {base : Heap} {f : Addr} (hb_abs : mg "abs" = none) (cdv : Value) (A : Around) (outer : List Env) (s : Shared) (H : Hp) (E : XK) (hr : Room 0 (A.deeper (envOfC "divisor" (defScope st_divisor) s.heap.objs.size f cdv))) :
    WSs (cxOf CX0 P w K mg base N_divisor "divisor" (defScope st_divisor) f cdv A outer s H E).nox (defBody st_divisor) w_divisor := by
  have nd := sc_divisor.nd
  unfold w_divisor
  exact (ws_cons (ws_set (i := 0) nd rfl (by first | exact Or.inl rfl | exact Or.inr rfl) (we_blt f_abs (by rfl) hb_abs PyProof.Rows.boot_abs (wa_cons (we_var 0 (pv 0)) wa_nil)))
    (ws_cons (ws_set (i := 1) nd rfl (by first | exact Or.inl rfl | exact Or.inr rfl) (we_blt f_abs (by rfl) hb_abs PyProof.Rows.boot_abs (wa_cons (we_var 1 (pv 1)) wa_nil)))
    (ws_cons (ws_while PassesOwn.never (wt_cmp o_gt (we_var 1 (pv 1)) we_int (nomark _)) (ws_one (ws_par (i := 0) (j := 1) rfl nd rfl rfl (by decide) rfl rfl (wa_cons (we_var 1 (pv 1)) (wa_cons (we_bin o_mod (we_var 0 (pv 0)) (we_var 1 (pv 1))) wa_nil)) (by with_unfolding_all rfl))))
    (ws_one (ws_ret (we_var 0 (pv 0)))))))
abbrev st_divisor_of : Stmt := topS 2
abbrev N_divisor_of : List Str := ["numbers", "found", "number"]
theorem sc_divisor_of : FnScope N_divisor_of ["numbers"] (defScope st_divisor_of) := ⟨rfl, rfl, rfl, by decide +kernel, rfl, by decide +kernel, by decide +kernel⟩
theorem tm_divisor_of {P : Program} {w : World} {K : PySem.W.Frag} {mg : Str → Option Value} {base : Heap} {f : Addr} (F_divisor : FnZ P w K mg base 1 "divisor" 2 sp_divisor) (cdv : Value) (A : Around) (outer : List Env) (s : Shared) (H : Hp) (E : XK) (hr : Room 1 (A.deeper (envOfC "divisor_of" (defScope st_divisor_of) s.heap.objs.size f cdv))) :
    WSs (cxOf CX0 P w K mg base N_divisor_of "divisor_of" (defScope st_divisor_of) f cdv A outer s H E).nox (defBody st_divisor_of) w_divisor_of := by
  have nd := sc_divisor_of.nd
  unfold w_divisor_of
  exact (ws_cons (ws_set (i := 1) nd rfl (by first | exact Or.inl rfl | exact Or.inr rfl) we_int)
    (ws_cons (ws_for PassesOwn.never rfl (wi_seq (we_var 0 (pv 0))) (pg_name (i := 2) nd rfl (by first | exact Or.inl rfl | exact Or.inr rfl)) (tg_name 2) (ws_one (ws_set (i := 1) nd rfl (by first | exact Or.inl rfl | exact Or.inr rfl) (we_call F_divisor hr (by rfl) (wa_cons (we_var 1 (pv 1)) (wa_cons (we_var 2 (pv 2)) wa_nil))))))
    (ws_one (ws_ret (we_var 1 (pv 1))))))
abbrev st_made : Stmt := topS 3
abbrev N_made : List Str := ["top", "bottom", "by"]
theorem sc_made : FnScope N_made ["top", "bottom"] (defScope st_made) := ⟨rfl, rfl, rfl, by decide +kernel, rfl, by decide +kernel, by decide +kernel⟩
theorem tm_made {P : Program} {w : World} {K : PySem.W.Frag} {mg : Str → Option Value} {base : Heap} {f : Addr} (F_divisor : FnZ P w K mg base 1 "divisor" 2 sp_divisor) (cdv : Value) (A : Around) (outer : List Env) (s : Shared) (H : Hp) (E : XK) (hr : Room 1 (A.deeper (envOfC "made" (defScope st_made) s.heap.objs.size f cdv))) :
    WSs (cxOf CX0 P w K mg base N_made "made" (defScope st_made) f cdv A outer s H E).nox (defBody st_made) w_made := by
  have nd := sc_made.nd
  unfold w_made
  exact (ws_cons (ws_set (i := 2) nd rfl (by first | exact Or.inl rfl | exact Or.inr rfl) (we_call F_divisor hr (by rfl) (wa_cons (we_var 0 (pv 0)) (wa_cons (we_var 1 (pv 1)) wa_nil))))
    (ws_cons (ws_if (wt_cmp o_lt (we_var 1 (pv 1)) we_int (nomark _)) (ws_one (ws_set (i := 2) nd rfl (by first | exact Or.inl rfl | exact Or.inr rfl) (we_un u_neg (we_var 2 (pv 2))))) ws_nil)
    (ws_one (ws_ret (we_tup (wa_cons (we_bin o_div (we_var 0 (pv 0)) (we_var 2 (pv 2))) (wa_cons (we_bin o_div (we_var 1 (pv 1)) (we_var 2 (pv 2))) wa_nil)))))))
abbrev st_root : Stmt := topS 4
abbrev N_root : List Str := ["number", "found"]
theorem sc_root : FnScope N_root ["number"] (defScope st_root) := ⟨rfl, rfl, rfl, by decide +kernel, rfl, by decide +kernel, by decide +kernel⟩
theorem tm_root {P : Program} {w : World} {K : PySem.W.Frag} {mg : Str → Option Value} {base : Heap} {f : Addr} (cdv : Value) (A : Around) (outer : List Env) (s : Shared) (H : Hp) (E : XK) (hr : Room 0 (A.deeper (envOfC "root" (defScope st_root) s.heap.objs.size f cdv))) :
    WSs (cxOf CX0 P w K mg base N_root "root" (defScope st_root) f cdv A outer s H E).nox (defBody st_root) w_root := by
  have nd := sc_root.nd
  unfold w_root
  exact (ws_cons (ws_set (i := 1) nd rfl (by first | exact Or.inl rfl | exact Or.inr rfl) (we_bin o_shl we_int (we_bin o_div (we_bin o_addI (we_bits (we_var 0 (pv 0))) we_int) we_int)))
    (ws_cons (ws_while PassesOwn.never (wt_cmp o_gt (we_bin o_mulI (we_var 1 (pv 1)) (we_var 1 (pv 1))) (we_var 0 (pv 0)) (nomark _)) (ws_one (ws_set (i := 1) nd rfl (by first | exact Or.inl rfl | exact Or.inr rfl) (we_bin o_div (we_bin o_addI (we_var 1 (pv 1)) (we_bin o_div (we_var 0 (pv 0)) (we_var 1 (pv 1)))) we_int))))
    (ws_one (ws_ret (we_var 1 (pv 1))))))
abbrev st_plain_row : Stmt := topS 5
abbrev N_plain_row : List Str := ["numbers", "by", "number"]
theorem sc_plain_row : FnScope N_plain_row ["numbers"] (defScope st_plain_row) := ⟨rfl, rfl, rfl, by decide +kernel, rfl, by decide +kernel, by decide +kernel⟩
theorem tm_plain_row {P : Program} {w : World} {K : PySem.W.Frag} {mg : Str → Option Value} {base : Heap} {f : Addr} (F_divisor_of : FnZ P w K mg base 2 "divisor_of" 1 sp_divisor_of) (hb_tuple : mg "tuple" = none) (cdv : Value) (A : Around) (outer : List Env) (s : Shared) (H : Hp) (E : XK) (hr : Room 2 (A.deeper (envOfC "plain_row" (defScope st_plain_row) s.heap.objs.size f cdv))) :
    WSs (cxOf CX0 P w K mg base N_plain_row "plain_row" (defScope st_plain_row) f cdv A outer s H E).nox (defBody st_plain_row) w_plain_row := by
  have nd := sc_plain_row.nd
  unfold w_plain_row
  exact (ws_cons (ws_set (i := 1) nd rfl (by first | exact Or.inl rfl | exact Or.inr rfl) (we_call F_divisor_of hr (by rfl) (wa_cons (we_var 0 (pv 0)) wa_nil)))
    (ws_one (ws_ret (we_ty f_tup (by rfl) hb_tuple PyProof.Rows.boot_tuple (wa_cons (we_lc (own := [("number", 2)]) rfl nd (wi_seq (we_var 0 (pv 0))) (blkOk_by (N := N_plain_row) (sc := defScope st_plain_row) (by decide +kernel)) (fun _ _ _ _ _ => (pg_name (i := 2) nd rfl (by first | exact Or.inl rfl | exact Or.inr rfl))) (tg_name 2) (by decide) (fun _ _ _ _ _ => wts_nil) (fun _ _ _ _ _ => (we_bin o_div (we_var 2 (pv 2)) (we_var 1 (pv 1))))) wa_nil)))))
abbrev st_plain : Stmt := topS 7
abbrev N_plain : List Str := ["four", "found", "first", "number"]
theorem sc_plain : FnScope N_plain ["four"] (defScope st_plain) := ⟨rfl, rfl, rfl, by decide +kernel, rfl, by decide +kernel, by decide +kernel⟩
theorem tm_plain {P : Program} {w : World} {K : PySem.W.Frag} {mg : Str → Option Value} {base : Heap} {f : Addr} (F_plain_row : FnZ P w K mg base 3 "plain_row" 1 sp_plain_row) (hb_tuple : mg "tuple" = none) (cdv : Value) (A : Around) (outer : List Env) (s : Shared) (H : Hp) (E : XK) (hr : Room 3 (A.deeper (envOfC "plain" (defScope st_plain) s.heap.objs.size f cdv))) :
    WSs (cxOf CX0 P w K mg base N_plain "plain" (defScope st_plain) f cdv A outer s H E).nox (defBody st_plain) w_plain := by
  have nd := sc_plain.nd
  unfold w_plain
  exact (ws_cons (ws_set (i := 1) nd rfl (by first | exact Or.inl rfl | exact Or.inr rfl) (we_call F_plain_row hr (by rfl) (wa_cons (we_var 0 (pv 0)) wa_nil)))
    (ws_cons (ws_set (i := 2) nd rfl (by first | exact Or.inl rfl | exact Or.inr rfl) (we_ix (we_lc (own := [("number", 3)]) rfl nd (wi_seq (we_var 1 (pv 1))) (blkOk_by (N := N_plain) (sc := defScope st_plain) (by decide +kernel)) (fun _ _ _ _ _ => (pg_name (i := 3) nd rfl (by first | exact Or.inl rfl | exact Or.inr rfl))) (tg_name 3) (by decide) (fun _ _ _ _ _ => (wts_one (wt_cmp (o_ne hr.units) (we_var 3 (pv 3)) we_int (nomark _)))) (fun _ _ _ _ _ => (we_var 3 (pv 3)))) we_int (fun _ _ => rfl)))
    (ws_cons (ws_if (wt_cmp o_lt (we_var 2 (pv 2)) we_int (nomark _)) (ws_one (ws_set (i := 1) nd rfl (by first | exact Or.inl rfl | exact Or.inr rfl) (we_ty f_tup (by rfl) hb_tuple PyProof.Rows.boot_tuple (wa_cons (we_lc (own := [("number", 3)]) rfl nd (wi_seq (we_var 1 (pv 1))) (blkOk_by (N := N_plain) (sc := defScope st_plain) (by decide +kernel)) (fun _ _ _ _ _ => (pg_name (i := 3) nd rfl (by first | exact Or.inl rfl | exact Or.inr rfl))) (tg_name 3) (by decide) (fun _ _ _ _ _ => wts_nil) (fun _ _ _ _ _ => (we_un u_neg (we_var 3 (pv 3))))) wa_nil)))) ws_nil)
    (ws_one (ws_ret (we_var 1 (pv 1)))))))
abbrev st_size : Stmt := topS 8
abbrev N_size : List Str := ["four", "number"]
theorem sc_size : FnScope N_size ["four"] (defScope st_size) := ⟨rfl, rfl, rfl, by decide +kernel, rfl, by decide +kernel, by decide +kernel⟩
theorem tm_size {P : Program} {w : World} {K : PySem.W.Frag} {mg : Str → Option Value} {base : Heap} {f : Addr} (hb_sum : mg "sum" = none) (cdv : Value) (A : Around) (outer : List Env) (s : Shared) (H : Hp) (E : XK) (hr : Room 0 (A.deeper (envOfC "size" (defScope st_size) s.heap.objs.size f cdv))) :
    WSs (cxOf CX0 P w K mg base N_size "size" (defScope st_size) f cdv A outer s H E).nox (defBody st_size) w_size := by
  have nd := sc_size.nd
  unfold w_size
  exact (ws_one (ws_ret (we_blt (f_sum rfl) (by rfl) hb_sum PyProof.Rows.boot_sum (wa_cons (we_lc (own := [("number", 1)]) rfl nd (wi_seq (we_var 0 (pv 0))) (blkOk_by (N := N_size) (sc := defScope st_size) (by decide +kernel)) (fun _ _ _ _ _ => (pg_name (i := 1) nd rfl (by first | exact Or.inl rfl | exact Or.inr rfl))) (tg_name 1) (by decide) (fun _ _ _ _ _ => wts_nil) (fun _ _ _ _ _ => (we_bin o_mulI (we_var 1 (pv 1)) (we_var 1 (pv 1))))) wa_nil))))
abbrev st_product : Stmt := topS 9
abbrev N_product : List Str := ["one", "other", "p", "q", "r", "s", "t", "u", "v", "o", "w", "x", "y"]
theorem sc_product : FnScope N_product ["one", "other"] (defScope st_product) := ⟨rfl, rfl, rfl, by decide +kernel, rfl, by decide +kernel, by decide +kernel⟩
theorem tm_product {P : Program} {w : World} {K : PySem.W.Frag} {mg : Str → Option Value} {base : Heap} {f : Addr} (cdv : Value) (A : Around) (outer : List Env) (s : Shared) (H : Hp) (E : XK) (hr : Room 0 (A.deeper (envOfC "product" (defScope st_product) s.heap.objs.size f cdv))) :
    WSs (cxOf CX0 P w K mg base N_product "product" (defScope st_product) f cdv A outer s H E).nox (defBody st_product) w_product := by
  have nd := sc_product.nd
  unfold w_product
  exact (ws_cons (ws_unp (we_var 0 (pv 0)) (pg_tup rfl (pgs_cons (pg_name (i := 2) nd rfl (by first | exact Or.inl rfl | exact Or.inr rfl)) (pgs_cons (pg_name (i := 3) nd rfl (by first | exact Or.inl rfl | exact Or.inr rfl)) (pgs_cons (pg_name (i := 4) nd rfl (by first | exact Or.inl rfl | exact Or.inr rfl)) (pgs_cons (pg_name (i := 5) nd rfl (by first | exact Or.inl rfl | exact Or.inr rfl)) pgs_nil))))) (tg_tup (n := 4) (tgs_cons (tg_name 2) (tgs_cons (tg_name 3) (tgs_cons (tg_name 4) (tgs_cons (tg_name 5) tgs_nil))))))
    (ws_cons (ws_unp (we_var 1 (pv 1)) (pg_tup rfl (pgs_cons (pg_name (i := 6) nd rfl (by first | exact Or.inl rfl | exact Or.inr rfl)) (pgs_cons (pg_name (i := 7) nd rfl (by first | exact Or.inl rfl | exact Or.inr rfl)) (pgs_cons (pg_name (i := 8) nd rfl (by first | exact Or.inl rfl | exact Or.inr rfl)) (pgs_cons (pg_name (i := 9) nd rfl (by first | exact Or.inl rfl | exact Or.inr rfl)) pgs_nil))))) (tg_tup (n := 4) (tgs_cons (tg_name 6) (tgs_cons (tg_name 7) (tgs_cons (tg_name 8) (tgs_cons (tg_name 9) tgs_nil))))))
    (ws_cons (ws_set (i := 10) nd rfl (by first | exact Or.inl rfl | exact Or.inr rfl) (we_bin o_sub (we_bin o_sub (we_bin o_sub (we_bin o_mulI (we_var 2 (pv 2)) (we_var 6 (pv 6))) (we_bin o_mulI (we_var 3 (pv 3)) (we_var 7 (pv 7)))) (we_bin o_mulI (we_var 4 (pv 4)) (we_var 8 (pv 8)))) (we_bin o_mulI (we_var 5 (pv 5)) (we_var 9 (pv 9)))))
    (ws_cons (ws_set (i := 11) nd rfl (by first | exact Or.inl rfl | exact Or.inr rfl) (we_bin o_sub (we_bin o_addI (we_bin o_addI (we_bin o_mulI (we_var 2 (pv 2)) (we_var 7 (pv 7))) (we_bin o_mulI (we_var 3 (pv 3)) (we_var 6 (pv 6)))) (we_bin o_mulI (we_var 4 (pv 4)) (we_var 9 (pv 9)))) (we_bin o_mulI (we_var 5 (pv 5)) (we_var 8 (pv 8)))))
    (ws_cons (ws_set (i := 12) nd rfl (by first | exact Or.inl rfl | exact Or.inr rfl) (we_bin o_addI (we_bin o_addI (we_bin o_sub (we_bin o_mulI (we_var 2 (pv 2)) (we_var 8 (pv 8))) (we_bin o_mulI (we_var 3 (pv 3)) (we_var 9 (pv 9)))) (we_bin o_mulI (we_var 4 (pv 4)) (we_var 6 (pv 6)))) (we_bin o_mulI (we_var 5 (pv 5)) (we_var 7 (pv 7)))))
    (ws_one (ws_ret (we_tup (wa_cons (we_var 10 (pv 10)) (wa_cons (we_var 11 (pv 11)) (wa_cons (we_var 12 (pv 12)) (wa_cons (we_bin o_addI (we_bin o_sub (we_bin o_addI (we_bin o_mulI (we_var 2 (pv 2)) (we_var 9 (pv 9))) (we_bin o_mulI (we_var 3 (pv 3)) (we_var 8 (pv 8)))) (we_bin o_mulI (we_var 4 (pv 4)) (we_var 7 (pv 7)))) (we_bin o_mulI (we_var 5 (pv 5)) (we_var 6 (pv 6)))) wa_nil))))))))))))
abbrev st_then : Stmt := topS 10
abbrev N_then : List Str := ["one", "other"]
theorem sc_then : FnScope N_then ["one", "other"] (defScope st_then) := ⟨rfl, rfl, rfl, by decide +kernel, rfl, by decide +kernel, by decide +kernel⟩
theorem tm_then {P : Program} {w : World} {K : PySem.W.Frag} {mg : Str → Option Value} {base : Heap} {f : Addr} (F_plain : FnZ P w K mg base 4 "plain" 1 sp_plain) (F_product : FnZ P w K mg base 4 "product" 2 sp_product) (cdv : Value) (A : Around) (outer : List Env) (s : Shared) (H : Hp) (E : XK) (hr : Room 4 (A.deeper (envOfC "then" (defScope st_then) s.heap.objs.size f cdv))) :
    WSs (cxOf CX0 P w K mg base N_then "then" (defScope st_then) f cdv A outer s H E).nox (defBody st_then) w_then := by
  have nd := sc_then.nd
  unfold w_then
  exact (ws_one (ws_ret (we_call F_plain hr (by rfl) (wa_cons (we_call F_product hr (by rfl) (wa_cons (we_var 1 (pv 1)) (wa_cons (we_var 0 (pv 0)) wa_nil))) wa_nil))))
abbrev st_rows_of : Stmt := topS 11
abbrev N_rows_of : List Str := ["four", "w", "x", "y", "z", "first", "second", "third"]
theorem sc_rows_of : FnScope N_rows_of ["four"] (defScope st_rows_of) := ⟨rfl, rfl, rfl, by decide +kernel, rfl, by decide +kernel, by decide +kernel⟩
theorem tm_rows_of {P : Program} {w : World} {K : PySem.W.Frag} {mg : Str → Option Value} {base : Heap} {f : Addr} (cdv : Value) (A : Around) (outer : List Env) (s : Shared) (H : Hp) (E : XK) (hr : Room 0 (A.deeper (envOfC "rows_of" (defScope st_rows_of) s.heap.objs.size f cdv))) :
    WSs (cxOf CX0 P w K mg base N_rows_of "rows_of" (defScope st_rows_of) f cdv A outer s H E).nox (defBody st_rows_of) w_rows_of := by
  have nd := sc_rows_of.nd
  unfold w_rows_of
  exact (ws_cons (ws_unp (we_var 0 (pv 0)) (pg_tup rfl (pgs_cons (pg_name (i := 1) nd rfl (by first | exact Or.inl rfl | exact Or.inr rfl)) (pgs_cons (pg_name (i := 2) nd rfl (by first | exact Or.inl rfl | exact Or.inr rfl)) (pgs_cons (pg_name (i := 3) nd rfl (by first | exact Or.inl rfl | exact Or.inr rfl)) (pgs_cons (pg_name (i := 4) nd rfl (by first | exact Or.inl rfl | exact Or.inr rfl)) pgs_nil))))) (tg_tup (n := 4) (tgs_cons (tg_name 1) (tgs_cons (tg_name 2) (tgs_cons (tg_name 3) (tgs_cons (tg_name 4) tgs_nil))))))
    (ws_cons (ws_set (i := 5) nd rfl (by first | exact Or.inl rfl | exact Or.inr rfl) (we_tup (wa_cons (we_bin o_sub (we_bin o_sub (we_bin o_addI (we_bin o_mulI (we_var 1 (pv 1)) (we_var 1 (pv 1))) (we_bin o_mulI (we_var 2 (pv 2)) (we_var 2 (pv 2)))) (we_bin o_mulI (we_var 3 (pv 3)) (we_var 3 (pv 3)))) (we_bin o_mulI (we_var 4 (pv 4)) (we_var 4 (pv 4)))) (wa_cons (we_bin o_mulI we_int (we_bin o_sub (we_bin o_mulI (we_var 2 (pv 2)) (we_var 3 (pv 3))) (we_bin o_mulI (we_var 1 (pv 1)) (we_var 4 (pv 4))))) (wa_cons (we_bin o_mulI we_int (we_bin o_addI (we_bin o_mulI (we_var 2 (pv 2)) (we_var 4 (pv 4))) (we_bin o_mulI (we_var 1 (pv 1)) (we_var 3 (pv 3))))) wa_nil)))))
    (ws_cons (ws_set (i := 6) nd rfl (by first | exact Or.inl rfl | exact Or.inr rfl) (we_tup (wa_cons (we_bin o_mulI we_int (we_bin o_addI (we_bin o_mulI (we_var 2 (pv 2)) (we_var 3 (pv 3))) (we_bin o_mulI (we_var 1 (pv 1)) (we_var 4 (pv 4))))) (wa_cons (we_bin o_sub (we_bin o_addI (we_bin o_sub (we_bin o_mulI (we_var 1 (pv 1)) (we_var 1 (pv 1))) (we_bin o_mulI (we_var 2 (pv 2)) (we_var 2 (pv 2)))) (we_bin o_mulI (we_var 3 (pv 3)) (we_var 3 (pv 3)))) (we_bin o_mulI (we_var 4 (pv 4)) (we_var 4 (pv 4)))) (wa_cons (we_bin o_mulI we_int (we_bin o_sub (we_bin o_mulI (we_var 3 (pv 3)) (we_var 4 (pv 4))) (we_bin o_mulI (we_var 1 (pv 1)) (we_var 2 (pv 2))))) wa_nil)))))
    (ws_cons (ws_set (i := 7) nd rfl (by first | exact Or.inl rfl | exact Or.inr rfl) (we_tup (wa_cons (we_bin o_mulI we_int (we_bin o_sub (we_bin o_mulI (we_var 2 (pv 2)) (we_var 4 (pv 4))) (we_bin o_mulI (we_var 1 (pv 1)) (we_var 3 (pv 3))))) (wa_cons (we_bin o_mulI we_int (we_bin o_addI (we_bin o_mulI (we_var 3 (pv 3)) (we_var 4 (pv 4))) (we_bin o_mulI (we_var 1 (pv 1)) (we_var 2 (pv 2))))) (wa_cons (we_bin o_addI (we_bin o_sub (we_bin o_sub (we_bin o_mulI (we_var 1 (pv 1)) (we_var 1 (pv 1))) (we_bin o_mulI (we_var 2 (pv 2)) (we_var 2 (pv 2)))) (we_bin o_mulI (we_var 3 (pv 3)) (we_var 3 (pv 3)))) (we_bin o_mulI (we_var 4 (pv 4)) (we_var 4 (pv 4)))) wa_nil)))))
    (ws_one (ws_ret (we_tup (wa_cons (we_var 5 (pv 5)) (wa_cons (we_var 6 (pv 6)) (wa_cons (we_var 7 (pv 7)) wa_nil))))))))))
abbrev st_turned : Stmt := topS 12
abbrev N_turned : List Str := ["four", "point", "bottom", "top", "part", "tops", "found", "row", "k"]
theorem sc_turned : FnScope N_turned ["four", "point"] (defScope st_turned) := ⟨rfl, rfl, rfl, by decide +kernel, rfl, by decide +kernel, by decide +kernel⟩
theorem tm_turned {P : Program} {w : World} {K : PySem.W.Frag} {mg : Str → Option Value} {base : Heap} {f : Addr} (F_divisor : FnZ P w K mg base 2 "divisor" 2 sp_divisor) (F_rows_of : FnZ P w K mg base 2 "rows_of" 1 sp_rows_of) (F_made : FnZ P w K mg base 2 "made" 2 sp_made) (F_size : FnZ P w K mg base 2 "size" 1 sp_size) (hb_range : mg "range" = none) (hb_sum : mg "sum" = none) (hb_tuple : mg "tuple" = none) (cdv : Value) (A : Around) (outer : List Env) (s : Shared) (H : Hp) (E : XK) (hr : Room 2 (A.deeper (envOfC "turned" (defScope st_turned) s.heap.objs.size f cdv))) :
    WSs (cxOf CX0 P w K mg base N_turned "turned" (defScope st_turned) f cdv A outer s H E).nox (defBody st_turned) w_turned := by
  have nd := sc_turned.nd
  unfold w_turned
  exact (ws_cons (ws_set (i := 2) nd rfl (by first | exact Or.inl rfl | exact Or.inr rfl) we_int)
    (ws_cons (ws_for PassesOwn.never rfl (wi_seq (we_var 1 (pv 1))) (pg_tup rfl (pgs_cons (pg_name (i := 3) nd rfl (by first | exact Or.inl rfl | exact Or.inr rfl)) (pgs_cons (pg_name (i := 4) nd rfl (by first | exact Or.inl rfl | exact Or.inr rfl)) pgs_nil))) (tg_tup (n := 2) (tgs_cons (tg_name 3) (tgs_cons (tg_name 4) tgs_nil))) (ws_one (ws_set (i := 2) nd rfl (by first | exact Or.inl rfl | exact Or.inr rfl) (we_bin o_mulI (we_var 2 (pv 2)) (we_bin o_div (we_var 4 (pv 4)) (we_call F_divisor hr (by rfl) (wa_cons (we_var 2 (pv 2)) (wa_cons (we_var 4 (pv 4)) wa_nil))))))))
    (ws_cons (ws_set (i := 5) nd rfl (by first | exact Or.inl rfl | exact Or.inr rfl) (we_lc (own := [("top", 3), ("part", 4)]) rfl nd (wi_seq (we_var 1 (pv 1))) (blkOk_by (N := N_turned) (sc := defScope st_turned) (by decide +kernel)) (fun _ _ _ _ _ => (pg_tup rfl (pgs_cons (pg_name (i := 3) nd rfl (by first | exact Or.inl rfl | exact Or.inr rfl)) (pgs_cons (pg_name (i := 4) nd rfl (by first | exact Or.inl rfl | exact Or.inr rfl)) pgs_nil)))) (tg_tup (n := 2) (tgs_cons (tg_name 3) (tgs_cons (tg_name 4) tgs_nil))) (by decide) (fun _ _ _ _ _ => wts_nil) (fun _ _ _ _ _ => (we_bin o_mulI (we_var 3 (pv 3)) (we_bin o_div (we_var 2 (pv 2)) (we_var 4 (pv 4)))))))
    (ws_cons (ws_set (i := 6) nd rfl (by first | exact Or.inl rfl | exact Or.inr rfl) (we_lst wa_nil))
    (ws_cons (ws_for PassesOwn.never rfl (wi_seq (we_call F_rows_of hr (by rfl) (wa_cons (we_var 0 (pv 0)) wa_nil))) (pg_name (i := 7) nd rfl (by first | exact Or.inl rfl | exact Or.inr rfl)) (tg_name 7) (ws_one (ws_drop (we_app (we_var 6 (pv 6)) (we_call F_made hr (by rfl) (wa_cons (we_blt (f_sum rfl) (by rfl) hb_sum PyProof.Rows.boot_sum (wa_cons (we_lc (own := [("k", 8)]) rfl nd (wi_rng1 (by rfl) hb_range (wa_cons we_int wa_nil)) (blkOk_by (N := N_turned) (sc := defScope st_turned) (by decide +kernel)) (fun _ _ _ _ _ => (pg_name (i := 8) nd rfl (by first | exact Or.inl rfl | exact Or.inr rfl))) (tg_name 8) (by decide) (fun _ _ _ _ _ => wts_nil) (fun _ _ _ _ _ => (we_bin o_mulI (we_ix (we_var 7 (pv 7)) (we_var 8 (pv 8)) (fun _ _ => rfl)) (we_ix (we_var 5 (pv 5)) (we_var 8 (pv 8)) (fun _ _ => rfl))))) wa_nil)) (wa_cons (we_bin o_mulI (we_call F_size hr (by rfl) (wa_cons (we_var 0 (pv 0)) wa_nil)) (we_var 2 (pv 2))) wa_nil)))))))
    (ws_one (ws_ret (we_ty f_tup (by rfl) hb_tuple PyProof.Rows.boot_tuple (wa_cons (we_var 6 (pv 6)) wa_nil)))))))))
abbrev st_product_of : Stmt := topS 14
abbrev N_product_of : List Str := ["one", "other", "a", "b"]
theorem sc_product_of : FnScope N_product_of ["one", "other"] (defScope st_product_of) := ⟨rfl, rfl, rfl, by decide +kernel, rfl, by decide +kernel, by decide +kernel⟩
theorem tm_product_of {P : Program} {w : World} {K : PySem.W.Frag} {mg : Str → Option Value} {base : Heap} {f : Addr} (hb_zip : mg "zip" = none) (hb_sum : mg "sum" = none) (cdv : Value) (A : Around) (outer : List Env) (s : Shared) (H : Hp) (E : XK) (hr : Room 0 (A.deeper (envOfC "product_of" (defScope st_product_of) s.heap.objs.size f cdv))) :
    WSs (cxOf CX0 P w K mg base N_product_of "product_of" (defScope st_product_of) f cdv A outer s H E).nox (defBody st_product_of) w_product_of := by
  have nd := sc_product_of.nd
  unfold w_product_of
  exact (ws_one (ws_ret (we_blt (f_sum rfl) (by rfl) hb_sum PyProof.Rows.boot_sum (wa_cons (we_lc (own := [("a", 2), ("b", 3)]) rfl nd (wi_zip (by rfl) hb_zip (wa_cons (we_var 0 (pv 0)) (wa_cons (we_var 1 (pv 1)) wa_nil))) (blkOk_by (N := N_product_of) (sc := defScope st_product_of) (by decide +kernel)) (fun _ _ _ _ _ => (pg_tup rfl (pgs_cons (pg_name (i := 2) nd rfl (by first | exact Or.inl rfl | exact Or.inr rfl)) (pgs_cons (pg_name (i := 3) nd rfl (by first | exact Or.inl rfl | exact Or.inr rfl)) pgs_nil)))) (tg_tup (n := 2) (tgs_cons (tg_name 2) (tgs_cons (tg_name 3) tgs_nil))) (by decide) (fun _ _ _ _ _ => wts_nil) (fun _ _ _ _ _ => (we_bin o_mulI (we_var 2 (pv 2)) (we_var 3 (pv 3))))) wa_nil))))
abbrev st_size_of : Stmt := topS 15
abbrev N_size_of : List Str := ["way"]
theorem sc_size_of : FnScope N_size_of ["way"] (defScope st_size_of) := ⟨rfl, rfl, rfl, by decide +kernel, rfl, by decide +kernel, by decide +kernel⟩
theorem tm_size_of {P : Program} {w : World} {K : PySem.W.Frag} {mg : Str → Option Value} {base : Heap} {f : Addr} (F_product_of : FnZ P w K mg base 1 "product_of" 2 sp_product_of) (cdv : Value) (A : Around) (outer : List Env) (s : Shared) (H : Hp) (E : XK) (hr : Room 1 (A.deeper (envOfC "size_of" (defScope st_size_of) s.heap.objs.size f cdv))) :
    WSs (cxOf CX0 P w K mg base N_size_of "size_of" (defScope st_size_of) f cdv A outer s H E).nox (defBody st_size_of) w_size_of := by
  have nd := sc_size_of.nd
  unfold w_size_of
  exact (ws_one (ws_ret (we_call F_product_of hr (by rfl) (wa_cons (we_var 0 (pv 0)) (wa_cons (we_var 0 (pv 0)) wa_nil)))))
abbrev st_upright_to_both : Stmt := topS 16
abbrev N_upright_to_both : List Str := ["one", "other", "a", "b", "c", "p", "q", "r"]
theorem sc_upright_to_both : FnScope N_upright_to_both ["one", "other"] (defScope st_upright_to_both) := ⟨rfl, rfl, rfl, by decide +kernel, rfl, by decide +kernel, by decide +kernel⟩
theorem tm_upright_to_both {P : Program} {w : World} {K : PySem.W.Frag} {mg : Str → Option Value} {base : Heap} {f : Addr} (cdv : Value) (A : Around) (outer : List Env) (s : Shared) (H : Hp) (E : XK) (hr : Room 0 (A.deeper (envOfC "upright_to_both" (defScope st_upright_to_both) s.heap.objs.size f cdv))) :
    WSs (cxOf CX0 P w K mg base N_upright_to_both "upright_to_both" (defScope st_upright_to_both) f cdv A outer s H E).nox (defBody st_upright_to_both) w_upright_to_both := by
  have nd := sc_upright_to_both.nd
  unfold w_upright_to_both
  exact (ws_cons (ws_unp (we_var 0 (pv 0)) (pg_tup rfl (pgs_cons (pg_name (i := 2) nd rfl (by first | exact Or.inl rfl | exact Or.inr rfl)) (pgs_cons (pg_name (i := 3) nd rfl (by first | exact Or.inl rfl | exact Or.inr rfl)) (pgs_cons (pg_name (i := 4) nd rfl (by first | exact Or.inl rfl | exact Or.inr rfl)) pgs_nil)))) (tg_tup (n := 3) (tgs_cons (tg_name 2) (tgs_cons (tg_name 3) (tgs_cons (tg_name 4) tgs_nil)))))
    (ws_cons (ws_unp (we_var 1 (pv 1)) (pg_tup rfl (pgs_cons (pg_name (i := 5) nd rfl (by first | exact Or.inl rfl | exact Or.inr rfl)) (pgs_cons (pg_name (i := 6) nd rfl (by first | exact Or.inl rfl | exact Or.inr rfl)) (pgs_cons (pg_name (i := 7) nd rfl (by first | exact Or.inl rfl | exact Or.inr rfl)) pgs_nil)))) (tg_tup (n := 3) (tgs_cons (tg_name 5) (tgs_cons (tg_name 6) (tgs_cons (tg_name 7) tgs_nil)))))
    (ws_one (ws_ret (we_tup (wa_cons (we_bin o_sub (we_bin o_mulI (we_var 3 (pv 3)) (we_var 7 (pv 7))) (we_bin o_mulI (we_var 4 (pv 4)) (we_var 6 (pv 6)))) (wa_cons (we_bin o_sub (we_bin o_mulI (we_var 4 (pv 4)) (we_var 5 (pv 5))) (we_bin o_mulI (we_var 2 (pv 2)) (we_var 7 (pv 7)))) (wa_cons (we_bin o_sub (we_bin o_mulI (we_var 2 (pv 2)) (we_var 6 (pv 6))) (we_bin o_mulI (we_var 3 (pv 3)) (we_var 5 (pv 5)))) wa_nil))))))))
abbrev st_upright_to : Stmt := topS 17
abbrev N_upright_to : List Str := ["way"]
theorem sc_upright_to : FnScope N_upright_to ["way"] (defScope st_upright_to) := ⟨rfl, rfl, rfl, by decide +kernel, rfl, by decide +kernel, by decide +kernel⟩
theorem tm_upright_to {P : Program} {w : World} {K : PySem.W.Frag} {mg : Str → Option Value} {base : Heap} {f : Addr} (cdv : Value) (A : Around) (outer : List Env) (s : Shared) (H : Hp) (E : XK) (hr : Room 0 (A.deeper (envOfC "upright_to" (defScope st_upright_to) s.heap.objs.size f cdv))) :
    WSs (cxOf CX0 P w K mg base N_upright_to "upright_to" (defScope st_upright_to) f cdv A outer s H E).nox (defBody st_upright_to) w_upright_to := by
  have nd := sc_upright_to.nd
  unfold w_upright_to
  exact (ws_cons (ws_if ((ww_and (wt_cmp (o_eq hr.units) (we_ix (we_var 0 (pv 0)) we_int (fun _ _ => rfl)) we_int (nomark _)) (ww_and1 (wt_cmp (o_eq hr.units) (we_ix (we_var 0 (pv 0)) we_int (fun _ _ => rfl)) we_int (nomark _))))).wt (ws_one (ws_ret (we_tup (wa_cons we_int (wa_cons we_int (wa_cons we_int wa_nil)))))) ws_nil)
    (ws_one (ws_ret (we_tup (wa_cons (we_un u_neg (we_ix (we_var 0 (pv 0)) we_int (fun _ _ => rfl))) (wa_cons (we_ix (we_var 0 (pv 0)) we_int (fun _ _ => rfl)) (wa_cons we_int wa_nil)))))))
abbrev st_spun : Stmt := topS 18
abbrev N_spun : List Str := ["four", "way", "row"]
theorem sc_spun : FnScope N_spun ["four", "way"] (defScope st_spun) := ⟨rfl, rfl, rfl, by decide +kernel, rfl, by decide +kernel, by decide +kernel⟩
theorem tm_spun {P : Program} {w : World} {K : PySem.W.Frag} {mg : Str → Option Value} {base : Heap} {f : Addr} (F_rows_of : FnZ P w K mg base 1 "rows_of" 1 sp_rows_of) (F_product_of : FnZ P w K mg base 1 "product_of" 2 sp_product_of) (hb_tuple : mg "tuple" = none) (cdv : Value) (A : Around) (outer : List Env) (s : Shared) (H : Hp) (E : XK) (hr : Room 1 (A.deeper (envOfC "spun" (defScope st_spun) s.heap.objs.size f cdv))) :
    WSs (cxOf CX0 P w K mg base N_spun "spun" (defScope st_spun) f cdv A outer s H E).nox (defBody st_spun) w_spun := by
  have nd := sc_spun.nd
  unfold w_spun
  exact (ws_one (ws_ret (we_ty f_tup (by rfl) hb_tuple PyProof.Rows.boot_tuple (wa_cons (we_lc (own := [("row", 2)]) rfl nd (wi_seq (we_call F_rows_of hr (by rfl) (wa_cons (we_var 0 (pv 0)) wa_nil))) (blkOk_by (N := N_spun) (sc := defScope st_spun) (by decide +kernel)) (fun _ _ _ _ _ => (pg_name (i := 2) nd rfl (by first | exact Or.inl rfl | exact Or.inr rfl))) (tg_name 2) (by decide) (fun _ _ _ _ _ => wts_nil) (fun _ _ _ _ _ => (we_call F_product_of hr (by rfl) (wa_cons (we_var 2 (pv 2)) (wa_cons (we_var 1 (pv 1)) wa_nil))))) wa_nil))))
abbrev st_point_alike : Stmt := topS 19
abbrev N_point_alike : List Str := ["one", "other"]
theorem sc_point_alike : FnScope N_point_alike ["one", "other"] (defScope st_point_alike) := ⟨rfl, rfl, rfl, by decide +kernel, rfl, by decide +kernel, by decide +kernel⟩
theorem tm_point_alike {P : Program} {w : World} {K : PySem.W.Frag} {mg : Str → Option Value} {base : Heap} {f : Addr} (F_upright_to_both : FnZ P w K mg base 1 "upright_to_both" 2 sp_upright_to_both) (F_product_of : FnZ P w K mg base 1 "product_of" 2 sp_product_of) (cdv : Value) (A : Around) (outer : List Env) (s : Shared) (H : Hp) (E : XK) (hr : Room 1 (A.deeper (envOfC "point_alike" (defScope st_point_alike) s.heap.objs.size f cdv))) :
    WSs (cxOf CX0 P w K mg base N_point_alike "point_alike" (defScope st_point_alike) f cdv A outer s H E).nox (defBody st_point_alike) w_point_alike := by
  have nd := sc_point_alike.nd
  unfold w_point_alike
  exact (ws_one (ws_ret (we_and (we_cmp (o_eq hr.units) (we_call F_upright_to_both hr (by rfl) (wa_cons (we_var 0 (pv 0)) (wa_cons (we_var 1 (pv 1)) wa_nil))) (we_tup (wa_cons we_int (wa_cons we_int (wa_cons we_int wa_nil)))) (nomark _)) (we_one (we_cmp o_gt (we_call F_product_of hr (by rfl) (wa_cons (we_var 0 (pv 0)) (wa_cons (we_var 1 (pv 1)) wa_nil))) we_int (nomark _))))))
abbrev st_side_of : Stmt := topS 20
abbrev N_side_of : List Str := ["number", "side"]
theorem sc_side_of : FnScope N_side_of ["number"] (defScope st_side_of) := ⟨rfl, rfl, rfl, by decide +kernel, rfl, by decide +kernel, by decide +kernel⟩
theorem tm_side_of {P : Program} {w : World} {K : PySem.W.Frag} {mg : Str → Option Value} {base : Heap} {f : Addr} (F_root : FnZ P w K mg base 1 "root" 1 sp_root) (cdv : Value) (A : Around) (outer : List Env) (s : Shared) (H : Hp) (E : XK) (hr : Room 1 (A.deeper (envOfC "side_of" (defScope st_side_of) s.heap.objs.size f cdv))) :
    WSs (cxOf CX0 P w K mg base N_side_of "side_of" (defScope st_side_of) f cdv A outer s H E).nox (defBody st_side_of) w_side_of := by
  have nd := sc_side_of.nd
  unfold w_side_of
  exact (ws_cons (ws_set (i := 1) nd rfl (by first | exact Or.inl rfl | exact Or.inr rfl) (we_call F_root hr (by rfl) (wa_cons (we_var 0 (pv 0)) wa_nil)))
    (ws_cons (ws_if (wt_cmp (o_eq hr.units) (we_bin o_mulI (we_var 1 (pv 1)) (we_var 1 (pv 1))) (we_var 0 (pv 0)) (nomark _)) (ws_one (ws_ret (we_var 1 (pv 1)))) ws_nil)
    (ws_one (ws_ret we_non))))
abbrev st_led : Stmt := topS 21
abbrev N_led : List Str := ["one", "other", "both", "side", "first"]
theorem sc_led : FnScope N_led ["one", "other"] (defScope st_led) := ⟨rfl, rfl, rfl, by decide +kernel, rfl, by decide +kernel, by decide +kernel⟩
theorem tm_led {P : Program} {w : World} {K : PySem.W.Frag} {mg : Str → Option Value} {base : Heap} {f : Addr} (F_size_of : FnZ P w K mg base 4 "size_of" 1 sp_size_of) (F_side_of : FnZ P w K mg base 4 "side_of" 1 sp_side_of) (F_product_of : FnZ P w K mg base 4 "product_of" 2 sp_product_of) (F_plain : FnZ P w K mg base 4 "plain" 1 sp_plain) (F_upright_to : FnZ P w K mg base 4 "upright_to" 1 sp_upright_to) (F_upright_to_both : FnZ P w K mg base 4 "upright_to_both" 2 sp_upright_to_both) (cdv : Value) (A : Around) (outer : List Env) (s : Shared) (H : Hp) (E : XK) (hr : Room 4 (A.deeper (envOfC "led" (defScope st_led) s.heap.objs.size f cdv))) :
    WSs (cxOf CX0 P w K mg base N_led "led" (defScope st_led) f cdv A outer s H E).nox (defBody st_led) w_led := by
  have nd := sc_led.nd
  unfold w_led
  exact (ws_cons (ws_set (i := 2) nd rfl (by first | exact Or.inl rfl | exact Or.inr rfl) (we_bin o_mulI (we_call F_size_of hr (by rfl) (wa_cons (we_var 0 (pv 0)) wa_nil)) (we_call F_size_of hr (by rfl) (wa_cons (we_var 1 (pv 1)) wa_nil))))
    (ws_cons (ws_set (i := 3) nd rfl (by first | exact Or.inl rfl | exact Or.inr rfl) (we_call F_side_of hr (by rfl) (wa_cons (we_var 2 (pv 2)) wa_nil)))
    (ws_cons (ws_if (wt_cmp o_isN (we_var 3 (pv 3)) we_non (nomark _)) (ws_one (ws_ret (we_tup (wa_cons we_str (wa_cons (we_var 2 (pv 2)) wa_nil))))) ws_nil)
    (ws_cons (ws_set (i := 4) nd rfl (by first | exact Or.inl rfl | exact Or.inr rfl) (we_bin o_addI (we_var 3 (pv 3)) (we_call F_product_of hr (by rfl) (wa_cons (we_var 0 (pv 0)) (wa_cons (we_var 1 (pv 1)) wa_nil)))))
    (ws_cons (ws_if (wt_cmp (o_eq hr.units) (we_var 4 (pv 4)) we_int (nomark _)) (ws_one (ws_ret (we_tup (wa_cons we_str (wa_cons (we_call F_plain hr (by rfl) (wa_cons (we_bin o_addI (we_tup (wa_cons we_int wa_nil)) (we_call F_upright_to hr (by rfl) (wa_cons (we_var 0 (pv 0)) wa_nil))) wa_nil)) wa_nil))))) ws_nil)
    (ws_one (ws_ret (we_tup (wa_cons we_str (wa_cons (we_call F_plain hr (by rfl) (wa_cons (we_bin o_addI (we_tup (wa_cons (we_var 4 (pv 4)) wa_nil)) (we_call F_upright_to_both hr (by rfl) (wa_cons (we_var 0 (pv 0)) (wa_cons (we_var 1 (pv 1)) wa_nil)))) wa_nil)) wa_nil))))))))))
abbrev st_shadow : Stmt := topS 22
abbrev N_shadow : List Str := ["way", "axis", "far", "along", "number", "other"]
theorem sc_shadow : FnScope N_shadow ["way", "axis"] (defScope st_shadow) := ⟨rfl, rfl, rfl, by decide +kernel, rfl, by decide +kernel, by decide +kernel⟩
theorem tm_shadow {P : Program} {w : World} {K : PySem.W.Frag} {mg : Str → Option Value} {base : Heap} {f : Addr} (F_size_of : FnZ P w K mg base 2 "size_of" 1 sp_size_of) (F_product_of : FnZ P w K mg base 2 "product_of" 2 sp_product_of) (hb_zip : mg "zip" = none) (hb_tuple : mg "tuple" = none) (cdv : Value) (A : Around) (outer : List Env) (s : Shared) (H : Hp) (E : XK) (hr : Room 2 (A.deeper (envOfC "shadow" (defScope st_shadow) s.heap.objs.size f cdv))) :
    WSs (cxOf CX0 P w K mg base N_shadow "shadow" (defScope st_shadow) f cdv A outer s H E).nox (defBody st_shadow) w_shadow := by
  have nd := sc_shadow.nd
  unfold w_shadow
  exact (ws_cons (ws_set (i := 2) nd rfl (by first | exact Or.inl rfl | exact Or.inr rfl) (we_call F_size_of hr (by rfl) (wa_cons (we_var 1 (pv 1)) wa_nil)))
    (ws_cons (ws_set (i := 3) nd rfl (by first | exact Or.inl rfl | exact Or.inr rfl) (we_call F_product_of hr (by rfl) (wa_cons (we_var 0 (pv 0)) (wa_cons (we_var 1 (pv 1)) wa_nil))))
    (ws_one (ws_ret (we_ty f_tup (by rfl) hb_tuple PyProof.Rows.boot_tuple (wa_cons (we_lc (own := [("number", 4), ("other", 5)]) rfl nd (wi_zip (by rfl) hb_zip (wa_cons (we_var 0 (pv 0)) (wa_cons (we_var 1 (pv 1)) wa_nil))) (blkOk_by (N := N_shadow) (sc := defScope st_shadow) (by decide +kernel)) (fun _ _ _ _ _ => (pg_tup rfl (pgs_cons (pg_name (i := 4) nd rfl (by first | exact Or.inl rfl | exact Or.inr rfl)) (pgs_cons (pg_name (i := 5) nd rfl (by first | exact Or.inl rfl | exact Or.inr rfl)) pgs_nil)))) (tg_tup (n := 2) (tgs_cons (tg_name 4) (tgs_cons (tg_name 5) tgs_nil))) (by decide) (fun _ _ _ _ _ => wts_nil) (fun _ _ _ _ _ => (we_bin o_sub (we_bin o_mulI (we_var 2 (pv 2)) (we_var 4 (pv 4))) (we_bin o_mulI (we_var 3 (pv 3)) (we_var 5 (pv 5)))))) wa_nil))))))
abbrev st_about_axis : Stmt := topS 23
abbrev N_about_axis : List Str := ["one", "other", "axis"]
theorem sc_about_axis : FnScope N_about_axis ["one", "other", "axis"] (defScope st_about_axis) := ⟨rfl, rfl, rfl, by decide +kernel, rfl, by decide +kernel, by decide +kernel⟩
theorem tm_about_axis {P : Program} {w : World} {K : PySem.W.Frag} {mg : Str → Option Value} {base : Heap} {f : Addr} (F_point_alike : FnZ P w K mg base 5 "point_alike" 2 sp_point_alike) (F_upright_to_both : FnZ P w K mg base 5 "upright_to_both" 2 sp_upright_to_both) (F_led : FnZ P w K mg base 5 "led" 2 sp_led) (cdv : Value) (A : Around) (outer : List Env) (s : Shared) (H : Hp) (E : XK) (hr : Room 5 (A.deeper (envOfC "about_axis" (defScope st_about_axis) s.heap.objs.size f cdv))) :
    WSs (cxOf CX0 P w K mg base N_about_axis "about_axis" (defScope st_about_axis) f cdv A outer s H E).nox (defBody st_about_axis) w_about_axis := by
  have nd := sc_about_axis.nd
  unfold w_about_axis
  exact (ws_cons (ws_if ((ww_or (wt_val (we_call F_point_alike hr (by rfl) (wa_cons (we_var 0 (pv 0)) (wa_cons (we_var 1 (pv 1)) wa_nil)))) (ww_or1 (wt_cmp (o_ne hr.units) (we_call F_upright_to_both hr (by rfl) (wa_cons (we_var 0 (pv 0)) (wa_cons (we_var 1 (pv 1)) wa_nil))) (we_tup (wa_cons we_int (wa_cons we_int (wa_cons we_int wa_nil)))) (nomark _))))).wt (ws_one (ws_ret (we_ix (we_call F_led hr (by rfl) (wa_cons (we_var 0 (pv 0)) (wa_cons (we_var 1 (pv 1)) wa_nil))) we_int (fun _ _ => rfl)))) ws_nil)
    (ws_one (ws_ret (we_bin o_addI (we_tup (wa_cons we_int wa_nil)) (we_var 2 (pv 2))))))
abbrev st_led_both : Stmt := topS 24
abbrev N_led_both : List Str := ["first", "second", "third", "fourth", "one", "other", "far", "begun", "rest"]
theorem sc_led_both : FnScope N_led_both ["first", "second", "third", "fourth"] (defScope st_led_both) := ⟨rfl, rfl, rfl, by decide +kernel, rfl, by decide +kernel, by decide +kernel⟩
theorem tm_led_both {P : Program} {w : World} {K : PySem.W.Frag} {mg : Str → Option Value} {base : Heap} {f : Addr} (F_side_of : FnZ P w K mg base 6 "side_of" 1 sp_side_of) (F_size_of : FnZ P w K mg base 6 "size_of" 1 sp_size_of) (F_product_of : FnZ P w K mg base 6 "product_of" 2 sp_product_of) (F_led : FnZ P w K mg base 6 "led" 2 sp_led) (F_about_axis : FnZ P w K mg base 6 "about_axis" 3 sp_about_axis) (F_shadow : FnZ P w K mg base 6 "shadow" 2 sp_shadow) (F_spun : FnZ P w K mg base 6 "spun" 2 sp_spun) (F_then : FnZ P w K mg base 6 "then" 2 sp_then) (cdv : Value) (A : Around) (outer : List Env) (s : Shared) (H : Hp) (E : XK) (hr : Room 6 (A.deeper (envOfC "led_both" (defScope st_led_both) s.heap.objs.size f cdv))) :
    WSs (cxOf CX0 P w K mg base N_led_both "led_both" (defScope st_led_both) f cdv A outer s H E).nox (defBody st_led_both) w_led_both := by
  have nd := sc_led_both.nd
  unfold w_led_both
  exact (ws_cons (ws_set (i := 4) nd rfl (by first | exact Or.inl rfl | exact Or.inr rfl) (we_call F_side_of hr (by rfl) (wa_cons (we_bin o_mulI (we_call F_size_of hr (by rfl) (wa_cons (we_var 0 (pv 0)) wa_nil)) (we_call F_size_of hr (by rfl) (wa_cons (we_var 2 (pv 2)) wa_nil))) wa_nil)))
    (ws_cons (ws_if (wt_cmp o_isN (we_var 4 (pv 4)) we_non (nomark _)) (ws_one (ws_ret (we_tup (wa_cons we_str (wa_cons we_str wa_nil))))) ws_nil)
    (ws_cons (ws_set (i := 5) nd rfl (by first | exact Or.inl rfl | exact Or.inr rfl) (we_call F_side_of hr (by rfl) (wa_cons (we_bin o_mulI (we_call F_size_of hr (by rfl) (wa_cons (we_var 1 (pv 1)) wa_nil)) (we_call F_size_of hr (by rfl) (wa_cons (we_var 3 (pv 3)) wa_nil))) wa_nil)))
    (ws_cons (ws_if (wt_cmp o_isN (we_var 5 (pv 5)) we_non (nomark _)) (ws_one (ws_ret (we_tup (wa_cons we_str (wa_cons we_str wa_nil))))) ws_nil)
    (ws_cons (ws_set (i := 6) nd rfl (by first | exact Or.inl rfl | exact Or.inr rfl) (we_bin o_mulI (we_call F_size_of hr (by rfl) (wa_cons (we_var 2 (pv 2)) wa_nil)) (we_call F_size_of hr (by rfl) (wa_cons (we_var 3 (pv 3)) wa_nil))))
    (ws_cons (ws_if (wt_cmp (o_ne hr.units) (we_bin o_mulI (we_call F_product_of hr (by rfl) (wa_cons (we_var 0 (pv 0)) (wa_cons (we_var 1 (pv 1)) wa_nil))) (we_var 6 (pv 6))) (we_bin o_mulI (we_bin o_mulI (we_var 4 (pv 4)) (we_var 5 (pv 5))) (we_call F_product_of hr (by rfl) (wa_cons (we_var 2 (pv 2)) (wa_cons (we_var 3 (pv 3)) wa_nil)))) (nomark _)) (ws_one (ws_ret (we_tup (wa_cons we_str (wa_cons we_str wa_nil))))) ws_nil)
    (ws_cons (ws_set (i := 7) nd rfl (by first | exact Or.inl rfl | exact Or.inr rfl) (we_ix (we_call F_led hr (by rfl) (wa_cons (we_var 0 (pv 0)) (wa_cons (we_var 2 (pv 2)) wa_nil))) we_int (fun _ _ => rfl)))
    (ws_cons (ws_set (i := 8) nd rfl (by first | exact Or.inl rfl | exact Or.inr rfl) (we_call F_about_axis hr (by rfl) (wa_cons (we_call F_shadow hr (by rfl) (wa_cons (we_call F_spun hr (by rfl) (wa_cons (we_var 7 (pv 7)) (wa_cons (we_var 1 (pv 1)) wa_nil))) (wa_cons (we_var 2 (pv 2)) wa_nil))) (wa_cons (we_call F_shadow hr (by rfl) (wa_cons (we_var 3 (pv 3)) (wa_cons (we_var 2 (pv 2)) wa_nil))) (wa_cons (we_var 2 (pv 2)) wa_nil)))))
    (ws_one (ws_ret (we_tup (wa_cons we_str (wa_cons (we_call F_then hr (by rfl) (wa_cons (we_var 7 (pv 7)) (wa_cons (we_var 8 (pv 8)) wa_nil))) wa_nil)))))))))))))
abbrev st_common_bottom : Stmt := topS 26
abbrev N_common_bottom : List Str := ["points", "bottom", "point", "top", "part"]
theorem sc_common_bottom : FnScope N_common_bottom ["points"] (defScope st_common_bottom) := ⟨rfl, rfl, rfl, by decide +kernel, rfl, by decide +kernel, by decide +kernel⟩
theorem tm_common_bottom {P : Program} {w : World} {K : PySem.W.Frag} {mg : Str → Option Value} {base : Heap} {f : Addr} (F_divisor : FnZ P w K mg base 1 "divisor" 2 sp_divisor) (cdv : Value) (A : Around) (outer : List Env) (s : Shared) (H : Hp) (E : XK) (hr : Room 1 (A.deeper (envOfC "common_bottom" (defScope st_common_bottom) s.heap.objs.size f cdv))) :
    WSs (cxOf CX0 P w K mg base N_common_bottom "common_bottom" (defScope st_common_bottom) f cdv A outer s H E).nox (defBody st_common_bottom) w_common_bottom := by
  have nd := sc_common_bottom.nd
  unfold w_common_bottom
  exact (ws_cons (ws_set (i := 1) nd rfl (by first | exact Or.inl rfl | exact Or.inr rfl) we_int)
    (ws_cons (ws_for PassesOwn.never rfl (wi_seq (we_var 0 (pv 0))) (pg_name (i := 2) nd rfl (by first | exact Or.inl rfl | exact Or.inr rfl)) (tg_name 2) (ws_one (ws_for PassesOwn.never rfl (wi_seq (we_var 2 (pv 2))) (pg_tup rfl (pgs_cons (pg_name (i := 3) nd rfl (by first | exact Or.inl rfl | exact Or.inr rfl)) (pgs_cons (pg_name (i := 4) nd rfl (by first | exact Or.inl rfl | exact Or.inr rfl)) pgs_nil))) (tg_tup (n := 2) (tgs_cons (tg_name 3) (tgs_cons (tg_name 4) tgs_nil))) (ws_one (ws_set (i := 1) nd rfl (by first | exact Or.inl rfl | exact Or.inr rfl) (we_bin o_mulI (we_var 1 (pv 1)) (we_bin o_div (we_var 4 (pv 4)) (we_call F_divisor hr (by rfl) (wa_cons (we_var 1 (pv 1)) (wa_cons (we_var 4 (pv 4)) wa_nil))))))))))
    (ws_one (ws_ret (we_var 1 (pv 1))))))
abbrev st_two_apart : Stmt := topS 27
abbrev N_two_apart : List Str := ["ways", "one", "other"]
theorem sc_two_apart : FnScope N_two_apart ["ways"] (defScope st_two_apart) := ⟨rfl, rfl, rfl, by decide +kernel, rfl, by decide +kernel, by decide +kernel⟩
theorem tm_two_apart {P : Program} {w : World} {K : PySem.W.Frag} {mg : Str → Option Value} {base : Heap} {f : Addr} (F_upright_to_both : FnZ P w K mg base 1 "upright_to_both" 2 sp_upright_to_both) (cdv : Value) (A : Around) (outer : List Env) (s : Shared) (H : Hp) (E : XK) (hr : Room 1 (A.deeper (envOfC "two_apart" (defScope st_two_apart) s.heap.objs.size f cdv))) :
    WSs (cxOf CX0 P w K mg base N_two_apart "two_apart" (defScope st_two_apart) f cdv A outer s H E).nox (defBody st_two_apart) w_two_apart := by
  have nd := sc_two_apart.nd
  unfold w_two_apart
  exact (ws_cons (ws_for PassesOwn.never rfl (wi_seq (we_var 0 (pv 0))) (pg_name (i := 1) nd rfl (by first | exact Or.inl rfl | exact Or.inr rfl)) (tg_name 1) (ws_one (ws_for PassesOwn.never rfl (wi_seq (we_var 0 (pv 0))) (pg_name (i := 2) nd rfl (by first | exact Or.inl rfl | exact Or.inr rfl)) (tg_name 2) (ws_one (ws_if (wt_cmp (o_ne hr.units) (we_call F_upright_to_both hr (by rfl) (wa_cons (we_var 1 (pv 1)) (wa_cons (we_var 2 (pv 2)) wa_nil))) (we_tup (wa_cons we_int (wa_cons we_int (wa_cons we_int wa_nil)))) (nomark _)) (ws_one (ws_ret (we_tup (wa_cons (we_var 1 (pv 1)) (wa_cons (we_var 2 (pv 2)) wa_nil))))) ws_nil)))))
    (ws_one (ws_ret we_non)))
abbrev st_keeps : Stmt := topS 28
abbrev N_keeps : List Str := ["points", "bottom", "ways", "point", "two", "here", "there", "found", "one", "other", "some", "top", "part", "four"]
theorem sc_keeps : FnScope N_keeps ["points"] (defScope st_keeps) := ⟨rfl, rfl, rfl, by decide +kernel, rfl, by decide +kernel, by decide +kernel⟩
theorem tm_keeps {P : Program} {w : World} {K : PySem.W.Frag} {mg : Str → Option Value} {base : Heap} {f : Addr} (F_common_bottom : FnZ P w K mg base 7 "common_bottom" 1 sp_common_bottom) (F_two_apart : FnZ P w K mg base 7 "two_apart" 1 sp_two_apart) (F_size_of : FnZ P w K mg base 7 "size_of" 1 sp_size_of) (F_product_of : FnZ P w K mg base 7 "product_of" 2 sp_product_of) (F_led_both : FnZ P w K mg base 7 "led_both" 4 sp_led_both) (F_turned : FnZ P w K mg base 7 "turned" 2 sp_turned) (hb_tuple : mg "tuple" = none) (hb_all : mg "all" = none) (hb_sorted : mg "sorted" = none) (cdv : Value) (A : Around) (outer : List Env) (s : Shared) (H : Hp) (E : XK) (hr : Room 7 (A.deeper (envOfC "keeps" (defScope st_keeps) s.heap.objs.size f cdv))) :
    WSs (cxOf CX0 P w K mg base N_keeps "keeps" (defScope st_keeps) f cdv A outer s H E).nox (defBody st_keeps) w_keeps := by
  have nd := sc_keeps.nd
  unfold w_keeps
  exact (ws_cons (ws_set (i := 1) nd rfl (by first | exact Or.inl rfl | exact Or.inr rfl) (we_call F_common_bottom hr (by rfl) (wa_cons (we_var 0 (pv 0)) wa_nil)))
    (ws_cons (ws_set (i := 2) nd rfl (by first | exact Or.inl rfl | exact Or.inr rfl) (we_lst wa_nil))
    (ws_cons (ws_for PassesOwn.never rfl (wi_seq (we_var 0 (pv 0))) (pg_name (i := 3) nd rfl (by first | exact Or.inl rfl | exact Or.inr rfl)) (tg_name 3) (ws_one (ws_drop (we_app (we_var 2 (pv 2)) (we_ty f_tup (by rfl) hb_tuple PyProof.Rows.boot_tuple (wa_cons (we_lc (own := [("top", 11), ("part", 12)]) rfl nd (wi_seq (we_var 3 (pv 3))) (blkOk_by (N := N_keeps) (sc := defScope st_keeps) (by decide +kernel)) (fun _ _ _ _ _ => (pg_tup rfl (pgs_cons (pg_name (i := 11) nd rfl (by first | exact Or.inl rfl | exact Or.inr rfl)) (pgs_cons (pg_name (i := 12) nd rfl (by first | exact Or.inl rfl | exact Or.inr rfl)) pgs_nil)))) (tg_tup (n := 2) (tgs_cons (tg_name 11) (tgs_cons (tg_name 12) tgs_nil))) (by decide) (fun _ _ _ _ _ => wts_nil) (fun _ _ _ _ _ => (we_bin o_mulI (we_var 11 (pv 11)) (we_bin o_div (we_var 1 (pv 1)) (we_var 12 (pv 12)))))) wa_nil))))))
    (ws_cons (ws_set (i := 4) nd rfl (by first | exact Or.inl rfl | exact Or.inr rfl) (we_call F_two_apart hr (by rfl) (wa_cons (we_var 2 (pv 2)) wa_nil)))
    (ws_cons (ws_if (wt_cmp o_isN (we_var 4 (pv 4)) we_non (nomark _)) (ws_one (ws_ret (we_tupR (wa_cons we_str wa_nil)))) ws_nil)
    (ws_cons (ws_unp (we_var 4 (pv 4)) (pg_tup rfl (pgs_cons (pg_name (i := 5) nd rfl (by first | exact Or.inl rfl | exact Or.inr rfl)) (pgs_cons (pg_name (i := 6) nd rfl (by first | exact Or.inl rfl | exact Or.inr rfl)) pgs_nil))) (tg_tup (n := 2) (tgs_cons (tg_name 5) (tgs_cons (tg_name 6) tgs_nil))))
    (ws_cons (ws_set (i := 7) nd rfl (by first | exact Or.inl rfl | exact Or.inr rfl) we_dnew)
    (ws_cons (ws_for PassesOwn.never rfl (wi_seq (we_var 2 (pv 2))) (pg_name (i := 8) nd rfl (by first | exact Or.inl rfl | exact Or.inr rfl)) (tg_name 8) (ws_one (ws_for PassesOwn.never rfl (wi_seq (we_var 2 (pv 2))) (pg_name (i := 9) nd rfl (by first | exact Or.inl rfl | exact Or.inr rfl)) (tg_name 9) (ws_one (ws_if ((ww_and (wt_cmp (o_eq hr.units) (we_call F_size_of hr (by rfl) (wa_cons (we_var 8 (pv 8)) wa_nil)) (we_call F_size_of hr (by rfl) (wa_cons (we_var 5 (pv 5)) wa_nil)) (nomark _)) (ww_and1 (wt_cmp (o_eq hr.units) (we_call F_size_of hr (by rfl) (wa_cons (we_var 9 (pv 9)) wa_nil)) (we_call F_size_of hr (by rfl) (wa_cons (we_var 6 (pv 6)) wa_nil)) (nomark _))))).wt (ws_one (ws_if (wt_cmp (o_eq hr.units) (we_call F_product_of hr (by rfl) (wa_cons (we_var 8 (pv 8)) (wa_cons (we_var 9 (pv 9)) wa_nil))) (we_call F_product_of hr (by rfl) (wa_cons (we_var 5 (pv 5)) (wa_cons (we_var 6 (pv 6)) wa_nil))) (nomark _)) (ws_one (ws_dput hr.units (we_var 7 (pv 7)) (we_ix (we_call F_led_both hr (by rfl) (wa_cons (we_var 5 (pv 5)) (wa_cons (we_var 6 (pv 6)) (wa_cons (we_var 8 (pv 8)) (wa_cons (we_var 9 (pv 9)) wa_nil))))) we_int (fun _ _ => rfl)) we_bl)) ws_nil)) ws_nil)))))
    (ws_cons (ws_setLc (own := [("four", 13)]) (i := 10) rfl nd rfl rfl (sw_true rfl rfl rfl (by decide +kernel)) (wi_X (we_var 7 (pv 7))) (blkOk_by (N := N_keeps) (sc := defScope st_keeps) (by decide +kernel)) (fun _ _ _ _ _ => (pg_name (i := 13) nd rfl (by first | exact Or.inl rfl | exact Or.inr rfl))) (tg_name 13) (by decide) (fun _ _ _ _ _ => (wts_one (wt_val (we_blt (f_all rfl) (by rfl) hb_all PyProof.Rows.boot_all (wa_cons (we_lc (own := [("point", 3)]) rfl nd (wi_seq (we_var 0 (pv 0))) (blkOk_in (N := N_keeps) (sc0 := ({ kind := .function, names := [(PySem.Str.ofString ".0", .local), (PySem.Str.ofString "four", .cell), (PySem.Str.ofString "all", .globalImplicit), (PySem.Str.ofString "points", .free)], isGenerator := false, isCoroutine := false, more := [] } : Scope)) (S := defScope st_keeps) rfl (by decide +kernel)) (fun _ _ _ _ _ => (pg_name (i := 3) nd rfl (by first | exact Or.inl rfl | exact Or.inr rfl))) (tg_name 3) (by decide) (fun _ _ _ _ _ => wts_nil) (fun _ _ _ _ _ => (we_cmp (o_in hr.units) (we_call F_turned hr (by rfl) (wa_cons (we_var 13 (pv 13)) (wa_cons (we_var 3 (pv 3)) wa_nil))) (we_var 0 (pv 0)) (by with_unfolding_all rfl)))) wa_nil))))) (fun _ _ _ _ _ => (we_var 13 (pv 13))))
    (ws_one (ws_ret (we_tupR (wa_cons we_str (wa_cons (we_num (we_blt (f_sorted hr.units) (by rfl) hb_sorted PyProof.Rows.boot_sorted (wa_cons (we_var 10 (pv 10)) wa_nil))) wa_nil))))))))))))))
abbrev st_l_mixed : Stmt := topS 30
abbrev N_l_mixed : List Str := ["_law_cell", "_law_k", "_law_number_here"]
theorem sc_l_mixed : FnScope N_l_mixed ["_law_cell", "_law_k"] (defScope st_l_mixed) := ⟨rfl, rfl, rfl, by decide +kernel, rfl, by decide +kernel, by decide +kernel⟩
theorem tm_l_mixed {P : Program} {w : World} {K : PySem.W.Frag} {mg : Str → Option Value} {base : Heap} {f : Addr} (cdv : Value) (A : Around) (outer : List Env) (s : Shared) (H : Hp) (E : XK) (hr : Room 0 (A.deeper (envOfC "_law_mixed" (defScope st_l_mixed) s.heap.objs.size f cdv))) :
    WSs (cxOf CX0 P w K mg base N_l_mixed "_law_mixed" (defScope st_l_mixed) f cdv A outer s H E).nox (defBody st_l_mixed) w_l_mixed := by
  have nd := sc_l_mixed.nd
  unfold w_l_mixed
  exact (ws_cons (ws_set (i := 2) nd rfl (by first | exact Or.inl rfl | exact Or.inr rfl) (we_bin o_mod (we_bin o_mulI (we_bin o_addI (we_bin o_addI (we_bin o_addI (we_bin o_mulI (we_var 0 (pv 0)) (we_var 0 (pv 0))) (we_bin o_mulI we_int (we_var 0 (pv 0)))) (we_bin o_mulI we_int (we_var 1 (pv 1)))) we_int) we_int) we_int))
    (ws_one (ws_ret (we_bin o_mod (we_bin o_addI (we_bin o_mulI (we_var 2 (pv 2)) (we_var 2 (pv 2))) we_int) we_int))))
abbrev st_l_purse : Stmt := topS 31
abbrev N_l_purse : List Str := ["_law_script", "_law_cells", "_law_number_here", "_law_k"]
theorem sc_l_purse : FnScope N_l_purse ["_law_script"] (defScope st_l_purse) := ⟨rfl, rfl, rfl, by decide +kernel, rfl, by decide +kernel, by decide +kernel⟩
theorem tm_l_purse {P : Program} {w : World} {K : PySem.W.Frag} {mg : Str → Option Value} {base : Heap} {f : Addr} (F_l_mixed : FnZ P w K mg base 1 "_law_mixed" 2 sp_l_mixed) (hb_range : mg "range" = none) (hb_len : mg "len" = none) (hb_abs : mg "abs" = none) (cdv : Value) (A : Around) (outer : List Env) (s : Shared) (H : Hp) (E : XK) (hr : Room 1 (A.deeper (envOfC "_law_purse" (defScope st_l_purse) s.heap.objs.size f cdv))) :
    WSs (cxOf CX0 P w K mg base N_l_purse "_law_purse" (defScope st_l_purse) f cdv A outer s H E).nox (defBody st_l_purse) w_l_purse := by
  have nd := sc_l_purse.nd
  unfold w_l_purse
  exact (ws_cons (ws_set (i := 1) nd rfl (by first | exact Or.inl rfl | exact Or.inr rfl) (we_bin o_cat (we_slice (we_var 0 (pv 0)) wo_none (wo_some we_int)) (we_lst (wa_cons we_int wa_nil))))
    (ws_cons (ws_set (i := 2) nd rfl (by first | exact Or.inl rfl | exact Or.inr rfl) we_int)
    (ws_cons (ws_for PassesOwn.never rfl (wi_rng1 (by rfl) hb_range (wa_cons we_int wa_nil)) (pg_name (i := 3) nd rfl (by first | exact Or.inl rfl | exact Or.inr rfl)) (tg_name 3) (ws_one (ws_set (i := 2) nd rfl (by first | exact Or.inl rfl | exact Or.inr rfl) (we_bin o_addI (we_bin o_mulI (we_var 2 (pv 2)) we_int) (we_call F_l_mixed hr (by rfl) (wa_cons (we_ix (we_var 1 (pv 1)) (we_bin o_mod (we_var 3 (pv 3)) (we_blt f_len (by rfl) hb_len PySem.boot_len (wa_cons (we_var 1 (pv 1)) wa_nil))) (fun _ _ => rfl)) (wa_cons (we_var 3 (pv 3)) wa_nil)))))))
    (ws_cons (ws_if (wt_cmp o_ge (we_blt f_abs (by rfl) hb_abs PyProof.Rows.boot_abs (wa_cons (we_ix (we_var 1 (pv 1)) we_int (fun _ _ => rfl)) wa_nil)) (we_bin o_pow we_int we_int) (nomark _)) (ws_one (ws_ret (we_lst (wa_cons (we_blt f_abs (by rfl) hb_abs PyProof.Rows.boot_abs (wa_cons (we_ix (we_var 1 (pv 1)) we_int (fun _ _ => rfl)) wa_nil)) (wa_cons (we_var 2 (pv 2)) wa_nil))))) ws_nil)
    (ws_one (ws_ret (we_lst (wa_cons (we_var 2 (pv 2)) (wa_cons (we_var 2 (pv 2)) wa_nil)))))))))
abbrev st_l_draw : Stmt := topS 32
abbrev N_l_draw : List Str := ["_law_purse_here", "_law_out_of", "_law_drawn"]
theorem sc_l_draw : FnScope N_l_draw ["_law_purse_here", "_law_out_of"] (defScope st_l_draw) := ⟨rfl, rfl, rfl, by decide +kernel, rfl, by decide +kernel, by decide +kernel⟩
theorem tm_l_draw {P : Program} {w : World} {K : PySem.W.Frag} {mg : Str → Option Value} {base : Heap} {f : Addr} (cdv : Value) (A : Around) (outer : List Env) (s : Shared) (H : Hp) (E : XK) (hr : Room 0 (A.deeper (envOfC "_law_draw" (defScope st_l_draw) s.heap.objs.size f cdv))) :
    WSs (cxOf CX0 P w K mg base N_l_draw "_law_draw" (defScope st_l_draw) f cdv A outer s H E).nox (defBody st_l_draw) w_l_draw := by
  have nd := sc_l_draw.nd
  unfold w_l_draw
  exact (ws_cons (ws_if (wt_cmp (o_eq hr.units) (we_ix (we_var 0 (pv 0)) we_int (fun _ _ => rfl)) we_int (nomark _)) (ws_one (ws_stI (we_var 0 (pv 0)) we_int (we_ix (we_var 0 (pv 0)) we_int (fun _ _ => rfl)))) ws_nil)
    (ws_cons (ws_set (i := 2) nd rfl (by first | exact Or.inl rfl | exact Or.inr rfl) (we_bin o_mod (we_ix (we_var 0 (pv 0)) we_int (fun _ _ => rfl)) (we_var 1 (pv 1))))
    (ws_cons (ws_stI (we_var 0 (pv 0)) we_int (we_bin o_div (we_ix (we_var 0 (pv 0)) we_int (fun _ _ => rfl)) (we_var 1 (pv 1))))
    (ws_one (ws_ret (we_var 2 (pv 2)))))))
abbrev st_l_whole : Stmt := topS 34
abbrev N_l_whole : List Str := ["_law_found"]
theorem sc_l_whole : FnScope N_l_whole ["_law_found"] (defScope st_l_whole) := ⟨rfl, rfl, rfl, by decide +kernel, rfl, by decide +kernel, by decide +kernel⟩
theorem tm_l_whole {P : Program} {w : World} {K : PySem.W.Frag} {mg : Str → Option Value} {base : Heap} {f : Addr} (hb_isinstance : mg "isinstance" = none) (hb_int : mg "int" = none) (hb_bool : mg "bool" = none) (cdv : Value) (A : Around) (outer : List Env) (s : Shared) (H : Hp) (E : XK) (hr : Room 0 (A.deeper (envOfC "_law_whole" (defScope st_l_whole) s.heap.objs.size f cdv))) :
    WSs (cxOf CX0 P w K mg base N_l_whole "_law_whole" (defScope st_l_whole) f cdv A outer s H E).nox (defBody st_l_whole) w_l_whole := by
  have nd := sc_l_whole.nd
  unfold w_l_whole
  exact (ws_one (ws_ret (we_and (we_isi (T := "int") (by decide) (by rfl) hb_isinstance (by rfl) hb_int PyProof.Rows.boot_int (we_var 0 (pv 0))) (we_one (we_not (we_isi (T := "bool") (by decide) (by rfl) hb_isinstance (by rfl) hb_bool PyProof.Rows.boot_bool (we_var 0 (pv 0))))))))
abbrev st_l_divisor : Stmt := topS 35
abbrev N_l_divisor : List Str := ["_law_one", "_law_other"]
theorem sc_l_divisor : FnScope N_l_divisor ["_law_one", "_law_other"] (defScope st_l_divisor) := ⟨rfl, rfl, rfl, by decide +kernel, rfl, by decide +kernel, by decide +kernel⟩
theorem tm_l_divisor {P : Program} {w : World} {K : PySem.W.Frag} {mg : Str → Option Value} {base : Heap} {f : Addr} (hb_abs : mg "abs" = none) (cdv : Value) (A : Around) (outer : List Env) (s : Shared) (H : Hp) (E : XK) (hr : Room 0 (A.deeper (envOfC "_law_divisor" (defScope st_l_divisor) s.heap.objs.size f cdv))) :
    WSs (cxOf CX0 P w K mg base N_l_divisor "_law_divisor" (defScope st_l_divisor) f cdv A outer s H E).nox (defBody st_l_divisor) w_l_divisor := by
  have nd := sc_l_divisor.nd
  unfold w_l_divisor
  exact (ws_cons (ws_set (i := 0) nd rfl (by first | exact Or.inl rfl | exact Or.inr rfl) (we_blt f_abs (by rfl) hb_abs PyProof.Rows.boot_abs (wa_cons (we_var 0 (pv 0)) wa_nil)))
    (ws_cons (ws_set (i := 1) nd rfl (by first | exact Or.inl rfl | exact Or.inr rfl) (we_blt f_abs (by rfl) hb_abs PyProof.Rows.boot_abs (wa_cons (we_var 1 (pv 1)) wa_nil)))
    (ws_cons (ws_while PassesOwn.never (wt_cmp o_gt (we_var 1 (pv 1)) we_int (nomark _)) (ws_one (ws_par (i := 0) (j := 1) rfl nd rfl rfl (by decide) rfl rfl (wa_cons (we_var 1 (pv 1)) (wa_cons (we_bin o_mod (we_var 0 (pv 0)) (we_var 1 (pv 1))) wa_nil)) (by with_unfolding_all rfl))))
    (ws_one (ws_ret (we_var 0 (pv 0)))))))
abbrev st_l_plain : Stmt := topS 36
abbrev N_l_plain : List Str := ["_law_four", "_law_by", "_law_number_here", "_law_first"]
theorem sc_l_plain : FnScope N_l_plain ["_law_four"] (defScope st_l_plain) := ⟨rfl, rfl, rfl, by decide +kernel, rfl, by decide +kernel, by decide +kernel⟩
theorem tm_l_plain {P : Program} {w : World} {K : PySem.W.Frag} {mg : Str → Option Value} {base : Heap} {f : Addr} (F_l_divisor : FnZ P w K mg base 1 "_law_divisor" 2 sp_l_divisor) (hb_tuple : mg "tuple" = none) (cdv : Value) (A : Around) (outer : List Env) (s : Shared) (H : Hp) (E : XK) (hr : Room 1 (A.deeper (envOfC "_law_plain" (defScope st_l_plain) s.heap.objs.size f cdv))) :
    WSs (cxOf CX0 P w K mg base N_l_plain "_law_plain" (defScope st_l_plain) f cdv A outer s H E).nox (defBody st_l_plain) w_l_plain := by
  have nd := sc_l_plain.nd
  unfold w_l_plain
  exact (ws_cons (ws_set (i := 1) nd rfl (by first | exact Or.inl rfl | exact Or.inr rfl) we_int)
    (ws_cons (ws_for PassesOwn.never rfl (wi_seq (we_var 0 (pv 0))) (pg_name (i := 2) nd rfl (by first | exact Or.inl rfl | exact Or.inr rfl)) (tg_name 2) (ws_one (ws_set (i := 1) nd rfl (by first | exact Or.inl rfl | exact Or.inr rfl) (we_call F_l_divisor hr (by rfl) (wa_cons (we_var 1 (pv 1)) (wa_cons (we_var 2 (pv 2)) wa_nil))))))
    (ws_cons (ws_set (i := 3) nd rfl (by first | exact Or.inl rfl | exact Or.inr rfl) (we_ix (we_lc (own := [("_law_number_here", 2)]) rfl nd (wi_seq (we_var 0 (pv 0))) (blkOk_by (N := N_l_plain) (sc := defScope st_l_plain) (by decide +kernel)) (fun _ _ _ _ _ => (pg_name (i := 2) nd rfl (by first | exact Or.inl rfl | exact Or.inr rfl))) (tg_name 2) (by decide) (fun _ _ _ _ _ => (wts_one (wt_cmp (o_ne hr.units) (we_var 2 (pv 2)) we_int (nomark _)))) (fun _ _ _ _ _ => (we_var 2 (pv 2)))) we_int (fun _ _ => rfl)))
    (ws_cons (ws_if (wt_cmp o_lt (we_var 3 (pv 3)) we_int (nomark _)) (ws_one (ws_set (i := 1) nd rfl (by first | exact Or.inl rfl | exact Or.inr rfl) (we_bin o_sub we_int (we_var 1 (pv 1))))) ws_nil)
    (ws_one (ws_ret (we_ty f_tup (by rfl) hb_tuple PyProof.Rows.boot_tuple (wa_cons (we_lc (own := [("_law_number_here", 2)]) rfl nd (wi_seq (we_var 0 (pv 0))) (blkOk_by (N := N_l_plain) (sc := defScope st_l_plain) (by decide +kernel)) (fun _ _ _ _ _ => (pg_name (i := 2) nd rfl (by first | exact Or.inl rfl | exact Or.inr rfl))) (tg_name 2) (by decide) (fun _ _ _ _ _ => wts_nil) (fun _ _ _ _ _ => (we_bin o_div (we_var 2 (pv 2)) (we_var 1 (pv 1))))) wa_nil))))))))
abbrev st_l_product : Stmt := topS 37
abbrev N_l_product : List Str := ["_law_one", "_law_other", "_law_p", "_law_q", "_law_r", "_law_s", "_law_t", "_law_u", "_law_v", "_law_o", "_law_w", "_law_x", "_law_y"]
theorem sc_l_product : FnScope N_l_product ["_law_one", "_law_other"] (defScope st_l_product) := ⟨rfl, rfl, rfl, by decide +kernel, rfl, by decide +kernel, by decide +kernel⟩
theorem tm_l_product {P : Program} {w : World} {K : PySem.W.Frag} {mg : Str → Option Value} {base : Heap} {f : Addr} (cdv : Value) (A : Around) (outer : List Env) (s : Shared) (H : Hp) (E : XK) (hr : Room 0 (A.deeper (envOfC "_law_product" (defScope st_l_product) s.heap.objs.size f cdv))) :
    WSs (cxOf CX0 P w K mg base N_l_product "_law_product" (defScope st_l_product) f cdv A outer s H E).nox (defBody st_l_product) w_l_product := by
  have nd := sc_l_product.nd
  unfold w_l_product
  exact (ws_cons (ws_unp (we_var 0 (pv 0)) (pg_tup rfl (pgs_cons (pg_name (i := 2) nd rfl (by first | exact Or.inl rfl | exact Or.inr rfl)) (pgs_cons (pg_name (i := 3) nd rfl (by first | exact Or.inl rfl | exact Or.inr rfl)) (pgs_cons (pg_name (i := 4) nd rfl (by first | exact Or.inl rfl | exact Or.inr rfl)) (pgs_cons (pg_name (i := 5) nd rfl (by first | exact Or.inl rfl | exact Or.inr rfl)) pgs_nil))))) (tg_tup (n := 4) (tgs_cons (tg_name 2) (tgs_cons (tg_name 3) (tgs_cons (tg_name 4) (tgs_cons (tg_name 5) tgs_nil))))))
    (ws_cons (ws_unp (we_var 1 (pv 1)) (pg_tup rfl (pgs_cons (pg_name (i := 6) nd rfl (by first | exact Or.inl rfl | exact Or.inr rfl)) (pgs_cons (pg_name (i := 7) nd rfl (by first | exact Or.inl rfl | exact Or.inr rfl)) (pgs_cons (pg_name (i := 8) nd rfl (by first | exact Or.inl rfl | exact Or.inr rfl)) (pgs_cons (pg_name (i := 9) nd rfl (by first | exact Or.inl rfl | exact Or.inr rfl)) pgs_nil))))) (tg_tup (n := 4) (tgs_cons (tg_name 6) (tgs_cons (tg_name 7) (tgs_cons (tg_name 8) (tgs_cons (tg_name 9) tgs_nil))))))
    (ws_cons (ws_set (i := 10) nd rfl (by first | exact Or.inl rfl | exact Or.inr rfl) (we_bin o_sub (we_bin o_sub (we_bin o_sub (we_bin o_mulI (we_var 2 (pv 2)) (we_var 6 (pv 6))) (we_bin o_mulI (we_var 3 (pv 3)) (we_var 7 (pv 7)))) (we_bin o_mulI (we_var 4 (pv 4)) (we_var 8 (pv 8)))) (we_bin o_mulI (we_var 5 (pv 5)) (we_var 9 (pv 9)))))
    (ws_cons (ws_set (i := 11) nd rfl (by first | exact Or.inl rfl | exact Or.inr rfl) (we_bin o_sub (we_bin o_addI (we_bin o_addI (we_bin o_mulI (we_var 2 (pv 2)) (we_var 7 (pv 7))) (we_bin o_mulI (we_var 3 (pv 3)) (we_var 6 (pv 6)))) (we_bin o_mulI (we_var 4 (pv 4)) (we_var 9 (pv 9)))) (we_bin o_mulI (we_var 5 (pv 5)) (we_var 8 (pv 8)))))
    (ws_cons (ws_set (i := 12) nd rfl (by first | exact Or.inl rfl | exact Or.inr rfl) (we_bin o_addI (we_bin o_addI (we_bin o_sub (we_bin o_mulI (we_var 2 (pv 2)) (we_var 8 (pv 8))) (we_bin o_mulI (we_var 3 (pv 3)) (we_var 9 (pv 9)))) (we_bin o_mulI (we_var 4 (pv 4)) (we_var 6 (pv 6)))) (we_bin o_mulI (we_var 5 (pv 5)) (we_var 7 (pv 7)))))
    (ws_one (ws_ret (we_tup (wa_cons (we_var 10 (pv 10)) (wa_cons (we_var 11 (pv 11)) (wa_cons (we_var 12 (pv 12)) (wa_cons (we_bin o_addI (we_bin o_sub (we_bin o_addI (we_bin o_mulI (we_var 2 (pv 2)) (we_var 9 (pv 9))) (we_bin o_mulI (we_var 3 (pv 3)) (we_var 8 (pv 8)))) (we_bin o_mulI (we_var 4 (pv 4)) (we_var 7 (pv 7)))) (we_bin o_mulI (we_var 5 (pv 5)) (we_var 6 (pv 6)))) wa_nil))))))))))))
abbrev st_l_is_four : Stmt := topS 38
abbrev N_l_is_four : List Str := ["_law_found", "_law_due", "_law_number_here"]
theorem sc_l_is_four : FnScope N_l_is_four ["_law_found", "_law_due"] (defScope st_l_is_four) := ⟨rfl, rfl, rfl, by decide +kernel, rfl, by decide +kernel, by decide +kernel⟩
theorem tm_l_is_four {P : Program} {w : World} {K : PySem.W.Frag} {mg : Str → Option Value} {base : Heap} {f : Addr} (F_l_whole : FnZ P w K mg base 1 "_law_whole" 1 sp_l_whole) (hb_isinstance : mg "isinstance" = none) (hb_tuple : mg "tuple" = none) (hb_len : mg "len" = none) (cdv : Value) (A : Around) (outer : List Env) (s : Shared) (H : Hp) (E : XK) (hr : Room 1 (A.deeper (envOfC "_law_is_four" (defScope st_l_is_four) s.heap.objs.size f cdv))) :
    WSs (cxOf CX0 P w K mg base N_l_is_four "_law_is_four" (defScope st_l_is_four) f cdv A outer s H E).nox (defBody st_l_is_four) w_l_is_four := by
  have nd := sc_l_is_four.nd
  unfold w_l_is_four
  exact (ws_cons (ws_if ((ww_or (wt_not (wt_val (we_isi (T := "tuple") (by decide) (by rfl) hb_isinstance (by rfl) hb_tuple PyProof.Rows.boot_tuple (we_var 0 (pv 0))))) (ww_or (wt_cmp (o_ne hr.units) (we_blt f_len (by rfl) hb_len PySem.boot_len (wa_cons (we_var 0 (pv 0)) wa_nil)) we_int (nomark _)) (ww_or1 (wt_cmp (o_ne hr.units) (we_var 0 (pv 0)) (we_var 1 (pv 1)) (nomark _)))))).wt (ws_one (ws_ret we_bl)) ws_nil)
    (ws_one (ws_ret (we_cmp (o_eq hr.units) (we_blt f_len (by rfl) hb_len PySem.boot_len (wa_cons (we_lc (own := [("_law_number_here", 2)]) rfl nd (wi_seq (we_var 0 (pv 0))) (blkOk_by (N := N_l_is_four) (sc := defScope st_l_is_four) (by decide +kernel)) (fun _ _ _ _ _ => (pg_name (i := 2) nd rfl (by first | exact Or.inl rfl | exact Or.inr rfl))) (tg_name 2) (by decide) (fun _ _ _ _ _ => (wts_one (wt_not (wt_val (we_call F_l_whole hr (by rfl) (wa_cons (we_var 2 (pv 2)) wa_nil)))))) (fun _ _ _ _ _ => (we_var 2 (pv 2)))) wa_nil)) we_int (nomark _)))))
abbrev st_l_made : Stmt := topS 39
abbrev N_l_made : List Str := ["_law_top", "_law_bottom", "_law_by"]
theorem sc_l_made : FnScope N_l_made ["_law_top", "_law_bottom"] (defScope st_l_made) := ⟨rfl, rfl, rfl, by decide +kernel, rfl, by decide +kernel, by decide +kernel⟩
theorem tm_l_made {P : Program} {w : World} {K : PySem.W.Frag} {mg : Str → Option Value} {base : Heap} {f : Addr} (F_l_divisor : FnZ P w K mg base 1 "_law_divisor" 2 sp_l_divisor) (cdv : Value) (A : Around) (outer : List Env) (s : Shared) (H : Hp) (E : XK) (hr : Room 1 (A.deeper (envOfC "_law_made" (defScope st_l_made) s.heap.objs.size f cdv))) :
    WSs (cxOf CX0 P w K mg base N_l_made "_law_made" (defScope st_l_made) f cdv A outer s H E).nox (defBody st_l_made) w_l_made := by
  have nd := sc_l_made.nd
  unfold w_l_made
  exact (ws_cons (ws_set (i := 2) nd rfl (by first | exact Or.inl rfl | exact Or.inr rfl) (we_call F_l_divisor hr (by rfl) (wa_cons (we_var 0 (pv 0)) (wa_cons (we_var 1 (pv 1)) wa_nil))))
    (ws_cons (ws_if (wt_cmp o_lt (we_var 1 (pv 1)) we_int (nomark _)) (ws_one (ws_set (i := 2) nd rfl (by first | exact Or.inl rfl | exact Or.inr rfl) (we_bin o_sub we_int (we_var 2 (pv 2))))) ws_nil)
    (ws_one (ws_ret (we_tup (wa_cons (we_bin o_div (we_var 0 (pv 0)) (we_var 2 (pv 2))) (wa_cons (we_bin o_div (we_var 1 (pv 1)) (we_var 2 (pv 2))) wa_nil)))))))
abbrev st_l_rows : Stmt := topS 40
abbrev N_l_rows : List Str := ["_law_four", "_law_w", "_law_x", "_law_y", "_law_z", "_law_first", "_law_second"]
theorem sc_l_rows : FnScope N_l_rows ["_law_four"] (defScope st_l_rows) := ⟨rfl, rfl, rfl, by decide +kernel, rfl, by decide +kernel, by decide +kernel⟩
theorem tm_l_rows {P : Program} {w : World} {K : PySem.W.Frag} {mg : Str → Option Value} {base : Heap} {f : Addr} (cdv : Value) (A : Around) (outer : List Env) (s : Shared) (H : Hp) (E : XK) (hr : Room 0 (A.deeper (envOfC "_law_rows" (defScope st_l_rows) s.heap.objs.size f cdv))) :
    WSs (cxOf CX0 P w K mg base N_l_rows "_law_rows" (defScope st_l_rows) f cdv A outer s H E).nox (defBody st_l_rows) w_l_rows := by
  have nd := sc_l_rows.nd
  unfold w_l_rows
  exact (ws_cons (ws_unp (we_var 0 (pv 0)) (pg_tup rfl (pgs_cons (pg_name (i := 1) nd rfl (by first | exact Or.inl rfl | exact Or.inr rfl)) (pgs_cons (pg_name (i := 2) nd rfl (by first | exact Or.inl rfl | exact Or.inr rfl)) (pgs_cons (pg_name (i := 3) nd rfl (by first | exact Or.inl rfl | exact Or.inr rfl)) (pgs_cons (pg_name (i := 4) nd rfl (by first | exact Or.inl rfl | exact Or.inr rfl)) pgs_nil))))) (tg_tup (n := 4) (tgs_cons (tg_name 1) (tgs_cons (tg_name 2) (tgs_cons (tg_name 3) (tgs_cons (tg_name 4) tgs_nil))))))
    (ws_cons (ws_set (i := 5) nd rfl (by first | exact Or.inl rfl | exact Or.inr rfl) (we_tup (wa_cons (we_bin o_sub (we_bin o_sub (we_bin o_addI (we_bin o_mulI (we_var 1 (pv 1)) (we_var 1 (pv 1))) (we_bin o_mulI (we_var 2 (pv 2)) (we_var 2 (pv 2)))) (we_bin o_mulI (we_var 3 (pv 3)) (we_var 3 (pv 3)))) (we_bin o_mulI (we_var 4 (pv 4)) (we_var 4 (pv 4)))) (wa_cons (we_bin o_mulI we_int (we_bin o_sub (we_bin o_mulI (we_var 2 (pv 2)) (we_var 3 (pv 3))) (we_bin o_mulI (we_var 1 (pv 1)) (we_var 4 (pv 4))))) (wa_cons (we_bin o_mulI we_int (we_bin o_addI (we_bin o_mulI (we_var 2 (pv 2)) (we_var 4 (pv 4))) (we_bin o_mulI (we_var 1 (pv 1)) (we_var 3 (pv 3))))) wa_nil)))))
    (ws_cons (ws_set (i := 6) nd rfl (by first | exact Or.inl rfl | exact Or.inr rfl) (we_tup (wa_cons (we_bin o_mulI we_int (we_bin o_addI (we_bin o_mulI (we_var 2 (pv 2)) (we_var 3 (pv 3))) (we_bin o_mulI (we_var 1 (pv 1)) (we_var 4 (pv 4))))) (wa_cons (we_bin o_sub (we_bin o_addI (we_bin o_sub (we_bin o_mulI (we_var 1 (pv 1)) (we_var 1 (pv 1))) (we_bin o_mulI (we_var 2 (pv 2)) (we_var 2 (pv 2)))) (we_bin o_mulI (we_var 3 (pv 3)) (we_var 3 (pv 3)))) (we_bin o_mulI (we_var 4 (pv 4)) (we_var 4 (pv 4)))) (wa_cons (we_bin o_mulI we_int (we_bin o_sub (we_bin o_mulI (we_var 3 (pv 3)) (we_var 4 (pv 4))) (we_bin o_mulI (we_var 1 (pv 1)) (we_var 2 (pv 2))))) wa_nil)))))
    (ws_one (ws_ret (we_lst (wa_cons (we_var 5 (pv 5)) (wa_cons (we_var 6 (pv 6)) (wa_cons (we_tup (wa_cons (we_bin o_mulI we_int (we_bin o_sub (we_bin o_mulI (we_var 2 (pv 2)) (we_var 4 (pv 4))) (we_bin o_mulI (we_var 1 (pv 1)) (we_var 3 (pv 3))))) (wa_cons (we_bin o_mulI we_int (we_bin o_addI (we_bin o_mulI (we_var 3 (pv 3)) (we_var 4 (pv 4))) (we_bin o_mulI (we_var 1 (pv 1)) (we_var 2 (pv 2))))) (wa_cons (we_bin o_addI (we_bin o_sub (we_bin o_sub (we_bin o_mulI (we_var 1 (pv 1)) (we_var 1 (pv 1))) (we_bin o_mulI (we_var 2 (pv 2)) (we_var 2 (pv 2)))) (we_bin o_mulI (we_var 3 (pv 3)) (we_var 3 (pv 3)))) (we_bin o_mulI (we_var 4 (pv 4)) (we_var 4 (pv 4)))) wa_nil)))) wa_nil)))))))))
abbrev st_l_turned : Stmt := topS 41
abbrev N_l_turned : List Str := ["_law_four", "_law_point", "_law_number_here", "_law_long", "_law_found", "_law_row", "_law_top", "_law_bottom", "_law_by"]
theorem sc_l_turned : FnScope N_l_turned ["_law_four", "_law_point"] (defScope st_l_turned) := ⟨rfl, rfl, rfl, by decide +kernel, rfl, by decide +kernel, by decide +kernel⟩
theorem tm_l_turned {P : Program} {w : World} {K : PySem.W.Frag} {mg : Str → Option Value} {base : Heap} {f : Addr} (F_l_rows : FnZ P w K mg base 2 "_law_rows" 1 sp_l_rows) (F_l_made : FnZ P w K mg base 2 "_law_made" 2 sp_l_made) (hb_sum : mg "sum" = none) (hb_zip : mg "zip" = none) (hb_tuple : mg "tuple" = none) (cdv : Value) (A : Around) (outer : List Env) (s : Shared) (H : Hp) (E : XK) (hr : Room 2 (A.deeper (envOfC "_law_turned" (defScope st_l_turned) s.heap.objs.size f cdv))) :
    WSs (cxOf CX0 P w K mg base N_l_turned "_law_turned" (defScope st_l_turned) f cdv A outer s H E).nox (defBody st_l_turned) w_l_turned := by
  have nd := sc_l_turned.nd
  unfold w_l_turned
  exact (ws_cons (ws_set (i := 3) nd rfl (by first | exact Or.inl rfl | exact Or.inr rfl) (we_blt (f_sum rfl) (by rfl) hb_sum PyProof.Rows.boot_sum (wa_cons (we_lc (own := [("_law_number_here", 2)]) rfl nd (wi_seq (we_var 0 (pv 0))) (blkOk_by (N := N_l_turned) (sc := defScope st_l_turned) (by decide +kernel)) (fun _ _ _ _ _ => (pg_name (i := 2) nd rfl (by first | exact Or.inl rfl | exact Or.inr rfl))) (tg_name 2) (by decide) (fun _ _ _ _ _ => wts_nil) (fun _ _ _ _ _ => (we_bin o_mulI (we_var 2 (pv 2)) (we_var 2 (pv 2))))) wa_nil)))
    (ws_cons (ws_set (i := 4) nd rfl (by first | exact Or.inl rfl | exact Or.inr rfl) (we_lst wa_nil))
    (ws_cons (ws_for PassesOwn.never rfl (wi_seq (we_call F_l_rows hr (by rfl) (wa_cons (we_var 0 (pv 0)) wa_nil))) (pg_name (i := 5) nd rfl (by first | exact Or.inl rfl | exact Or.inr rfl)) (tg_name 5) (ws_cons (ws_unp (we_tup (wa_cons we_int (wa_cons we_int wa_nil))) (pg_tup rfl (pgs_cons (pg_name (i := 6) nd rfl (by first | exact Or.inl rfl | exact Or.inr rfl)) (pgs_cons (pg_name (i := 7) nd rfl (by first | exact Or.inl rfl | exact Or.inr rfl)) pgs_nil))) (tg_tup (n := 2) (tgs_cons (tg_name 6) (tgs_cons (tg_name 7) tgs_nil))))
    (ws_cons (ws_for PassesOwn.never rfl (wi_zip (by rfl) hb_zip (wa_cons (we_var 5 (pv 5)) (wa_cons (we_var 1 (pv 1)) wa_nil))) (pg_tup rfl (pgs_cons (pg_name (i := 8) nd rfl (by first | exact Or.inl rfl | exact Or.inr rfl)) (pgs_cons (pg_name (i := 2) nd rfl (by first | exact Or.inl rfl | exact Or.inr rfl)) pgs_nil))) (tg_tup (n := 2) (tgs_cons (tg_name 8) (tgs_cons (tg_name 2) tgs_nil))) (ws_cons (ws_set (i := 6) nd rfl (by first | exact Or.inl rfl | exact Or.inr rfl) (we_bin o_addI (we_bin o_mulI (we_var 6 (pv 6)) (we_ix (we_var 2 (pv 2)) we_int (fun _ _ => rfl))) (we_bin o_mulI (we_bin o_mulI (we_var 8 (pv 8)) (we_ix (we_var 2 (pv 2)) we_int (fun _ _ => rfl))) (we_var 7 (pv 7)))))
    (ws_one (ws_set (i := 7) nd rfl (by first | exact Or.inl rfl | exact Or.inr rfl) (we_bin o_mulI (we_var 7 (pv 7)) (we_ix (we_var 2 (pv 2)) we_int (fun _ _ => rfl)))))))
    (ws_one (ws_drop (we_app (we_var 4 (pv 4)) (we_call F_l_made hr (by rfl) (wa_cons (we_var 6 (pv 6)) (wa_cons (we_bin o_mulI (we_var 7 (pv 7)) (we_var 3 (pv 3))) wa_nil)))))))))
    (ws_one (ws_ret (we_ty f_tup (by rfl) hb_tuple PyProof.Rows.boot_tuple (wa_cons (we_var 4 (pv 4)) wa_nil)))))))
abbrev st_l_product_of : Stmt := topS 42
abbrev N_l_product_of : List Str := ["_law_one", "_law_other", "_law_top", "_law_bottom", "_law_number_here", "_law_far"]
theorem sc_l_product_of : FnScope N_l_product_of ["_law_one", "_law_other"] (defScope st_l_product_of) := ⟨rfl, rfl, rfl, by decide +kernel, rfl, by decide +kernel, by decide +kernel⟩
theorem tm_l_product_of {P : Program} {w : World} {K : PySem.W.Frag} {mg : Str → Option Value} {base : Heap} {f : Addr} (F_l_made : FnZ P w K mg base 2 "_law_made" 2 sp_l_made) (hb_zip : mg "zip" = none) (cdv : Value) (A : Around) (outer : List Env) (s : Shared) (H : Hp) (E : XK) (hr : Room 2 (A.deeper (envOfC "_law_product_of" (defScope st_l_product_of) s.heap.objs.size f cdv))) :
    WSs (cxOf CX0 P w K mg base N_l_product_of "_law_product_of" (defScope st_l_product_of) f cdv A outer s H E).nox (defBody st_l_product_of) w_l_product_of := by
  have nd := sc_l_product_of.nd
  unfold w_l_product_of
  exact (ws_cons (ws_unp (we_tup (wa_cons we_int (wa_cons we_int wa_nil))) (pg_tup rfl (pgs_cons (pg_name (i := 2) nd rfl (by first | exact Or.inl rfl | exact Or.inr rfl)) (pgs_cons (pg_name (i := 3) nd rfl (by first | exact Or.inl rfl | exact Or.inr rfl)) pgs_nil))) (tg_tup (n := 2) (tgs_cons (tg_name 2) (tgs_cons (tg_name 3) tgs_nil))))
    (ws_cons (ws_for PassesOwn.never rfl (wi_zip (by rfl) hb_zip (wa_cons (we_var 0 (pv 0)) (wa_cons (we_var 1 (pv 1)) wa_nil))) (pg_tup rfl (pgs_cons (pg_name (i := 4) nd rfl (by first | exact Or.inl rfl | exact Or.inr rfl)) (pgs_cons (pg_name (i := 5) nd rfl (by first | exact Or.inl rfl | exact Or.inr rfl)) pgs_nil))) (tg_tup (n := 2) (tgs_cons (tg_name 4) (tgs_cons (tg_name 5) tgs_nil))) (ws_cons (ws_set (i := 2) nd rfl (by first | exact Or.inl rfl | exact Or.inr rfl) (we_bin o_addI (we_bin o_mulI (we_bin o_mulI (we_var 2 (pv 2)) (we_ix (we_var 4 (pv 4)) we_int (fun _ _ => rfl))) (we_ix (we_var 5 (pv 5)) we_int (fun _ _ => rfl))) (we_bin o_mulI (we_bin o_mulI (we_ix (we_var 4 (pv 4)) we_int (fun _ _ => rfl)) (we_ix (we_var 5 (pv 5)) we_int (fun _ _ => rfl))) (we_var 3 (pv 3)))))
    (ws_one (ws_set (i := 3) nd rfl (by first | exact Or.inl rfl | exact Or.inr rfl) (we_bin o_mulI (we_bin o_mulI (we_var 3 (pv 3)) (we_ix (we_var 4 (pv 4)) we_int (fun _ _ => rfl))) (we_ix (we_var 5 (pv 5)) we_int (fun _ _ => rfl)))))))
    (ws_one (ws_ret (we_call F_l_made hr (by rfl) (wa_cons (we_var 2 (pv 2)) (wa_cons (we_var 3 (pv 3)) wa_nil)))))))
abbrev st_l_near : Stmt := topS 43
abbrev N_l_near : List Str := ["_law_purse_here", "_law_found", "_law_k", "_law_top"]
theorem sc_l_near : FnScope N_l_near ["_law_purse_here"] (defScope st_l_near) := ⟨rfl, rfl, rfl, by decide +kernel, rfl, by decide +kernel, by decide +kernel⟩
theorem tm_l_near {P : Program} {w : World} {K : PySem.W.Frag} {mg : Str → Option Value} {base : Heap} {f : Addr} (F_l_draw : FnZ P w K mg base 2 "_law_draw" 2 sp_l_draw) (F_l_made : FnZ P w K mg base 2 "_law_made" 2 sp_l_made) (hb_range : mg "range" = none) (hb_tuple : mg "tuple" = none) (cdv : Value) (A : Around) (outer : List Env) (s : Shared) (H : Hp) (E : XK) (hr : Room 2 (A.deeper (envOfC "_law_near" (defScope st_l_near) s.heap.objs.size f cdv))) :
    WSs (cxOf CX0 P w K mg base N_l_near "_law_near" (defScope st_l_near) f cdv A outer s H E).nox (defBody st_l_near) w_l_near := by
  have nd := sc_l_near.nd
  unfold w_l_near
  exact (ws_cons (ws_set (i := 1) nd rfl (by first | exact Or.inl rfl | exact Or.inr rfl) (we_lst wa_nil))
    (ws_cons (ws_for PassesOwn.never rfl (wi_rng1 (by rfl) hb_range (wa_cons we_int wa_nil)) (pg_name (i := 2) nd rfl (by first | exact Or.inl rfl | exact Or.inr rfl)) (tg_name 2) (ws_cons (ws_set (i := 3) nd rfl (by first | exact Or.inl rfl | exact Or.inr rfl) (we_call F_l_draw hr (by rfl) (wa_cons (we_var 0 (pv 0)) (wa_cons (we_ix (we_lst (wa_cons we_int (wa_cons we_int (wa_cons (we_bin o_pow we_int we_int) wa_nil)))) (we_call F_l_draw hr (by rfl) (wa_cons (we_var 0 (pv 0)) (wa_cons we_int wa_nil))) (fun _ _ => rfl)) wa_nil))))
    (ws_one (ws_drop (we_app (we_var 1 (pv 1)) (we_call F_l_made hr (by rfl) (wa_cons (we_bin o_sub (we_var 3 (pv 3)) we_int) (wa_cons (we_bin o_addI we_int (we_call F_l_draw hr (by rfl) (wa_cons (we_var 0 (pv 0)) (wa_cons (we_ix (we_lst (wa_cons we_int (wa_cons we_int (wa_cons we_int wa_nil)))) (we_call F_l_draw hr (by rfl) (wa_cons (we_var 0 (pv 0)) (wa_cons we_int wa_nil))) (fun _ _ => rfl)) wa_nil)))) wa_nil))))))))
    (ws_one (ws_ret (we_ty f_tup (by rfl) hb_tuple PyProof.Rows.boot_tuple (wa_cons (we_var 1 (pv 1)) wa_nil))))))
abbrev st_l_made_group : Stmt := topS 44
abbrev N_l_made_group : List Str := ["_law_purse_here", "_law_some", "_law_kinds", "_law_makers", "_law_at", "_law_four", "_law_found"]
theorem sc_l_made_group : FnScope N_l_made_group ["_law_purse_here"] (defScope st_l_made_group) := ⟨rfl, rfl, rfl, by decide +kernel, rfl, by decide +kernel, by decide +kernel⟩
theorem tm_l_made_group {P : Program} {w : World} {K : PySem.W.Frag} {mg : Str → Option Value} {base : Heap} {f : Addr} (F_l_draw : FnZ P w K mg base 2 "_law_draw" 2 sp_l_draw) (F_l_plain : FnZ P w K mg base 2 "_law_plain" 1 sp_l_plain) (F_l_product : FnZ P w K mg base 2 "_law_product" 2 sp_l_product) (hb_len : mg "len" = none) (cdv : Value) (A : Around) (outer : List Env) (s : Shared) (H : Hp) (E : XK) (hr : Room 2 (A.deeper (envOfC "_law_made_group" (defScope st_l_made_group) s.heap.objs.size f cdv))) :
    WSs (cxOf CX0 P w K mg base N_l_made_group "_law_made_group" (defScope st_l_made_group) f cdv A outer s H E).nox (defBody st_l_made_group) w_l_made_group := by
  have nd := sc_l_made_group.nd
  unfold w_l_made_group
  exact (ws_cons (ws_set (i := 1) nd rfl (by first | exact Or.inl rfl | exact Or.inr rfl) (we_lst (wa_cons (we_tup (wa_cons we_int (wa_cons we_int (wa_cons we_int (wa_cons we_int wa_nil))))) wa_nil)))
    (ws_cons (ws_set (i := 2) nd rfl (by first | exact Or.inl rfl | exact Or.inr rfl) (we_lst (wa_cons (we_fz (we_lst (wa_cons (we_tup (wa_cons we_int (wa_cons we_int (wa_cons we_int (wa_cons we_int wa_nil))))) wa_nil))) (wa_cons (we_fz (we_lst (wa_cons (we_tup (wa_cons we_int (wa_cons we_int (wa_cons we_int (wa_cons we_int wa_nil))))) wa_nil))) (wa_cons (we_fz (we_lst (wa_cons (we_tup (wa_cons we_int (wa_cons we_int (wa_cons we_int (wa_cons we_int wa_nil))))) wa_nil))) (wa_cons (we_fz (we_lst (wa_cons (we_tup (wa_cons we_int (wa_cons we_int (wa_cons we_int (wa_cons we_int wa_nil))))) (wa_cons (we_tup (wa_cons we_int (wa_cons we_int (wa_cons we_int (wa_cons we_int wa_nil))))) wa_nil)))) wa_nil))))))
    (ws_cons (ws_set (i := 2) nd rfl (by first | exact Or.inl rfl | exact Or.inr rfl) (we_bin o_cat (we_var 2 (pv 2)) (we_lst (wa_cons (we_fz (we_lst (wa_cons (we_tup (wa_cons we_int (wa_cons we_int (wa_cons we_int (wa_cons we_int wa_nil))))) (wa_cons (we_tup (wa_cons we_int (wa_cons we_int (wa_cons (we_un u_neg we_int) (wa_cons we_int wa_nil))))) wa_nil)))) (wa_cons (we_fz (we_lst (wa_cons (we_tup (wa_cons we_int (wa_cons we_int (wa_cons we_int (wa_cons we_int wa_nil))))) (wa_cons (we_tup (wa_cons we_int (wa_cons we_int (wa_cons we_int (wa_cons we_int wa_nil))))) wa_nil)))) (wa_cons (we_fz (we_lst (wa_cons (we_tup (wa_cons we_int (wa_cons we_int (wa_cons we_int (wa_cons we_int wa_nil))))) (wa_cons (we_tup (wa_cons we_int (wa_cons we_int (wa_cons we_int (wa_cons we_int wa_nil))))) wa_nil)))) wa_nil))))))
    (ws_cons (ws_set (i := 3) nd rfl (by first | exact Or.inl rfl | exact Or.inr rfl) (we_ix (we_var 2 (pv 2)) (we_call F_l_draw hr (by rfl) (wa_cons (we_var 0 (pv 0)) (wa_cons we_int wa_nil))) (fun _ _ => rfl)))
    (ws_cons (ws_set (i := 4) nd rfl (by first | exact Or.inl rfl | exact Or.inr rfl) we_int)
    (ws_cons (ws_while PassesOwn.never (wt_cmp o_lt (we_var 4 (pv 4)) (we_blt f_len (by rfl) hb_len PySem.boot_len (wa_cons (we_var 1 (pv 1)) wa_nil)) (nomark _)) (ws_cons (ws_for PassesOwn.never rfl (wi_seq (we_var 3 (pv 3))) (pg_name (i := 5) nd rfl (by first | exact Or.inl rfl | exact Or.inr rfl)) (tg_name 5) (ws_cons (ws_set (i := 6) nd rfl (by first | exact Or.inl rfl | exact Or.inr rfl) (we_call F_l_plain hr (by rfl) (wa_cons (we_call F_l_product hr (by rfl) (wa_cons (we_var 5 (pv 5)) (wa_cons (we_ix (we_var 1 (pv 1)) (we_var 4 (pv 4)) (fun _ _ => rfl)) wa_nil))) wa_nil)))
    (ws_one (ws_if (wt_cmp (o_nin hr.units) (we_var 6 (pv 6)) (we_var 1 (pv 1)) (by with_unfolding_all rfl)) (ws_one (ws_drop (we_app (we_var 1 (pv 1)) (we_var 6 (pv 6))))) ws_nil))))
    (ws_one (ws_set (i := 4) nd rfl (by first | exact Or.inl rfl | exact Or.inr rfl) (we_bin o_addI (we_var 4 (pv 4)) we_int)))))
    (ws_one (ws_ret (we_var 1 (pv 1))))))))))
abbrev st_l_kept_points : Stmt := topS 45
abbrev N_l_kept_points : List Str := ["_law_purse_here", "_law_k", "_law_four", "_law_group", "_law_found", "_law_point", "_law_one"]
theorem sc_l_kept_points : FnScope N_l_kept_points ["_law_purse_here"] (defScope st_l_kept_points) := ⟨rfl, rfl, rfl, by decide +kernel, rfl, by decide +kernel, by decide +kernel⟩
theorem tm_l_kept_points {P : Program} {w : World} {K : PySem.W.Frag} {mg : Str → Option Value} {base : Heap} {f : Addr} (F_l_draw : FnZ P w K mg base 3 "_law_draw" 2 sp_l_draw) (F_l_made_group : FnZ P w K mg base 3 "_law_made_group" 1 sp_l_made_group) (F_l_near : FnZ P w K mg base 3 "_law_near" 1 sp_l_near) (F_l_turned : FnZ P w K mg base 3 "_law_turned" 2 sp_l_turned) (hb_range : mg "range" = none) (hb_tuple : mg "tuple" = none) (hb_len : mg "len" = none) (hb_int : mg "int" = none) (cdv : Value) (A : Around) (outer : List Env) (s : Shared) (H : Hp) (E : XK) (hr : Room 3 (A.deeper (envOfC "_law_kept_points" (defScope st_l_kept_points) s.heap.objs.size f cdv))) :
    WSs (cxOf CX0 P w K mg base N_l_kept_points "_law_kept_points" (defScope st_l_kept_points) f cdv A outer s H E).nox (defBody st_l_kept_points) w_l_kept_points := by
  have nd := sc_l_kept_points.nd
  unfold w_l_kept_points
  exact (ws_cons (ws_set (i := 2) nd rfl (by first | exact Or.inl rfl | exact Or.inr rfl) (we_ty f_tup (by rfl) hb_tuple PyProof.Rows.boot_tuple (wa_cons (we_lc (own := [("_law_k", 1)]) rfl nd (wi_rng1 (by rfl) hb_range (wa_cons we_int wa_nil)) (blkOk_by (N := N_l_kept_points) (sc := defScope st_l_kept_points) (by decide +kernel)) (fun _ _ _ _ _ => (pg_name (i := 1) nd rfl (by first | exact Or.inl rfl | exact Or.inr rfl))) (tg_name 1) (by decide) (fun _ _ _ _ _ => wts_nil) (fun _ _ _ _ _ => (we_bin o_sub (we_call F_l_draw hr (by rfl) (wa_cons (we_var 0 (pv 0)) (wa_cons we_int wa_nil))) we_int))) wa_nil)))
    (ws_cons (ws_if (wt_cmp (o_eq hr.units) (we_var 2 (pv 2)) (we_tup (wa_cons we_int (wa_cons we_int (wa_cons we_int (wa_cons we_int wa_nil))))) (nomark _)) (ws_one (ws_set (i := 2) nd rfl (by first | exact Or.inl rfl | exact Or.inr rfl) (we_tup (wa_cons we_int (wa_cons we_int (wa_cons we_int (wa_cons we_int wa_nil))))))) ws_nil)
    (ws_cons (ws_set (i := 3) nd rfl (by first | exact Or.inl rfl | exact Or.inr rfl) (we_call F_l_made_group hr (by rfl) (wa_cons (we_var 0 (pv 0)) wa_nil)))
    (ws_cons (ws_set (i := 4) nd rfl (by first | exact Or.inl rfl | exact Or.inr rfl) (we_lst wa_nil))
    (ws_cons (ws_for PassesOwn.never rfl (wi_rng1 (by rfl) hb_range (wa_cons (we_bin o_addI we_int (we_ty f_int (by rfl) hb_int PyProof.Rows.boot_int (wa_cons (we_and (we_cmp o_lt (we_blt f_len (by rfl) hb_len PySem.boot_len (wa_cons (we_var 3 (pv 3)) wa_nil)) we_int (nomark _)) (we_one (we_cmp (o_eq hr.units) (we_call F_l_draw hr (by rfl) (wa_cons (we_var 0 (pv 0)) (wa_cons we_int wa_nil))) we_int (nomark _)))) wa_nil))) wa_nil)) (pg_name (i := 1) nd rfl (by first | exact Or.inl rfl | exact Or.inr rfl)) (tg_name 1) (ws_cons (ws_set (i := 5) nd rfl (by first | exact Or.inl rfl | exact Or.inr rfl) (we_call F_l_near hr (by rfl) (wa_cons (we_var 0 (pv 0)) wa_nil)))
    (ws_one (ws_for PassesOwn.never rfl (wi_seq (we_var 3 (pv 3))) (pg_name (i := 6) nd rfl (by first | exact Or.inl rfl | exact Or.inr rfl)) (tg_name 6) (ws_one (ws_drop (we_app (we_var 4 (pv 4)) (we_call F_l_turned hr (by rfl) (wa_cons (we_var 2 (pv 2)) (wa_cons (we_call F_l_turned hr (by rfl) (wa_cons (we_var 6 (pv 6)) (wa_cons (we_var 5 (pv 5)) wa_nil))) wa_nil))))))))))
    (ws_one (ws_ret (we_var 4 (pv 4)))))))))
abbrev st_l_points : Stmt := topS 46
abbrev N_l_points : List Str := ["_law_purse_here", "_law_kind", "_law_many", "_law_k", "_law_by", "_law_found", "_law_far", "_law_j", "_law_top", "_law_bottom"]
theorem sc_l_points : FnScope N_l_points ["_law_purse_here"] (defScope st_l_points) := ⟨rfl, rfl, rfl, by decide +kernel, rfl, by decide +kernel, by decide +kernel⟩
theorem tm_l_points {P : Program} {w : World} {K : PySem.W.Frag} {mg : Str → Option Value} {base : Heap} {f : Addr} (F_l_draw : FnZ P w K mg base 4 "_law_draw" 2 sp_l_draw) (F_l_kept_points : FnZ P w K mg base 4 "_law_kept_points" 1 sp_l_kept_points) (F_l_near : FnZ P w K mg base 4 "_law_near" 1 sp_l_near) (F_l_made : FnZ P w K mg base 4 "_law_made" 2 sp_l_made) (hb_range : mg "range" = none) (hb_tuple : mg "tuple" = none) (cdv : Value) (A : Around) (outer : List Env) (s : Shared) (H : Hp) (E : XK) (hr : Room 4 (A.deeper (envOfC "_law_points" (defScope st_l_points) s.heap.objs.size f cdv))) :
    WSs (cxOf CX0 P w K mg base N_l_points "_law_points" (defScope st_l_points) f cdv A outer s H E).nox (defBody st_l_points) w_l_points := by
  have nd := sc_l_points.nd
  unfold w_l_points
  exact (ws_cons (ws_set (i := 1) nd rfl (by first | exact Or.inl rfl | exact Or.inr rfl) (we_call F_l_draw hr (by rfl) (wa_cons (we_var 0 (pv 0)) (wa_cons we_int wa_nil))))
    (ws_cons (ws_if (wt_cmp o_lt (we_var 1 (pv 1)) we_int (nomark _)) (ws_one (ws_ret (we_call F_l_kept_points hr (by rfl) (wa_cons (we_var 0 (pv 0)) wa_nil)))) ws_nil)
    (ws_cons (ws_if (wt_cmp (o_eq hr.units) (we_var 1 (pv 1)) we_int (nomark _)) (ws_cons (ws_set (i := 2) nd rfl (by first | exact Or.inl rfl | exact Or.inr rfl) (we_bin o_addI we_int (we_call F_l_draw hr (by rfl) (wa_cons (we_var 0 (pv 0)) (wa_cons we_int wa_nil)))))
    (ws_one (ws_ret (we_lc (own := [("_law_k", 3)]) rfl nd (wi_rng1 (by rfl) hb_range (wa_cons (we_var 2 (pv 2)) wa_nil)) (blkOk_by (N := N_l_points) (sc := defScope st_l_points) (by decide +kernel)) (fun _ _ _ _ _ => (pg_name (i := 3) nd rfl (by first | exact Or.inl rfl | exact Or.inr rfl))) (tg_name 3) (by decide) (fun _ _ _ _ _ => wts_nil) (fun _ _ _ _ _ => (we_ty f_tup (by rfl) hb_tuple PyProof.Rows.boot_tuple (wa_cons (we_lc (own := [("_law_j", 7)]) rfl nd (wi_rng1 (by rfl) hb_range (wa_cons we_int wa_nil)) (blkOk_in (N := N_l_points) (sc0 := ({ kind := .function, names := [(PySem.Str.ofString ".0", .local), (PySem.Str.ofString "_law_k", .local), (PySem.Str.ofString "tuple", .globalImplicit), (PySem.Str.ofString "range", .globalImplicit), (PySem.Str.ofString "_law_purse_here", .free)], isGenerator := false, isCoroutine := false, more := [] } : Scope)) (S := defScope st_l_points) rfl (by decide +kernel)) (fun _ _ _ _ _ => (pg_name (i := 7) nd rfl (by first | exact Or.inl rfl | exact Or.inr rfl))) (tg_name 7) (by decide) (fun _ _ _ _ _ => wts_nil) (fun _ _ _ _ _ => (we_tup (wa_cons (we_bin o_sub (we_call F_l_draw hr (by rfl) (wa_cons (we_var 0 (pv 0)) (wa_cons we_int wa_nil))) we_int) (wa_cons we_int wa_nil))))) wa_nil))))))) ws_nil)
    (ws_cons (ws_set (i := 4) nd rfl (by first | exact Or.inl rfl | exact Or.inr rfl) (we_call F_l_near hr (by rfl) (wa_cons (we_var 0 (pv 0)) wa_nil)))
    (ws_cons (ws_set (i := 5) nd rfl (by first | exact Or.inl rfl | exact Or.inr rfl) (we_lst wa_nil))
    (ws_cons (ws_for PassesOwn.never rfl (wi_rng1 (by rfl) hb_range (wa_cons (we_bin o_addI we_int (we_call F_l_draw hr (by rfl) (wa_cons (we_var 0 (pv 0)) (wa_cons we_int wa_nil)))) wa_nil)) (pg_name (i := 3) nd rfl (by first | exact Or.inl rfl | exact Or.inr rfl)) (tg_name 3) (ws_cons (ws_set (i := 6) nd rfl (by first | exact Or.inl rfl | exact Or.inr rfl) (we_bin o_sub (we_call F_l_draw hr (by rfl) (wa_cons (we_var 0 (pv 0)) (wa_cons we_int wa_nil))) we_int))
    (ws_one (ws_drop (we_app (we_var 5 (pv 5)) (we_ty f_tup (by rfl) hb_tuple PyProof.Rows.boot_tuple (wa_cons (we_lc (own := [("_law_top", 8), ("_law_bottom", 9)]) rfl nd (wi_seq (we_var 4 (pv 4))) (blkOk_by (N := N_l_points) (sc := defScope st_l_points) (by decide +kernel)) (fun _ _ _ _ _ => (pg_tup rfl (pgs_cons (pg_name (i := 8) nd rfl (by first | exact Or.inl rfl | exact Or.inr rfl)) (pgs_cons (pg_name (i := 9) nd rfl (by first | exact Or.inl rfl | exact Or.inr rfl)) pgs_nil)))) (tg_tup (n := 2) (tgs_cons (tg_name 8) (tgs_cons (tg_name 9) tgs_nil))) (by decide) (fun _ _ _ _ _ => wts_nil) (fun _ _ _ _ _ => (we_call F_l_made hr (by rfl) (wa_cons (we_bin o_mulI (we_var 8 (pv 8)) (we_var 6 (pv 6))) (wa_cons (we_var 9 (pv 9)) wa_nil))))) wa_nil)))))))
    (ws_one (ws_ret (we_var 5 (pv 5))))))))))
abbrev st_l_upright : Stmt := topS 47
abbrev N_l_upright : List Str := ["_law_one", "_law_other", "_law_found", "_law_j", "_law_k", "_law_low", "_law_by", "_law_top"]
theorem sc_l_upright : FnScope N_l_upright ["_law_one", "_law_other"] (defScope st_l_upright) := ⟨rfl, rfl, rfl, by decide +kernel, rfl, by decide +kernel, by decide +kernel⟩
theorem tm_l_upright {P : Program} {w : World} {K : PySem.W.Frag} {mg : Str → Option Value} {base : Heap} {f : Addr} (F_l_made : FnZ P w K mg base 2 "_law_made" 2 sp_l_made) (hb_tuple : mg "tuple" = none) (cdv : Value) (A : Around) (outer : List Env) (s : Shared) (H : Hp) (E : XK) (hr : Room 2 (A.deeper (envOfC "_law_upright" (defScope st_l_upright) s.heap.objs.size f cdv))) :
    WSs (cxOf CX0 P w K mg base N_l_upright "_law_upright" (defScope st_l_upright) f cdv A outer s H E).nox (defBody st_l_upright) w_l_upright := by
  have nd := sc_l_upright.nd
  unfold w_l_upright
  exact (ws_cons (ws_set (i := 2) nd rfl (by first | exact Or.inl rfl | exact Or.inr rfl) (we_lst wa_nil))
    (ws_cons (ws_for PassesOwn.never rfl (wi_seq (we_lst (wa_cons (we_tup (wa_cons we_int (wa_cons we_int wa_nil))) (wa_cons (we_tup (wa_cons we_int (wa_cons we_int wa_nil))) (wa_cons (we_tup (wa_cons we_int (wa_cons we_int wa_nil))) wa_nil))))) (pg_tup rfl (pgs_cons (pg_name (i := 3) nd rfl (by first | exact Or.inl rfl | exact Or.inr rfl)) (pgs_cons (pg_name (i := 4) nd rfl (by first | exact Or.inl rfl | exact Or.inr rfl)) pgs_nil))) (tg_tup (n := 2) (tgs_cons (tg_name 3) (tgs_cons (tg_name 4) tgs_nil))) (ws_cons (ws_set (i := 5) nd rfl (by first | exact Or.inl rfl | exact Or.inr rfl) (we_bin o_mulI (we_ix (we_ix (we_var 0 (pv 0)) (we_var 3 (pv 3)) (fun _ _ => rfl)) we_int (fun _ _ => rfl)) (we_ix (we_ix (we_var 1 (pv 1)) (we_var 4 (pv 4)) (fun _ _ => rfl)) we_int (fun _ _ => rfl))))
    (ws_cons (ws_set (i := 6) nd rfl (by first | exact Or.inl rfl | exact Or.inr rfl) (we_bin o_mulI (we_ix (we_ix (we_var 0 (pv 0)) (we_var 4 (pv 4)) (fun _ _ => rfl)) we_int (fun _ _ => rfl)) (we_ix (we_ix (we_var 1 (pv 1)) (we_var 3 (pv 3)) (fun _ _ => rfl)) we_int (fun _ _ => rfl))))
    (ws_cons (ws_set (i := 7) nd rfl (by first | exact Or.inl rfl | exact Or.inr rfl) (we_bin o_mulI (we_bin o_mulI (we_ix (we_ix (we_var 0 (pv 0)) (we_var 3 (pv 3)) (fun _ _ => rfl)) we_int (fun _ _ => rfl)) (we_ix (we_ix (we_var 1 (pv 1)) (we_var 4 (pv 4)) (fun _ _ => rfl)) we_int (fun _ _ => rfl))) (we_var 6 (pv 6))))
    (ws_cons (ws_set (i := 7) nd rfl (by first | exact Or.inl rfl | exact Or.inr rfl) (we_bin o_sub (we_var 7 (pv 7)) (we_bin o_mulI (we_bin o_mulI (we_ix (we_ix (we_var 0 (pv 0)) (we_var 4 (pv 4)) (fun _ _ => rfl)) we_int (fun _ _ => rfl)) (we_ix (we_ix (we_var 1 (pv 1)) (we_var 3 (pv 3)) (fun _ _ => rfl)) we_int (fun _ _ => rfl))) (we_var 5 (pv 5)))))
    (ws_one (ws_drop (we_app (we_var 2 (pv 2)) (we_call F_l_made hr (by rfl) (wa_cons (we_var 7 (pv 7)) (wa_cons (we_bin o_mulI (we_var 5 (pv 5)) (we_var 6 (pv 6))) wa_nil)))))))))))
    (ws_one (ws_ret (we_ty f_tup (by rfl) hb_tuple PyProof.Rows.boot_tuple (wa_cons (we_var 2 (pv 2)) wa_nil))))))
abbrev st_l_two : Stmt := topS 48
abbrev N_l_two : List Str := ["_law_points_here", "_law_one", "_law_other"]
theorem sc_l_two : FnScope N_l_two ["_law_points_here"] (defScope st_l_two) := ⟨rfl, rfl, rfl, by decide +kernel, rfl, by decide +kernel, by decide +kernel⟩
theorem tm_l_two {P : Program} {w : World} {K : PySem.W.Frag} {mg : Str → Option Value} {base : Heap} {f : Addr} (F_l_upright : FnZ P w K mg base 3 "_law_upright" 2 sp_l_upright) (cdv : Value) (A : Around) (outer : List Env) (s : Shared) (H : Hp) (E : XK) (hr : Room 3 (A.deeper (envOfC "_law_two" (defScope st_l_two) s.heap.objs.size f cdv))) :
    WSs (cxOf CX0 P w K mg base N_l_two "_law_two" (defScope st_l_two) f cdv A outer s H E).nox (defBody st_l_two) w_l_two := by
  have nd := sc_l_two.nd
  unfold w_l_two
  exact (ws_cons (ws_for PassesOwn.never rfl (wi_seq (we_var 0 (pv 0))) (pg_name (i := 1) nd rfl (by first | exact Or.inl rfl | exact Or.inr rfl)) (tg_name 1) (ws_one (ws_for PassesOwn.never rfl (wi_seq (we_var 0 (pv 0))) (pg_name (i := 2) nd rfl (by first | exact Or.inl rfl | exact Or.inr rfl)) (tg_name 2) (ws_one (ws_if (wt_cmp (o_ne hr.units) (we_call F_l_upright hr (by rfl) (wa_cons (we_var 1 (pv 1)) (wa_cons (we_var 2 (pv 2)) wa_nil))) (we_tup (wa_cons (we_tup (wa_cons we_int (wa_cons we_int wa_nil))) (wa_cons (we_tup (wa_cons we_int (wa_cons we_int wa_nil))) (wa_cons (we_tup (wa_cons we_int (wa_cons we_int wa_nil))) wa_nil)))) (nomark _)) (ws_one (ws_ret (we_tup (wa_cons (we_var 1 (pv 1)) (wa_cons (we_var 2 (pv 2)) wa_nil))))) ws_nil)))))
    (ws_one (ws_ret we_non)))
abbrev st_l_marks : Stmt := topS 49
abbrev N_l_marks : List Str := ["_law_points_here", "_law_one", "_law_other", "_law_ways", "_law_point", "_law_way"]
theorem sc_l_marks : FnScope N_l_marks ["_law_points_here", "_law_one", "_law_other"] (defScope st_l_marks) := ⟨rfl, rfl, rfl, by decide +kernel, rfl, by decide +kernel, by decide +kernel⟩
theorem tm_l_marks {P : Program} {w : World} {K : PySem.W.Frag} {mg : Str → Option Value} {base : Heap} {f : Addr} (F_l_upright : FnZ P w K mg base 3 "_law_upright" 2 sp_l_upright) (F_l_product_of : FnZ P w K mg base 3 "_law_product_of" 2 sp_l_product_of) (hb_tuple : mg "tuple" = none) (hb_sorted : mg "sorted" = none) (cdv : Value) (A : Around) (outer : List Env) (s : Shared) (H : Hp) (E : XK) (hr : Room 3 (A.deeper (envOfC "_law_marks" (defScope st_l_marks) s.heap.objs.size f cdv))) :
    WSs (cxOf CX0 P w K mg base N_l_marks "_law_marks" (defScope st_l_marks) f cdv A outer s H E).nox (defBody st_l_marks) w_l_marks := by
  have nd := sc_l_marks.nd
  unfold w_l_marks
  exact (ws_cons (ws_set (i := 3) nd rfl (by first | exact Or.inl rfl | exact Or.inr rfl) (we_lst (wa_cons (we_var 1 (pv 1)) (wa_cons (we_var 2 (pv 2)) (wa_cons (we_call F_l_upright hr (by rfl) (wa_cons (we_var 1 (pv 1)) (wa_cons (we_var 2 (pv 2)) wa_nil))) wa_nil)))))
    (ws_one (ws_ret (we_blt (f_sorted hr.units) (by rfl) hb_sorted PyProof.Rows.boot_sorted (wa_cons (we_lc (own := [("_law_point", 4)]) rfl nd (wi_seq (we_var 0 (pv 0))) (blkOk_by (N := N_l_marks) (sc := defScope st_l_marks) (by decide +kernel)) (fun _ _ _ _ _ => (pg_name (i := 4) nd rfl (by first | exact Or.inl rfl | exact Or.inr rfl))) (tg_name 4) (by decide) (fun _ _ _ _ _ => wts_nil) (fun _ _ _ _ _ => (we_ty f_tup (by rfl) hb_tuple PyProof.Rows.boot_tuple (wa_cons (we_lc (own := [("_law_way", 5)]) rfl nd (wi_seq (we_var 3 (pv 3))) (blkOk_in (N := N_l_marks) (sc0 := ({ kind := .function, names := [(PySem.Str.ofString ".0", .local), (PySem.Str.ofString "_law_point", .cell), (PySem.Str.ofString "tuple", .globalImplicit), (PySem.Str.ofString "_law_ways", .free)], isGenerator := false, isCoroutine := false, more := [] } : Scope)) (S := defScope st_l_marks) rfl (by decide +kernel)) (fun _ _ _ _ _ => (pg_name (i := 5) nd rfl (by first | exact Or.inl rfl | exact Or.inr rfl))) (tg_name 5) (by decide) (fun _ _ _ _ _ => wts_nil) (fun _ _ _ _ _ => (we_call F_l_product_of hr (by rfl) (wa_cons (we_var 4 (pv 4)) (wa_cons (we_var 5 (pv 5)) wa_nil))))) wa_nil)))) wa_nil)))))
abbrev st_l_sizes : Stmt := topS 50
abbrev N_l_sizes : List Str := ["_law_one", "_law_other"]
theorem sc_l_sizes : FnScope N_l_sizes ["_law_one", "_law_other"] (defScope st_l_sizes) := ⟨rfl, rfl, rfl, by decide +kernel, rfl, by decide +kernel, by decide +kernel⟩
theorem tm_l_sizes {P : Program} {w : World} {K : PySem.W.Frag} {mg : Str → Option Value} {base : Heap} {f : Addr} (F_l_product_of : FnZ P w K mg base 3 "_law_product_of" 2 sp_l_product_of) (cdv : Value) (A : Around) (outer : List Env) (s : Shared) (H : Hp) (E : XK) (hr : Room 3 (A.deeper (envOfC "_law_sizes" (defScope st_l_sizes) s.heap.objs.size f cdv))) :
    WSs (cxOf CX0 P w K mg base N_l_sizes "_law_sizes" (defScope st_l_sizes) f cdv A outer s H E).nox (defBody st_l_sizes) w_l_sizes := by
  have nd := sc_l_sizes.nd
  unfold w_l_sizes
  exact (ws_one (ws_ret (we_lst (wa_cons (we_call F_l_product_of hr (by rfl) (wa_cons (we_var 0 (pv 0)) (wa_cons (we_var 0 (pv 0)) wa_nil))) (wa_cons (we_call F_l_product_of hr (by rfl) (wa_cons (we_var 0 (pv 0)) (wa_cons (we_var 1 (pv 1)) wa_nil))) (wa_cons (we_call F_l_product_of hr (by rfl) (wa_cons (we_var 1 (pv 1)) (wa_cons (we_var 1 (pv 1)) wa_nil))) wa_nil))))))
abbrev st_l_count : Stmt := topS 51
abbrev N_l_count : List Str := ["_law_points_here", "_law_two_here", "_law_due", "_law_sizes_here", "_law_many", "_law_one", "_law_other"]
theorem sc_l_count : FnScope N_l_count ["_law_points_here", "_law_two_here"] (defScope st_l_count) := ⟨rfl, rfl, rfl, by decide +kernel, rfl, by decide +kernel, by decide +kernel⟩
theorem tm_l_count {P : Program} {w : World} {K : PySem.W.Frag} {mg : Str → Option Value} {base : Heap} {f : Addr} (F_l_marks : FnZ P w K mg base 4 "_law_marks" 3 sp_l_marks) (F_l_sizes : FnZ P w K mg base 4 "_law_sizes" 2 sp_l_sizes) (cdv : Value) (A : Around) (outer : List Env) (s : Shared) (H : Hp) (E : XK) (hr : Room 4 (A.deeper (envOfC "_law_count" (defScope st_l_count) s.heap.objs.size f cdv))) :
    WSs (cxOf CX0 P w K mg base N_l_count "_law_count" (defScope st_l_count) f cdv A outer s H E).nox (defBody st_l_count) w_l_count := by
  have nd := sc_l_count.nd
  unfold w_l_count
  exact (ws_cons (ws_set (i := 2) nd rfl (by first | exact Or.inl rfl | exact Or.inr rfl) (we_call F_l_marks hr (by rfl) (wa_cons (we_var 0 (pv 0)) (wa_cons (we_ix (we_var 1 (pv 1)) we_int (fun _ _ => rfl)) (wa_cons (we_ix (we_var 1 (pv 1)) we_int (fun _ _ => rfl)) wa_nil)))))
    (ws_cons (ws_set (i := 3) nd rfl (by first | exact Or.inl rfl | exact Or.inr rfl) (we_call F_l_sizes hr (by rfl) (wa_cons (we_ix (we_var 1 (pv 1)) we_int (fun _ _ => rfl)) (wa_cons (we_ix (we_var 1 (pv 1)) we_int (fun _ _ => rfl)) wa_nil))))
    (ws_cons (ws_set (i := 4) nd rfl (by first | exact Or.inl rfl | exact Or.inr rfl) we_int)
    (ws_cons (ws_for PassesOwn.never rfl (wi_seq (we_var 0 (pv 0))) (pg_name (i := 5) nd rfl (by first | exact Or.inl rfl | exact Or.inr rfl)) (tg_name 5) (ws_one (ws_for PassesOwn.never rfl (wi_seq (we_var 0 (pv 0))) (pg_name (i := 6) nd rfl (by first | exact Or.inl rfl | exact Or.inr rfl)) (tg_name 6) (ws_one (ws_if ((ww_and (wt_cmp (o_eq hr.units) (we_call F_l_sizes hr (by rfl) (wa_cons (we_var 5 (pv 5)) (wa_cons (we_var 6 (pv 6)) wa_nil))) (we_var 3 (pv 3)) (nomark _)) (ww_and1 (wt_cmp (o_eq hr.units) (we_call F_l_marks hr (by rfl) (wa_cons (we_var 0 (pv 0)) (wa_cons (we_var 5 (pv 5)) (wa_cons (we_var 6 (pv 6)) wa_nil)))) (we_var 2 (pv 2)) (nomark _))))).wt (ws_one (ws_set (i := 4) nd rfl (by first | exact Or.inl rfl | exact Or.inr rfl) (we_bin o_addI (we_var 4 (pv 4)) we_int))) ws_nil)))))
    (ws_one (ws_ret (we_var 4 (pv 4))))))))
abbrev st_l_right : Stmt := topS 52
abbrev N_l_right : List Str := ["_law_points_here", "_law_found", "_law_unlike", "_law_two_here", "_law_four", "_law_point"]
theorem sc_l_right : FnScope N_l_right ["_law_points_here", "_law_found"] (defScope st_l_right) := ⟨rfl, rfl, rfl, by decide +kernel, rfl, by decide +kernel, by decide +kernel⟩
theorem tm_l_right {P : Program} {w : World} {K : PySem.W.Frag} {mg : Str → Option Value} {base : Heap} {f : Addr} (F_l_two : FnZ P w K mg base 5 "_law_two" 1 sp_l_two) (F_l_count : FnZ P w K mg base 5 "_law_count" 2 sp_l_count) (F_l_is_four : FnZ P w K mg base 5 "_law_is_four" 2 sp_l_is_four) (F_l_plain : FnZ P w K mg base 5 "_law_plain" 1 sp_l_plain) (F_l_turned : FnZ P w K mg base 5 "_law_turned" 2 sp_l_turned) (hb_sorted : mg "sorted" = none) (hb_set : mg "set" = none) (hb_isinstance : mg "isinstance" = none) (hb_tuple : mg "tuple" = none) (hb_len : mg "len" = none) (hb_list : mg "list" = none) (cdv : Value) (A : Around) (outer : List Env) (s : Shared) (H : Hp) (E : XK) (hr : Room 5 (A.deeper (envOfC "_law_right" (defScope st_l_right) s.heap.objs.size f cdv))) :
    WSs (cxOf CX0 P w K mg base N_l_right "_law_right" (defScope st_l_right) f cdv A outer s H E).nox (defBody st_l_right) w_l_right := by
  have nd := sc_l_right.nd
  unfold w_l_right
  exact (ws_cons (ws_set (i := 2) nd rfl (by first | exact Or.inl rfl | exact Or.inr rfl) (we_srtSet (by rfl) hb_sorted (by rfl) hb_set hr.units (we_var 0 (pv 0))))
    (ws_cons (ws_set (i := 3) nd rfl (by first | exact Or.inl rfl | exact Or.inr rfl) (we_call F_l_two hr (by rfl) (wa_cons (we_var 2 (pv 2)) wa_nil)))
    (ws_cons (ws_if (wt_cmp o_isN (we_var 3 (pv 3)) we_non (nomark _)) (ws_one (ws_ret (we_cmp (o_eq hr.units) (we_var 1 (pv 1)) (we_tupR (wa_cons we_str wa_nil)) (nomark _)))) ws_nil)
    (ws_cons (ws_if ((ww_or (wt_not (wt_val (we_isi (T := "tuple") (by decide) (by rfl) hb_isinstance (by rfl) hb_tuple PyProof.Rows.boot_tuple (we_var 1 (pv 1))))) (ww_or (wt_cmp (o_ne hr.units) (we_blt f_lenT (by rfl) hb_len PySem.boot_len (wa_cons (we_var 1 (pv 1)) wa_nil)) we_int (nomark _)) (ww_or1 (wt_cmp (o_ne hr.units) (we_ixT (we_var 1 (pv 1)) we_int (fun _ _ => rfl)) we_str (nomark _)))))).wt (ws_one (ws_ret we_bl)) ws_nil)
    (ws_cons (ws_if ((ww_or (wt_not (wt_val (we_isi (T := "list") (by decide) (by rfl) hb_isinstance (by rfl) hb_list PyProof.Rows.boot_list (we_ixT (we_var 1 (pv 1)) we_int (fun _ _ => rfl))))) (ww_or1 (wt_cmp (o_ne hr.units) (we_ixT (we_var 1 (pv 1)) we_int (fun _ _ => rfl)) (we_srtSet (by rfl) hb_sorted (by rfl) hb_set hr.units (we_ixT (we_var 1 (pv 1)) we_int (fun _ _ => rfl))) (nomark _))))).wt (ws_one (ws_ret we_bl)) ws_nil)
    (ws_cons (ws_if (wt_cmp (o_ne hr.units) (we_blt f_len (by rfl) hb_len PySem.boot_len (wa_cons (we_ixT (we_var 1 (pv 1)) we_int (fun _ _ => rfl)) wa_nil)) (we_call F_l_count hr (by rfl) (wa_cons (we_var 2 (pv 2)) (wa_cons (we_var 3 (pv 3)) wa_nil))) (nomark _)) (ws_one (ws_ret we_bl)) ws_nil)
    (ws_cons (ws_for PassesOwn.never rfl (wi_seq (we_ixT (we_var 1 (pv 1)) we_int (fun _ _ => rfl))) (pg_name (i := 4) nd rfl (by first | exact Or.inl rfl | exact Or.inr rfl)) (tg_name 4) (ws_cons (ws_if (wt_not (wt_val (we_call F_l_is_four hr (by rfl) (wa_cons (we_var 4 (pv 4)) (wa_cons (we_call F_l_plain hr (by rfl) (wa_cons (we_var 4 (pv 4)) wa_nil)) wa_nil))))) (ws_one (ws_ret we_bl)) ws_nil)
    (ws_one (ws_for PassesOwn.never rfl (wi_seq (we_var 2 (pv 2))) (pg_name (i := 5) nd rfl (by first | exact Or.inl rfl | exact Or.inr rfl)) (tg_name 5) (ws_one (ws_if (wt_cmp (o_nin hr.units) (we_call F_l_turned hr (by rfl) (wa_cons (we_var 4 (pv 4)) (wa_cons (we_var 5 (pv 5)) wa_nil))) (we_var 2 (pv 2)) (by with_unfolding_all rfl)) (ws_one (ws_ret we_bl)) ws_nil))))))
    (ws_one (ws_ret we_bl)))))))))
abbrev st_law : Stmt := topS 53
abbrev N_law : List Str := ["_law_script", "_law_purse_here", "_law_points_here", "_law_at", "_law_more", "_law_handed", "_law_kept"]
theorem sc_law : FnScope N_law ["_law_script"] (defScope st_law) := ⟨rfl, rfl, rfl, by decide +kernel, rfl, by decide +kernel, by decide +kernel⟩
theorem tm_law {P : Program} {w : World} {K : PySem.W.Frag} {mg : Str → Option Value} {base : Heap} {f : Addr} (F_l_purse : FnZ P w K mg base 8 "_law_purse" 1 sp_l_purse) (F_l_points : FnZ P w K mg base 8 "_law_points" 1 sp_l_points) (F_l_draw : FnZ P w K mg base 8 "_law_draw" 2 sp_l_draw) (F_l_right : FnZ P w K mg base 8 "_law_right" 2 sp_l_right) (F_keeps : FnZ P w K mg base 8 "keeps" 1 sp_keeps) (hb_len : mg "len" = none) (hb_list : mg "list" = none) (cdv : Value) (A : Around) (outer : List Env) (s : Shared) (H : Hp) (E : XK) (hr : Room 8 (A.deeper (envOfC "law" (defScope st_law) s.heap.objs.size f cdv))) :
    WSs (cxOf CX0 P w K mg base N_law "law" (defScope st_law) f cdv A outer s H E).nox (defBody st_law) w_law := by
  have nd := sc_law.nd
  unfold w_law
  exact (ws_cons (ws_set (i := 1) nd rfl (by first | exact Or.inl rfl | exact Or.inr rfl) (we_call F_l_purse hr (by rfl) (wa_cons (we_var 0 (pv 0)) wa_nil)))
    (ws_cons (ws_set (i := 2) nd rfl (by first | exact Or.inl rfl | exact Or.inr rfl) (we_slice (we_call F_l_points hr (by rfl) (wa_cons (we_var 1 (pv 1)) wa_nil)) wo_none (wo_some we_int)))
    (ws_cons (ws_set (i := 3) nd rfl (by first | exact Or.inl rfl | exact Or.inr rfl) (we_call F_l_draw hr (by rfl) (wa_cons (we_var 1 (pv 1)) (wa_cons (we_blt f_len (by rfl) hb_len PySem.boot_len (wa_cons (we_var 2 (pv 2)) wa_nil)) wa_nil))))
    (ws_cons (ws_set (i := 4) nd rfl (by first | exact Or.inl rfl | exact Or.inr rfl) (we_slice (we_var 2 (pv 2)) wo_none (wo_some (we_call F_l_draw hr (by rfl) (wa_cons (we_var 1 (pv 1)) (wa_cons we_int wa_nil))))))
    (ws_cons (ws_set (i := 5) nd rfl (by first | exact Or.inl rfl | exact Or.inr rfl) (we_slice (we_bin o_cat (we_bin o_cat (we_slice (we_var 2 (pv 2)) (wo_some (we_var 3 (pv 3))) wo_none) (we_slice (we_var 2 (pv 2)) wo_none (wo_some (we_var 3 (pv 3))))) (we_var 4 (pv 4))) wo_none (wo_some we_int)))
    (ws_cons (ws_set (i := 6) nd rfl (by first | exact Or.inl rfl | exact Or.inr rfl) (we_ty f_list (by rfl) hb_list PyProof.Rows.boot_list (wa_cons (we_var 5 (pv 5)) wa_nil)))
    (ws_one (ws_ret (we_and (we_call F_l_right hr (by rfl) (wa_cons (we_var 6 (pv 6)) (wa_cons (we_call F_keeps hr (by rfl) (wa_cons (we_var 5 (pv 5)) wa_nil)) wa_nil))) (we_one (we_cmp (o_eq hr.units) (we_var 5 (pv 5)) (we_var 6 (pv 6)) (nomark _))))))))))))
theorem all_mk {l : PySem.W.OpenLaw} {w : World} {K : PySem.W.Frag} {h : Heap} {mg : Str → Option Value} {fa : Addr} (X : K.In h) (G : h.Ns mainGlobals mg) (hfa : mg "law" = some (.ref fa))
    {fL : Addr} {odL anL : Option Addr} {slL : Array (Option Value)} {ocL kVL dcL pmL cdL ctL : Value}
    (aL : PySem.W.nsIn K mainGlobals "law" = some (some (.ref fL))) (lL : K.lookup fL = some ⟨ocL, odL, .func (PySem.W.fnOf "law" "law" (defArgs st_law) (defBody st_law) (defScope st_law) .none kVL dcL pmL anL cdL ctL), slL⟩) (cL : PySem.W.codeIn K cdL "law" = true) (kL : PySem.W.keepIn K (.ref fL) = true)
    (d_divisor : DefAt K mg "divisor" st_divisor ["one", "other"])
    (d_divisor_of : DefAt K mg "divisor_of" st_divisor_of ["numbers"])
    (d_made : DefAt K mg "made" st_made ["top", "bottom"])
    (d_root : DefAt K mg "root" st_root ["number"])
    (d_plain_row : DefAt K mg "plain_row" st_plain_row ["numbers"])
    (d_plain : DefAt K mg "plain" st_plain ["four"])
    (d_size : DefAt K mg "size" st_size ["four"])
    (d_product : DefAt K mg "product" st_product ["one", "other"])
    (d_then : DefAt K mg "then" st_then ["one", "other"])
    (d_rows_of : DefAt K mg "rows_of" st_rows_of ["four"])
    (d_turned : DefAt K mg "turned" st_turned ["four", "point"])
    (d_product_of : DefAt K mg "product_of" st_product_of ["one", "other"])
    (d_size_of : DefAt K mg "size_of" st_size_of ["way"])
    (d_upright_to_both : DefAt K mg "upright_to_both" st_upright_to_both ["one", "other"])
    (d_upright_to : DefAt K mg "upright_to" st_upright_to ["way"])
    (d_spun : DefAt K mg "spun" st_spun ["four", "way"])
    (d_point_alike : DefAt K mg "point_alike" st_point_alike ["one", "other"])
    (d_side_of : DefAt K mg "side_of" st_side_of ["number"])
    (d_led : DefAt K mg "led" st_led ["one", "other"])
    (d_shadow : DefAt K mg "shadow" st_shadow ["way", "axis"])
    (d_about_axis : DefAt K mg "about_axis" st_about_axis ["one", "other", "axis"])
    (d_led_both : DefAt K mg "led_both" st_led_both ["first", "second", "third", "fourth"])
    (d_common_bottom : DefAt K mg "common_bottom" st_common_bottom ["points"])
    (d_two_apart : DefAt K mg "two_apart" st_two_apart ["ways"])
    (d_keeps : DefAt K mg "keeps" st_keeps ["points"])
    (d_l_mixed : DefAt K mg "_law_mixed" st_l_mixed ["_law_cell", "_law_k"])
    (d_l_purse : DefAt K mg "_law_purse" st_l_purse ["_law_script"])
    (d_l_draw : DefAt K mg "_law_draw" st_l_draw ["_law_purse_here", "_law_out_of"])
    (d_l_whole : DefAt K mg "_law_whole" st_l_whole ["_law_found"])
    (d_l_divisor : DefAt K mg "_law_divisor" st_l_divisor ["_law_one", "_law_other"])
    (d_l_plain : DefAt K mg "_law_plain" st_l_plain ["_law_four"])
    (d_l_product : DefAt K mg "_law_product" st_l_product ["_law_one", "_law_other"])
    (d_l_is_four : DefAt K mg "_law_is_four" st_l_is_four ["_law_found", "_law_due"])
    (d_l_made : DefAt K mg "_law_made" st_l_made ["_law_top", "_law_bottom"])
    (d_l_rows : DefAt K mg "_law_rows" st_l_rows ["_law_four"])
    (d_l_turned : DefAt K mg "_law_turned" st_l_turned ["_law_four", "_law_point"])
    (d_l_product_of : DefAt K mg "_law_product_of" st_l_product_of ["_law_one", "_law_other"])
    (d_l_near : DefAt K mg "_law_near" st_l_near ["_law_purse_here"])
    (d_l_made_group : DefAt K mg "_law_made_group" st_l_made_group ["_law_purse_here"])
    (d_l_kept_points : DefAt K mg "_law_kept_points" st_l_kept_points ["_law_purse_here"])
    (d_l_points : DefAt K mg "_law_points" st_l_points ["_law_purse_here"])
    (d_l_upright : DefAt K mg "_law_upright" st_l_upright ["_law_one", "_law_other"])
    (d_l_two : DefAt K mg "_law_two" st_l_two ["_law_points_here"])
    (d_l_marks : DefAt K mg "_law_marks" st_l_marks ["_law_points_here", "_law_one", "_law_other"])
    (d_l_sizes : DefAt K mg "_law_sizes" st_l_sizes ["_law_one", "_law_other"])
    (d_l_count : DefAt K mg "_law_count" st_l_count ["_law_points_here", "_law_two_here"])
    (d_l_right : DefAt K mg "_law_right" st_l_right ["_law_points_here", "_law_found"])
    (hb_abs : mg "abs" = none)
    (hb_all : mg "all" = none)
    (hb_bool : mg "bool" = none)
    (hb_int : mg "int" = none)
    (hb_isinstance : mg "isinstance" = none)
    (hb_len : mg "len" = none)
    (hb_list : mg "list" = none)
    (hb_range : mg "range" = none)
    (hb_set : mg "set" = none)
    (hb_sorted : mg "sorted" = none)
    (hb_sum : mg "sum" = none)
    (hb_tuple : mg "tuple" = none)
    (hb_zip : mg "zip" = none)
    : ∃ fd : FuncData, (∀ (s : Shared) (v : Value), BindsTo s fd ⟨[v], []⟩ [("_law_script", v)]) ∧ ∀ base : Heap, K.In base → base.Ns mainGlobals mg → FnOk l.prog w K mg base CX0 9 fa fd ["_law_script"] (liftSp K 1 sp_law) := by
  have e := hfa.symm.trans (PySem.W.mg_of X G aL)
  cases e
  have FL := fun_mk (st := st_law) lL cL kL
  refine ⟨PySem.W.fnOf "law" "law" (defArgs st_law) (defBody st_law) (defScope st_law) .none kVL dcL pmL anL cdL ctL, fun s v => .of_eq rfl, fun base _ _ => ?_⟩
  have F_divisor : FnZ l.prog w K mg base 1 "divisor" 2 sp_divisor := d_divisor.fn sc_divisor (fun f => tm_divisor (f := f) hb_abs) rd_divisor
  have F_root : FnZ l.prog w K mg base 1 "root" 1 sp_root := d_root.fn sc_root (fun f => tm_root (f := f)) rd_root
  have F_size : FnZ l.prog w K mg base 1 "size" 1 sp_size := d_size.fn sc_size (fun f => tm_size (f := f) hb_sum) rd_size
  have F_product : FnZ l.prog w K mg base 1 "product" 2 sp_product := d_product.fn sc_product (fun f => tm_product (f := f)) rd_product
  have F_rows_of : FnZ l.prog w K mg base 1 "rows_of" 1 sp_rows_of := d_rows_of.fn sc_rows_of (fun f => tm_rows_of (f := f)) rd_rows_of
  have F_product_of : FnZ l.prog w K mg base 1 "product_of" 2 sp_product_of := d_product_of.fn sc_product_of (fun f => tm_product_of (f := f) hb_zip hb_sum) rd_product_of
  have F_upright_to_both : FnZ l.prog w K mg base 1 "upright_to_both" 2 sp_upright_to_both := d_upright_to_both.fn sc_upright_to_both (fun f => tm_upright_to_both (f := f)) rd_upright_to_both
  have F_upright_to : FnZ l.prog w K mg base 1 "upright_to" 1 sp_upright_to := d_upright_to.fn sc_upright_to (fun f => tm_upright_to (f := f)) rd_upright_to
  have F_l_mixed : FnZ l.prog w K mg base 1 "_law_mixed" 2 sp_l_mixed := d_l_mixed.fn sc_l_mixed (fun f => tm_l_mixed (f := f)) rd_l_mixed
  have F_l_draw : FnZ l.prog w K mg base 1 "_law_draw" 2 sp_l_draw := d_l_draw.fn sc_l_draw (fun f => tm_l_draw (f := f)) rd_l_draw
  have F_l_whole : FnZ l.prog w K mg base 1 "_law_whole" 1 sp_l_whole := d_l_whole.fn sc_l_whole (fun f => tm_l_whole (f := f) hb_isinstance hb_int hb_bool) rd_l_whole
  have F_l_divisor : FnZ l.prog w K mg base 1 "_law_divisor" 2 sp_l_divisor := d_l_divisor.fn sc_l_divisor (fun f => tm_l_divisor (f := f) hb_abs) rd_l_divisor
  have F_l_product : FnZ l.prog w K mg base 1 "_law_product" 2 sp_l_product := d_l_product.fn sc_l_product (fun f => tm_l_product (f := f)) rd_l_product
  have F_l_rows : FnZ l.prog w K mg base 1 "_law_rows" 1 sp_l_rows := d_l_rows.fn sc_l_rows (fun f => tm_l_rows (f := f)) rd_l_rows
  have F_divisor_of : FnZ l.prog w K mg base 2 "divisor_of" 1 sp_divisor_of := d_divisor_of.fn sc_divisor_of (fun f => tm_divisor_of (f := f) (F_divisor.mono (by decide))) rd_divisor_of
  have F_made : FnZ l.prog w K mg base 2 "made" 2 sp_made := d_made.fn sc_made (fun f => tm_made (f := f) (F_divisor.mono (by decide))) rd_made
  have F_size_of : FnZ l.prog w K mg base 2 "size_of" 1 sp_size_of := d_size_of.fn sc_size_of (fun f => tm_size_of (f := f) (F_product_of.mono (by decide))) rd_size_of
  have F_spun : FnZ l.prog w K mg base 2 "spun" 2 sp_spun := d_spun.fn sc_spun (fun f => tm_spun (f := f) (F_rows_of.mono (by decide)) (F_product_of.mono (by decide)) hb_tuple) rd_spun
  have F_point_alike : FnZ l.prog w K mg base 2 "point_alike" 2 sp_point_alike := d_point_alike.fn sc_point_alike (fun f => tm_point_alike (f := f) (F_upright_to_both.mono (by decide)) (F_product_of.mono (by decide))) rd_point_alike
  have F_side_of : FnZ l.prog w K mg base 2 "side_of" 1 sp_side_of := d_side_of.fn sc_side_of (fun f => tm_side_of (f := f) (F_root.mono (by decide))) rd_side_of
  have F_common_bottom : FnZ l.prog w K mg base 2 "common_bottom" 1 sp_common_bottom := d_common_bottom.fn sc_common_bottom (fun f => tm_common_bottom (f := f) (F_divisor.mono (by decide))) rd_common_bottom
  have F_two_apart : FnZ l.prog w K mg base 2 "two_apart" 1 sp_two_apart := d_two_apart.fn sc_two_apart (fun f => tm_two_apart (f := f) (F_upright_to_both.mono (by decide))) rd_two_apart
  have F_l_purse : FnZ l.prog w K mg base 2 "_law_purse" 1 sp_l_purse := d_l_purse.fn sc_l_purse (fun f => tm_l_purse (f := f) (F_l_mixed.mono (by decide)) hb_range hb_len hb_abs) rd_l_purse
  have F_l_plain : FnZ l.prog w K mg base 2 "_law_plain" 1 sp_l_plain := d_l_plain.fn sc_l_plain (fun f => tm_l_plain (f := f) (F_l_divisor.mono (by decide)) hb_tuple) rd_l_plain
  have F_l_is_four : FnZ l.prog w K mg base 2 "_law_is_four" 2 sp_l_is_four := d_l_is_four.fn sc_l_is_four (fun f => tm_l_is_four (f := f) (F_l_whole.mono (by decide)) hb_isinstance hb_tuple hb_len) rd_l_is_four
  have F_l_made : FnZ l.prog w K mg base 2 "_law_made" 2 sp_l_made := d_l_made.fn sc_l_made (fun f => tm_l_made (f := f) (F_l_divisor.mono (by decide))) rd_l_made
  have F_plain_row : FnZ l.prog w K mg base 3 "plain_row" 1 sp_plain_row := d_plain_row.fn sc_plain_row (fun f => tm_plain_row (f := f) (F_divisor_of.mono (by decide)) hb_tuple) rd_plain_row
  have F_turned : FnZ l.prog w K mg base 3 "turned" 2 sp_turned := d_turned.fn sc_turned (fun f => tm_turned (f := f) (F_divisor.mono (by decide)) (F_rows_of.mono (by decide)) (F_made.mono (by decide)) (F_size.mono (by decide)) hb_range hb_sum hb_tuple) rd_turned
  have F_shadow : FnZ l.prog w K mg base 3 "shadow" 2 sp_shadow := d_shadow.fn sc_shadow (fun f => tm_shadow (f := f) (F_size_of.mono (by decide)) (F_product_of.mono (by decide)) hb_zip hb_tuple) rd_shadow
  have F_l_turned : FnZ l.prog w K mg base 3 "_law_turned" 2 sp_l_turned := d_l_turned.fn sc_l_turned (fun f => tm_l_turned (f := f) (F_l_rows.mono (by decide)) (F_l_made.mono (by decide)) hb_sum hb_zip hb_tuple) rd_l_turned
  have F_l_product_of : FnZ l.prog w K mg base 3 "_law_product_of" 2 sp_l_product_of := d_l_product_of.fn sc_l_product_of (fun f => tm_l_product_of (f := f) (F_l_made.mono (by decide)) hb_zip) rd_l_product_of
  have F_l_near : FnZ l.prog w K mg base 3 "_law_near" 1 sp_l_near := d_l_near.fn sc_l_near (fun f => tm_l_near (f := f) (F_l_draw.mono (by decide)) (F_l_made.mono (by decide)) hb_range hb_tuple) rd_l_near
  have F_l_made_group : FnZ l.prog w K mg base 3 "_law_made_group" 1 sp_l_made_group := d_l_made_group.fn sc_l_made_group (fun f => tm_l_made_group (f := f) (F_l_draw.mono (by decide)) (F_l_plain.mono (by decide)) (F_l_product.mono (by decide)) hb_len) rd_l_made_group
  have F_l_upright : FnZ l.prog w K mg base 3 "_law_upright" 2 sp_l_upright := d_l_upright.fn sc_l_upright (fun f => tm_l_upright (f := f) (F_l_made.mono (by decide)) hb_tuple) rd_l_upright
  have F_plain : FnZ l.prog w K mg base 4 "plain" 1 sp_plain := d_plain.fn sc_plain (fun f => tm_plain (f := f) (F_plain_row.mono (by decide)) hb_tuple) rd_plain
  have F_l_kept_points : FnZ l.prog w K mg base 4 "_law_kept_points" 1 sp_l_kept_points := d_l_kept_points.fn sc_l_kept_points (fun f => tm_l_kept_points (f := f) (F_l_draw.mono (by decide)) (F_l_made_group.mono (by decide)) (F_l_near.mono (by decide)) (F_l_turned.mono (by decide)) hb_range hb_tuple hb_len hb_int) rd_l_kept_points
  have F_l_two : FnZ l.prog w K mg base 4 "_law_two" 1 sp_l_two := d_l_two.fn sc_l_two (fun f => tm_l_two (f := f) (F_l_upright.mono (by decide))) rd_l_two
  have F_l_marks : FnZ l.prog w K mg base 4 "_law_marks" 3 sp_l_marks := d_l_marks.fn sc_l_marks (fun f => tm_l_marks (f := f) (F_l_upright.mono (by decide)) (F_l_product_of.mono (by decide)) hb_tuple hb_sorted) rd_l_marks
  have F_l_sizes : FnZ l.prog w K mg base 4 "_law_sizes" 2 sp_l_sizes := d_l_sizes.fn sc_l_sizes (fun f => tm_l_sizes (f := f) (F_l_product_of.mono (by decide))) rd_l_sizes
  have F_then : FnZ l.prog w K mg base 5 "then" 2 sp_then := d_then.fn sc_then (fun f => tm_then (f := f) (F_plain.mono (by decide)) (F_product.mono (by decide))) rd_then
  have F_led : FnZ l.prog w K mg base 5 "led" 2 sp_led := d_led.fn sc_led (fun f => tm_led (f := f) (F_size_of.mono (by decide)) (F_side_of.mono (by decide)) (F_product_of.mono (by decide)) (F_plain.mono (by decide)) (F_upright_to.mono (by decide)) (F_upright_to_both.mono (by decide))) rd_led
  have F_l_points : FnZ l.prog w K mg base 5 "_law_points" 1 sp_l_points := d_l_points.fn sc_l_points (fun f => tm_l_points (f := f) (F_l_draw.mono (by decide)) (F_l_kept_points.mono (by decide)) (F_l_near.mono (by decide)) (F_l_made.mono (by decide)) hb_range hb_tuple) rd_l_points
  have F_l_count : FnZ l.prog w K mg base 5 "_law_count" 2 sp_l_count := d_l_count.fn sc_l_count (fun f => tm_l_count (f := f) (F_l_marks.mono (by decide)) (F_l_sizes.mono (by decide))) rd_l_count
  have F_about_axis : FnZ l.prog w K mg base 6 "about_axis" 3 sp_about_axis := d_about_axis.fn sc_about_axis (fun f => tm_about_axis (f := f) (F_point_alike.mono (by decide)) (F_upright_to_both.mono (by decide)) (F_led.mono (by decide))) rd_about_axis
  have F_l_right : FnZ l.prog w K mg base 6 "_law_right" 2 sp_l_right := d_l_right.fn sc_l_right (fun f => tm_l_right (f := f) (F_l_two.mono (by decide)) (F_l_count.mono (by decide)) (F_l_is_four.mono (by decide)) (F_l_plain.mono (by decide)) (F_l_turned.mono (by decide)) hb_sorted hb_set hb_isinstance hb_tuple hb_len hb_list) rd_l_right
  have F_led_both : FnZ l.prog w K mg base 7 "led_both" 4 sp_led_both := d_led_both.fn sc_led_both (fun f => tm_led_both (f := f) (F_side_of.mono (by decide)) (F_size_of.mono (by decide)) (F_product_of.mono (by decide)) (F_led.mono (by decide)) (F_about_axis.mono (by decide)) (F_shadow.mono (by decide)) (F_spun.mono (by decide)) (F_then.mono (by decide))) rd_led_both
  have F_keeps : FnZ l.prog w K mg base 8 "keeps" 1 sp_keeps := d_keeps.fn sc_keeps (fun f => tm_keeps (f := f) (F_common_bottom.mono (by decide)) (F_two_apart.mono (by decide)) (F_size_of.mono (by decide)) (F_product_of.mono (by decide)) (F_led_both.mono (by decide)) (F_turned.mono (by decide)) hb_tuple hb_all hb_sorted) rd_keeps
  exact fn_ok FL sc_law (tm_law (F_l_purse.mono (by decide)) (F_l_points.mono (by decide)) (F_l_draw.mono (by decide)) (F_l_right.mono (by decide)) (F_keeps.mono (by decide)) hb_len hb_list) rd_law
end Z
open PySem PySem.W PyProof.Rows
set_option maxHeartbeats 0 in
theorem PySem.Challenge.cw_hangrings_k39_turns_that_keep_points_holds : PySem.Challenge.rw_hangrings_k39_turns_that_keep_points.Holds := by
  w_on; o_law; k_head; (case hw => w_witness2)
  k_fill
  refine L2.walk_ofB (l := PySem.Challenge.rw_hangrings_k39_turns_that_keep_points) (n := 63) (k := 9) (x := "_law_script") (CX := fun _ => L2.CX0) (sp := fun w => Z.liftSp _ 1 Z.sp_law) rfl (by decide) rfl ⟨rfl, by decide, by decide⟩ (fun w h Y => PySem.W.kIn_of Y) ?F (fun _ _ a ns hl hb hO hS => Z.law_start hl hb hO hS (Z.no_lam (by k_is))) (fun _ _ _ _ _ h => h)
  case F =>
    intro w mg fa h KX G hmg
    refine' Z.all_mk KX G hmg ?aL ?lL ?cL ?kL ?d_divisor ?d_divisor_of ?d_made ?d_root ?d_plain_row ?d_plain ?d_size ?d_product ?d_then ?d_rows_of ?d_turned ?d_product_of ?d_size_of ?d_upright_to_both ?d_upright_to ?d_spun ?d_point_alike ?d_side_of ?d_led ?d_shadow ?d_about_axis ?d_led_both ?d_common_bottom ?d_two_apart ?d_keeps ?d_l_mixed ?d_l_purse ?d_l_draw ?d_l_whole ?d_l_divisor ?d_l_plain ?d_l_product ?d_l_is_four ?d_l_made ?d_l_rows ?d_l_turned ?d_l_product_of ?d_l_near ?d_l_made_group ?d_l_kept_points ?d_l_points ?d_l_upright ?d_l_two ?d_l_marks ?d_l_sizes ?d_l_count ?d_l_right ?hb_abs ?hb_all ?hb_bool ?hb_int ?hb_isinstance ?hb_len ?hb_list ?hb_range ?hb_set ?hb_sorted ?hb_sum ?hb_tuple ?hb_zip
    (case aL => k_is)
    (case lL => k_is)
    (case cL => k_is)
    (case kL => k_is)
    (case d_divisor => refine' Z.DefAt.mk' KX G ?a ?l ?c ?k (fun _ _ _ _ _ _ us hl => match us, hl with | [_, _], _ => rfl); (case a => k_is); (case l => k_is); (case c => k_is); (case k => k_is))
    (case d_divisor_of => refine' Z.DefAt.mk' KX G ?a ?l ?c ?k (fun _ _ _ _ _ _ us hl => match us, hl with | [_], _ => rfl); (case a => k_is); (case l => k_is); (case c => k_is); (case k => k_is))
    (case d_made => refine' Z.DefAt.mk' KX G ?a ?l ?c ?k (fun _ _ _ _ _ _ us hl => match us, hl with | [_, _], _ => rfl); (case a => k_is); (case l => k_is); (case c => k_is); (case k => k_is))
    (case d_root => refine' Z.DefAt.mk' KX G ?a ?l ?c ?k (fun _ _ _ _ _ _ us hl => match us, hl with | [_], _ => rfl); (case a => k_is); (case l => k_is); (case c => k_is); (case k => k_is))
    (case d_plain_row => refine' Z.DefAt.mk' KX G ?a ?l ?c ?k (fun _ _ _ _ _ _ us hl => match us, hl with | [_], _ => rfl); (case a => k_is); (case l => k_is); (case c => k_is); (case k => k_is))
    (case d_plain => refine' Z.DefAt.mk' KX G ?a ?l ?c ?k (fun _ _ _ _ _ _ us hl => match us, hl with | [_], _ => rfl); (case a => k_is); (case l => k_is); (case c => k_is); (case k => k_is))
    (case d_size => refine' Z.DefAt.mk' KX G ?a ?l ?c ?k (fun _ _ _ _ _ _ us hl => match us, hl with | [_], _ => rfl); (case a => k_is); (case l => k_is); (case c => k_is); (case k => k_is))
    (case d_product => refine' Z.DefAt.mk' KX G ?a ?l ?c ?k (fun _ _ _ _ _ _ us hl => match us, hl with | [_, _], _ => rfl); (case a => k_is); (case l => k_is); (case c => k_is); (case k => k_is))
    (case d_then => refine' Z.DefAt.mk' KX G ?a ?l ?c ?k (fun _ _ _ _ _ _ us hl => match us, hl with | [_, _], _ => rfl); (case a => k_is); (case l => k_is); (case c => k_is); (case k => k_is))
    (case d_rows_of => refine' Z.DefAt.mk' KX G ?a ?l ?c ?k (fun _ _ _ _ _ _ us hl => match us, hl with | [_], _ => rfl); (case a => k_is); (case l => k_is); (case c => k_is); (case k => k_is))
    (case d_turned => refine' Z.DefAt.mk' KX G ?a ?l ?c ?k (fun _ _ _ _ _ _ us hl => match us, hl with | [_, _], _ => rfl); (case a => k_is); (case l => k_is); (case c => k_is); (case k => k_is))
    (case d_product_of => refine' Z.DefAt.mk' KX G ?a ?l ?c ?k (fun _ _ _ _ _ _ us hl => match us, hl with | [_, _], _ => rfl); (case a => k_is); (case l => k_is); (case c => k_is); (case k => k_is))
    (case d_size_of => refine' Z.DefAt.mk' KX G ?a ?l ?c ?k (fun _ _ _ _ _ _ us hl => match us, hl with | [_], _ => rfl); (case a => k_is); (case l => k_is); (case c => k_is); (case k => k_is))
    (case d_upright_to_both => refine' Z.DefAt.mk' KX G ?a ?l ?c ?k (fun _ _ _ _ _ _ us hl => match us, hl with | [_, _], _ => rfl); (case a => k_is); (case l => k_is); (case c => k_is); (case k => k_is))
    (case d_upright_to => refine' Z.DefAt.mk' KX G ?a ?l ?c ?k (fun _ _ _ _ _ _ us hl => match us, hl with | [_], _ => rfl); (case a => k_is); (case l => k_is); (case c => k_is); (case k => k_is))
    (case d_spun => refine' Z.DefAt.mk' KX G ?a ?l ?c ?k (fun _ _ _ _ _ _ us hl => match us, hl with | [_, _], _ => rfl); (case a => k_is); (case l => k_is); (case c => k_is); (case k => k_is))
    (case d_point_alike => refine' Z.DefAt.mk' KX G ?a ?l ?c ?k (fun _ _ _ _ _ _ us hl => match us, hl with | [_, _], _ => rfl); (case a => k_is); (case l => k_is); (case c => k_is); (case k => k_is))
    (case d_side_of => refine' Z.DefAt.mk' KX G ?a ?l ?c ?k (fun _ _ _ _ _ _ us hl => match us, hl with | [_], _ => rfl); (case a => k_is); (case l => k_is); (case c => k_is); (case k => k_is))
    (case d_led => refine' Z.DefAt.mk' KX G ?a ?l ?c ?k (fun _ _ _ _ _ _ us hl => match us, hl with | [_, _], _ => rfl); (case a => k_is); (case l => k_is); (case c => k_is); (case k => k_is))
    (case d_shadow => refine' Z.DefAt.mk' KX G ?a ?l ?c ?k (fun _ _ _ _ _ _ us hl => match us, hl with | [_, _], _ => rfl); (case a => k_is); (case l => k_is); (case c => k_is); (case k => k_is))
    (case d_about_axis => refine' Z.DefAt.mk' KX G ?a ?l ?c ?k (fun _ _ _ _ _ _ us hl => match us, hl with | [_, _, _], _ => rfl); (case a => k_is); (case l => k_is); (case c => k_is); (case k => k_is))
    (case d_led_both => refine' Z.DefAt.mk' KX G ?a ?l ?c ?k (fun _ _ _ _ _ _ us hl => match us, hl with | [_, _, _, _], _ => rfl); (case a => k_is); (case l => k_is); (case c => k_is); (case k => k_is))
    (case d_common_bottom => refine' Z.DefAt.mk' KX G ?a ?l ?c ?k (fun _ _ _ _ _ _ us hl => match us, hl with | [_], _ => rfl); (case a => k_is); (case l => k_is); (case c => k_is); (case k => k_is))
    (case d_two_apart => refine' Z.DefAt.mk' KX G ?a ?l ?c ?k (fun _ _ _ _ _ _ us hl => match us, hl with | [_], _ => rfl); (case a => k_is); (case l => k_is); (case c => k_is); (case k => k_is))
    (case d_keeps => refine' Z.DefAt.mk' KX G ?a ?l ?c ?k (fun _ _ _ _ _ _ us hl => match us, hl with | [_], _ => rfl); (case a => k_is); (case l => k_is); (case c => k_is); (case k => k_is))
    (case d_l_mixed => refine' Z.DefAt.mk' KX G ?a ?l ?c ?k (fun _ _ _ _ _ _ us hl => match us, hl with | [_, _], _ => rfl); (case a => k_is); (case l => k_is); (case c => k_is); (case k => k_is))
    (case d_l_purse => refine' Z.DefAt.mk' KX G ?a ?l ?c ?k (fun _ _ _ _ _ _ us hl => match us, hl with | [_], _ => rfl); (case a => k_is); (case l => k_is); (case c => k_is); (case k => k_is))
    (case d_l_draw => refine' Z.DefAt.mk' KX G ?a ?l ?c ?k (fun _ _ _ _ _ _ us hl => match us, hl with | [_, _], _ => rfl); (case a => k_is); (case l => k_is); (case c => k_is); (case k => k_is))
    (case d_l_whole => refine' Z.DefAt.mk' KX G ?a ?l ?c ?k (fun _ _ _ _ _ _ us hl => match us, hl with | [_], _ => rfl); (case a => k_is); (case l => k_is); (case c => k_is); (case k => k_is))
    (case d_l_divisor => refine' Z.DefAt.mk' KX G ?a ?l ?c ?k (fun _ _ _ _ _ _ us hl => match us, hl with | [_, _], _ => rfl); (case a => k_is); (case l => k_is); (case c => k_is); (case k => k_is))
    (case d_l_plain => refine' Z.DefAt.mk' KX G ?a ?l ?c ?k (fun _ _ _ _ _ _ us hl => match us, hl with | [_], _ => rfl); (case a => k_is); (case l => k_is); (case c => k_is); (case k => k_is))
    (case d_l_product => refine' Z.DefAt.mk' KX G ?a ?l ?c ?k (fun _ _ _ _ _ _ us hl => match us, hl with | [_, _], _ => rfl); (case a => k_is); (case l => k_is); (case c => k_is); (case k => k_is))
    (case d_l_is_four => refine' Z.DefAt.mk' KX G ?a ?l ?c ?k (fun _ _ _ _ _ _ us hl => match us, hl with | [_, _], _ => rfl); (case a => k_is); (case l => k_is); (case c => k_is); (case k => k_is))
    (case d_l_made => refine' Z.DefAt.mk' KX G ?a ?l ?c ?k (fun _ _ _ _ _ _ us hl => match us, hl with | [_, _], _ => rfl); (case a => k_is); (case l => k_is); (case c => k_is); (case k => k_is))
    (case d_l_rows => refine' Z.DefAt.mk' KX G ?a ?l ?c ?k (fun _ _ _ _ _ _ us hl => match us, hl with | [_], _ => rfl); (case a => k_is); (case l => k_is); (case c => k_is); (case k => k_is))
    (case d_l_turned => refine' Z.DefAt.mk' KX G ?a ?l ?c ?k (fun _ _ _ _ _ _ us hl => match us, hl with | [_, _], _ => rfl); (case a => k_is); (case l => k_is); (case c => k_is); (case k => k_is))
    (case d_l_product_of => refine' Z.DefAt.mk' KX G ?a ?l ?c ?k (fun _ _ _ _ _ _ us hl => match us, hl with | [_, _], _ => rfl); (case a => k_is); (case l => k_is); (case c => k_is); (case k => k_is))
    (case d_l_near => refine' Z.DefAt.mk' KX G ?a ?l ?c ?k (fun _ _ _ _ _ _ us hl => match us, hl with | [_], _ => rfl); (case a => k_is); (case l => k_is); (case c => k_is); (case k => k_is))
    (case d_l_made_group => refine' Z.DefAt.mk' KX G ?a ?l ?c ?k (fun _ _ _ _ _ _ us hl => match us, hl with | [_], _ => rfl); (case a => k_is); (case l => k_is); (case c => k_is); (case k => k_is))
    (case d_l_kept_points => refine' Z.DefAt.mk' KX G ?a ?l ?c ?k (fun _ _ _ _ _ _ us hl => match us, hl with | [_], _ => rfl); (case a => k_is); (case l => k_is); (case c => k_is); (case k => k_is))
    (case d_l_points => refine' Z.DefAt.mk' KX G ?a ?l ?c ?k (fun _ _ _ _ _ _ us hl => match us, hl with | [_], _ => rfl); (case a => k_is); (case l => k_is); (case c => k_is); (case k => k_is))
    (case d_l_upright => refine' Z.DefAt.mk' KX G ?a ?l ?c ?k (fun _ _ _ _ _ _ us hl => match us, hl with | [_, _], _ => rfl); (case a => k_is); (case l => k_is); (case c => k_is); (case k => k_is))
    (case d_l_two => refine' Z.DefAt.mk' KX G ?a ?l ?c ?k (fun _ _ _ _ _ _ us hl => match us, hl with | [_], _ => rfl); (case a => k_is); (case l => k_is); (case c => k_is); (case k => k_is))
    (case d_l_marks => refine' Z.DefAt.mk' KX G ?a ?l ?c ?k (fun _ _ _ _ _ _ us hl => match us, hl with | [_, _, _], _ => rfl); (case a => k_is); (case l => k_is); (case c => k_is); (case k => k_is))
    (case d_l_sizes => refine' Z.DefAt.mk' KX G ?a ?l ?c ?k (fun _ _ _ _ _ _ us hl => match us, hl with | [_, _], _ => rfl); (case a => k_is); (case l => k_is); (case c => k_is); (case k => k_is))
    (case d_l_count => refine' Z.DefAt.mk' KX G ?a ?l ?c ?k (fun _ _ _ _ _ _ us hl => match us, hl with | [_, _], _ => rfl); (case a => k_is); (case l => k_is); (case c => k_is); (case k => k_is))
    (case d_l_right => refine' Z.DefAt.mk' KX G ?a ?l ?c ?k (fun _ _ _ _ _ _ us hl => match us, hl with | [_, _], _ => rfl); (case a => k_is); (case l => k_is); (case c => k_is); (case k => k_is))
    (case hb_abs => exact PySem.W.mg_none_of KX G (by k_is))
    (case hb_all => exact PySem.W.mg_none_of KX G (by k_is))
    (case hb_bool => exact PySem.W.mg_none_of KX G (by k_is))
    (case hb_int => exact PySem.W.mg_none_of KX G (by k_is))
    (case hb_isinstance => exact PySem.W.mg_none_of KX G (by k_is))
    (case hb_len => exact PySem.W.mg_none_of KX G (by k_is))
    (case hb_list => exact PySem.W.mg_none_of KX G (by k_is))
    (case hb_range => exact PySem.W.mg_none_of KX G (by k_is))
    (case hb_set => exact PySem.W.mg_none_of KX G (by k_is))
    (case hb_sorted => exact PySem.W.mg_none_of KX G (by k_is))
    (case hb_sum => exact PySem.W.mg_none_of KX G (by k_is))
    (case hb_tuple => exact PySem.W.mg_none_of KX G (by k_is))
    (case hb_zip => exact PySem.W.mg_none_of KX G (by k_is))
