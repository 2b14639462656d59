import PyProof.Rows.All
import Wide.All
import OpenK.AllK
import Wide.FinOn
import HandS.ForMost
import HandS.Flow
import HandS.Exc
import HandS.TryOnly
import HandS.ExcOwn
import HandS.ExcIs
import HandS.WordsExc
import HandS.Lambda
import HandS.EndTab
import HandS.TupAny
import HandS.Conv
import HandS.DictComp
import HandS.Wide
import HandS.Zip
import KE.KDictPairs
import HandS.IsInst
import HandS.Style
import HandS.More
import HandS.WordsDict
import HandS.Defaults
import HandS.GenCall
import HandS.GenList
import HandS.AnyAll
import HandS.HeadHook4
import HandS.Head2
import HandS.HeadEnd
import PySem.Challenge.RW_truetotype_k02_language
set_option Elab.async false
set_option linter.all false
set_option maxRecDepth 100000
set_option maxHeartbeats 2000000
/-! MP: tuples whose objects are known to be plain: the display, tuple(x), t + u, dict(t). -/
namespace MP
open PySem PySem.Spec PyProof.Rows L2
section
variable {X : Cx} {es : List Expr} {pos : Pos} {t : TA}
/-- what is wanted of a new tuple -/
abbrev newT (H : Hp) (xs : List V) (Q : VK) : Prop := ∀ p o, o.dict = none → H p = none → Q (.ref p) (upd H p (.frz o (.tup xs)))
theorem laidT {pins : List (Addr × Obj)} {σ : L2.St} {H : Hp} {s : Shared} {h' : Heap} {t' : Nat} {a : Addr} {o : Obj} {xs : List V} {us : List Value} {n : Nat} (I : Inv X pins σ H s) (k : ∀ b u, s.heap.get? b = some u → h'.get? b = some u) (ha : s.heap.objs.size ≤ a) (r : Vals xs us) (hz : xs.length ≤ sizeLine)
    (e : h'.get? a = some o) (hc : o.cls = .type "tuple") (hd : o.data = .seq us.toArray n) : Inv X pins σ (upd H a (.frz o (.tup xs))) { s with heap := h', toks := t' } :=
  I.laid (o := .frz o (.tup xs)) k ha (show ObjOk X.prog X.w _ _ _ (.frz o (.tup xs)) from ⟨e, hz, us, r, o, e, hc, n, hd⟩)
theorem pe_tupF {x1} (h : PA X es t) : PE X (.Tuple es x1 pos) (fun σ H Q => t σ H fun xs H1 => xs.length ≤ sizeLine ∧ newT H1 xs Q) := by
  refine ⟨fun pins s σ H Q I hq => ?_⟩
  refine wpAny_Tuple_spliced (thn (h.run pos pins s σ H _ I hq) fun us s1 ⟨xs, H1, I1, r, z, q⟩ => ⟨by rw [← r.length]; exact z, ?_⟩)
  have hf : H1 s1.heap.objs.size = none := I1.hok.fresh (Nat.le_refl _)
  exact ⟨.ref s1.heap.objs.size, _, laidT (t' := s1.toks) I1 (fun b u e => Heap.get?_push_of_some _ e) (Nat.le_refl _) r z (Heap.get?_push_size _ rfl) rfl rfl, rfl, q _ _ rfl hf⟩
def rCatF (K : PySem.W.Frag) : R2 := fun x y H Q => ∃ a b xs ys, x = .ref a ∧ y = .ref b ∧ SqT K H a xs ∧ SqT K H b ys ∧ xs.length + ys.length ≤ sizeLine ∧
  (xs = [] → Q (.ref b) H) ∧ (xs ≠ [] → ys = [] → Q (.ref a) H) ∧ (xs ≠ [] → ys ≠ [] → newT H (xs ++ ys) Q)
theorem op_catF : OpR X (binaryOp .Add) (rCatF X.K) := by
  intro pins s σ H x y v u Q I rx ry h
  obtain ⟨a, b, xs, ys, rfl, rfl, ha, hb, hz, q0, q1, q2⟩ := h
  by_cases hx : xs = []
  · subst hx
    cases rx
    cases ry
    obtain ⟨its, r1, p1, _⟩ := I.tuple ha
    obtain ⟨its2, r2, p2, _⟩ := I.tuple hb
    cases r1
    exact cat_tup0 p1 p2 ⟨.ref b, H, I, rfl, q0 rfl⟩
  · cases rx
    cases ry
    obtain ⟨its, r1, p1, _⟩ := I.tuple ha
    obtain ⟨its2, r2, p2, _⟩ := I.tuple hb
    refine HT.cat_tup p1 p2 (fun z => hx (r1.nil_iff.mp z)) (fun z => ⟨.ref a, H, I, rfl, q1 hx (r2.nil_iff.mp z)⟩) (fun z => ?_) (by rw [← r1.length, ← r2.length]; exact hz)
    exact ⟨.ref s.heap.objs.size, _, laidT (t' := s.toks) I (fun b ob q => Heap.get?_push_of_some _ q) (Nat.le_refl _) (r1.append r2) (by rw [List.length_append]; exact hz) (Heap.get?_push_size _ rfl) rfl rfl, rfl, q2 hx (fun w => z (r2.nil_iff.mpr w)) _ _ rfl (I.hok.fresh (Nat.le_refl _))⟩
theorem call_tuple_ofF : CallR X (.type "tuple") (fun xs H Q => ∃ p ys, xs = [.ref p] ∧ ((SqL X.K H p ys ∧ newT H ys Q) ∨ (SqT X.K H p ys ∧ Q (.ref p) H))) := by
  intro pins s σ H xs us Q I r h
  obtain ⟨p, ys, rfl, h⟩ := h
  obtain ⟨u, rfl, rx⟩ := vals1 r
  cases rx
  rcases h with ⟨hq, q⟩ | ⟨hq, q⟩
  · obtain ⟨its, r', pl, hz⟩ := I.list hq
    have hlen := r'.length
    refine call_tuple_list pl.isList (fun h' kp => ?_) (by simp only [List.size_toArray] <;> omega)
    have I1 : Inv X pins σ H { s with heap := h' } := I.kept (t' := s.toks) kp
    have I2 := laidT (t' := s.toks) (h' := h'.push { cls := .type "tuple", data := .seq its.toArray }) I1 (fun b o e => Heap.get?_push_of_some _ e) (Nat.le_refl _) r' hz (Heap.get?_push_size _ rfl) rfl rfl
    exact ⟨.ref h'.objs.size, _, I2, rfl, q _ _ rfl (I1.hok.fresh (Nat.le_refl _))⟩
  · obtain ⟨its, r', pl, hz⟩ := I.tuple hq
    exact call_tuple_same pl ⟨.ref p, H, I, rfl, q⟩
/-- a tuple that stands still, of a plain object -/
def TupAt (K : PySem.W.Frag) (H : Hp) (a : Addr) (xs : List V) : Prop :=
  (∃ o, H a = some (.frz o (.tup xs)) ∧ o.dict = none) ∨ ∃ (o : Obj) (its : Array Value) (n : Nat), K.lookup a = some o ∧ o.cls = .type "tuple" ∧ o.dict = none ∧ o.data = .seq its n ∧ its.size ≤ sizeLine ∧ Vals xs its.toList
theorem TupAt.seq {K : PySem.W.Frag} {H : Hp} {a : Addr} {xs : List V} (h : TupAt K H a xs) : SqT K H a xs := by
  rcases h with ⟨o, h, _⟩ | ⟨o, its, n, h1, h2, _, h3⟩
  · exact .inl (.inr ⟨o, h⟩)
  · exact .inr ⟨o, its, n, h1, h2, h3⟩
theorem TupAt.plain {pins : List (Addr × Obj)} {σ : L2.St} {H : Hp} {s : Shared} {a : Addr} {xs : List V} (I : Inv X pins σ H s) (h : TupAt X.K H a xs) : ∃ its : List Value, Vals xs its ∧ PlainSeq "tuple" s.heap a its.toArray ∧ xs.length ≤ sizeLine := by
  rcases h with ⟨o, h, hd⟩ | ⟨o, its, n, hk, hc, hd, hs, hz, r⟩
  · obtain ⟨e, z, us, r, o', e', hc, n, q⟩ := I.hok a _ h
    rw [e] at e'; cases e'
    exact ⟨us, r, ⟨o, n, e, hc, hd, q⟩, z⟩
  · refine ⟨its.toList, r, ⟨o, n, I.kIn a o hk, hc, hd, by simpa using hs⟩, ?_⟩
    have e := r.length
    simp only [Array.length_toList] at e
    omega
theorem pick {α β : Type} : ∀ {P : Nat → α → β → Prop} (l : List α), (∀ j a, l[j]? = some a → ∃ b, P j a b) → ∃ bs : List β, bs.length = l.length ∧ ∀ j a, l[j]? = some a → ∃ b, bs[j]? = some b ∧ P j a b
  | _, [], _ => ⟨[], rfl, fun j a e => by simp at e⟩
  | P, x :: l, h => by
    obtain ⟨b, hb⟩ := h 0 x rfl
    obtain ⟨bs, hl, hbs⟩ := pick (P := fun j => P (j + 1)) l fun j a e => h (j + 1) a (by simpa using e)
    refine ⟨b :: bs, by rw [List.length_cons, List.length_cons, hl], fun j a e => ?_⟩
    cases j with
    | zero => cases e; exact ⟨b, rfl, hb⟩
    | succ j =>
      obtain ⟨b', h1, h2⟩ := hbs j a (by simpa using e)
      exact ⟨b', by simpa using h1, h2⟩
/-- dict(t) of pairs (key, value) -/
theorem call_dictT (hcalm : X.calm = true) : CallR X (.type "dict") (fun xs H Q => ∃ (a : Addr) (ps : List Addr) (kvs : List (Key × V)), xs = [.ref a] ∧ TupAt X.K H a (ps.map V.ref) ∧ Paired (fun p kv => SqT X.K H p [kV kv.1, kv.2]) ps kvs ∧
    ∀ p, H p = none → Q (.ref p) (upd H p (.dK (mergeK [] kvs)))) := by
  intro pins s σ H xs us Q I r q
  obtain ⟨a, ps, kvs, ex, hq, hp, q⟩ := q
  subst ex
  obtain ⟨u, eu, rx⟩ := vals1 r
  subst eu
  cases rx
  obtain ⟨its, rv, pl, hz⟩ := hq.plain I
  have ei := refs_at rv
  subst ei
  rw [List.length_map] at hz
  obtain ⟨prs, rel, hl, hpr⟩ := pairs_of I hp
  have hk : ∀ (j : Nat) (q : Key × Value), prs[j]? = some q → ∃ u : Value, keyIs q.1 u = true ∧ (ps.map Value.ref).toArray[j]? = some (.ref (ps.getD j 0)) ∧ PairAt s.heap (ps.getD j 0) u q.2 := fun j q e => by
    obtain ⟨b, u, e1, e2, e3⟩ := hpr j q e
    have eb : ps.getD j 0 = b := by simp [List.getD, e1]
    rw [eb]
    exact ⟨u, e3, by simp [e1], .inl e2⟩
  have hU := pick (P := fun j (q : Key × Value) (u : Value) => keyIs q.1 u = true ∧ PairAt s.heap (ps.getD j 0) u q.2) prs fun j q e => let ⟨u, h1, _, h3⟩ := hk j q e; ⟨u, h1, h3⟩
  obtain ⟨vs, hvl, hvs⟩ := hU
  let pr : List (Value × Value) := (vs.zip prs).map fun z => (z.1, z.2.2)
  have hprl : pr.length = prs.length := by simp [pr, hvl]
  have hat : ∀ j k v, pr[j]? = some (k, v) → ∃ q, prs[j]? = some q ∧ v = q.2 ∧ keyIs q.1 k = true ∧ PairAt s.heap (ps.getD j 0) k v := fun j k v e => by
    simp only [pr, List.getElem?_map, Option.map_eq_some_iff] at e
    obtain ⟨⟨u, q⟩, e1, e2⟩ := e
    rw [List.getElem?_zip_eq_some] at e1
    obtain ⟨e1, e3⟩ := e1
    obtain ⟨u', f1, f2, f3⟩ := hvs j q e3
    rw [e1] at f1; cases f1
    cases e2
    exact ⟨q, e3, rfl, f2, f3⟩
  have ok : PlainSeq "tuple" s.heap a (ps.map Value.ref).toArray ∧ PairItems s.heap (ps.map Value.ref).toArray (fun j => ps.getD j 0) pr := by
    refine ⟨pl, by simp [hprl, hl], fun j k v e => ?_⟩
    obtain ⟨q, e1, rfl, e2, e3⟩ := hat j k v e
    obtain ⟨u, f1, f2, f3⟩ := hk j q e1
    exact ⟨f2, e3⟩
  refine PySem.call_dict_pairs (knd := mixKind X.prog X.w) (kvs := prs) (PairArg.tuple a _ (fun j => ps.getD j 0) pr) (I.ok.hd hcalm) ok ⟨hprl.symm, fun i key v hr => ?_⟩ (by rw [hprl, hl]; exact hz) fun h' tk hd' k => ?_
  · obtain ⟨q, e1, rfl, e2, e3⟩ := hat i key v hr
    exact ⟨q.1, e1, e2⟩
  · have hm : (s.heap.objs.size == sysModules) = false := beq_eq_false_iff_ne.mpr (Nat.ne_of_gt I.big)
    have hlen : (mergeK [] kvs).length ≤ sizeLine := by
      refine Nat.le_trans (length_mergeK kvs []) ?_
      rw [List.length_nil, Nat.zero_add, rel.length, hl]
      exact hz
    exact ⟨.ref s.heap.objs.size, upd H s.heap.objs.size (.dK (mergeK [] kvs)), I.laid (t' := tk) (fun b o e => k b o (by simp) e) (Nat.le_refl _) (show ObjOk X.prog X.w _ _ _ (.dK (mergeK [] kvs)) from ⟨hlen, hm, merged [] prs, KV.merge rel .nil, hd'⟩), rfl, q _ (I.hok.fresh (Nat.le_refl _))⟩
end
end MP

set_option Elab.async false
set_option linter.all false
set_option maxRecDepth 100000
set_option maxHeartbeats 2000000
/-! MP: monadic readings of Python over the hand layer. Values, store, what stands for what. -/
namespace MP
open PySem PySem.Spec PyProof.Rows L2

abbrev sf (s : String) : Str := Str.ofString s
theorem sf_inj {a b : String} (h : sf a = sf b) : a = b := by
  have h2 : a.toList.map Char.toNat = b.toList.map Char.toNat := by
    have h3 : Str.ofString a = Str.ofString b := h
    rw [Str.ofString_eq_toList, Str.ofString_eq_toList] at h3
    have := congrArg (fun x : Str => x.cps.toList) h3
    simpa using this
  have inj : ∀ {l m : List Char}, l.map Char.toNat = m.map Char.toNat → l = m := by
    intro l
    induction l with
    | nil => intro m h; cases m with
      | nil => rfl
      | cons _ _ => simp at h
    | cons c l ih => intro m h; cases m with
      | nil => simp at h
      | cons d m =>
        simp only [List.map_cons, List.cons.injEq] at h
        rw [Char.toNat_inj.mp h.1, ih h.2]
  exact String.toList_inj.mp (inj h2)

/-- a value: refs go into the store; lis: a list that nobody changes (the script) -/
inductive MV where
  | non | bl (b : Bool) | int (i : Int) | str (s : String) | ty (n : String) | ref (n : Nat) | tup (xs : List MV) | lis (xs : List MV)
instance : Inhabited MV := ⟨.non⟩
/-- a key of a dict -/
inductive MK where
  | i (k : Int) | s (x : String)
  deriving DecidableEq
def MK.key : MK → Key
  | .i k => .inl k
  | .s x => .inr (sf x)
def MK.mv : MK → MV
  | .i k => .int k
  | .s x => .str x
theorem MK.key_inj {a b : MK} (h : a.key = b.key) : a = b := by
  cases a <;> cases b <;> simp [MK.key] at h
  · rw [h]
  · rw [sf_inj h]
inductive Cell where
  | lst (xs : List MV) | dic (kvs : List (MK × MV)) | dit (kvs : List (List MK × MV)) | ins (c : String) (fs : List (String × MV)) | lck (kvs : List (MK × MV))
abbrev Sto := List Cell
structure Exn where
  cls : String
  fs : List (String × MV) := []
inductive Res (α : Type) where
  | ok (a : α) (s : Sto) | exc (x : Exn) (s : Sto) | bad
@[inline] def Res.bind {α β : Type} (r : Res α) (f : α → Sto → Res β) : Res β := match r with
  | .ok a s => f a s
  | .exc x s => .exc x s
  | .bad => .bad
abbrev Loc := List (Option MV)
abbrev ME := Loc → Sto → Res MV
abbrev MT := Loc → Sto → Res Bool
abbrev MA := Loc → Sto → Res (List MV)
abbrev MF := List MV → Sto → Res MV

mutual
def MV.pure : MV → Bool
  | .ref _ => false
  | .tup xs => MV.pures xs
  | .lis xs => MV.pures xs
  | .non => true
  | .bl _ => true
  | .int _ => true
  | .str _ => true
  | .ty _ => true
def MV.pures : List MV → Bool
  | [] => true
  | x :: xs => x.pure && MV.pures xs
end

/-- tables of code objects; classes by their names -/
structure Tb where
  tabs : List (Addr × Str)
  cls : String → Addr

def LisAt (K : PySem.W.Frag) (H : Hp) (a : Addr) (xs : List V) : Prop :=
  (∃ o, H a = some (.frz o (.lst xs))) ∨ ∃ (o : Obj) (its : Array Value) (n : Nat), K.lookup a = some o ∧ o.cls = .type "list" ∧ o.dict = none ∧ o.data = .seq its n ∧ its.size ≤ sizeLine ∧ Vals xs its.toList
theorem LisAt.seq {K : PySem.W.Frag} {H : Hp} {a : Addr} {xs : List V} (h : LisAt K H a xs) : SqL K H a xs := by
  rcases h with ⟨o, h⟩ | h
  · exact .inl (.inr ⟨o, h⟩)
  · exact .inr h
section
variable (K : PySem.W.Frag) (mp : List Addr) (H : Hp)
mutual
/-- the abstract value v stands for the value -/
def RepV : MV → V → Prop
  | .non, v => v = .non
  | .bl b, v => v = .bl b
  | .int i, v => v = .int i
  | .str s, v => v = .str (sf s)
  | .ty n, v => v = .ty n
  | .ref n, v => ∃ a, mp[n]? = some a ∧ v = .ref a
  | .tup xs, v => ∃ a vs, v = .ref a ∧ TupAt K H a vs ∧ RepVs xs vs
  | .lis xs, v => ∃ a vs, v = .ref a ∧ LisAt K H a vs ∧ RepVs xs vs
def RepVs : List MV → List V → Prop
  | [], vs => vs = []
  | x :: xs, vs => ∃ v r, vs = v :: r ∧ RepV x v ∧ RepVs xs r
end
end
section
variable {K : PySem.W.Frag} {mp mp' : List Addr} {H H' : Hp}
theorem RepVs.length : ∀ {xs : List MV} {vs : List V}, RepVs K mp H xs vs → vs.length = xs.length
  | [], _, h => by rw [show _ = [] from h] <;> rfl
  | _ :: xs, _, ⟨v, r, e, _, h⟩ => by rw [e, List.length_cons, List.length_cons, RepVs.length h]
theorem RepVs.get : ∀ {xs : List MV} {vs : List V} {i : Nat} {x : MV}, RepVs K mp H xs vs → xs[i]? = some x → ∃ v, vs[i]? = some v ∧ RepV K mp H x v
  | [], _, _, _, _, e => by simp at e
  | _ :: xs, _, 0, _, ⟨v, r, e, h, _⟩, q => by
    simp at q; subst q
    exact ⟨v, by rw [e] <;> rfl, h⟩
  | _ :: xs, _, i + 1, _, ⟨v, r, e, _, h⟩, q => by
    obtain ⟨u, h1, h2⟩ := RepVs.get (i := i) h (by simpa using q)
    exact ⟨u, by rw [e]; simpa using h1, h2⟩
theorem RepVs.getv {xs : List MV} {vs : List V} {i : Nat} {v : V} (h : RepVs K mp H xs vs) (e : vs[i]? = some v) : ∃ x, xs[i]? = some x ∧ RepV K mp H x v := by
  have hl := h.length
  have hi : i < xs.length := by
    have := (List.getElem?_eq_some_iff.mp e).1
    omega
  obtain ⟨u, h1, h2⟩ := h.get (List.getElem?_eq_getElem hi)
  rw [e] at h1; cases h1
  exact ⟨_, List.getElem?_eq_getElem hi, h2⟩
theorem RepVs.append : ∀ {xs ys : List MV} {vs ws : List V}, RepVs K mp H xs vs → RepVs K mp H ys ws → RepVs K mp H (xs ++ ys) (vs ++ ws)
  | [], _, _, _, h, g => by rw [show _ = [] from h]; exact g
  | _ :: xs, _, _, _, ⟨v, r, e, h1, h2⟩, g => ⟨v, r ++ _, by rw [e] <;> rfl, h1, RepVs.append h2 g⟩
theorem RepVs.drop : ∀ {xs : List MV} {vs : List V} (n : Nat), RepVs K mp H xs vs → RepVs K mp H (xs.drop n) (vs.drop n)
  | xs, vs, 0, h => h
  | [], vs, n + 1, h => by rw [show vs = [] from h] <;> exact rfl
  | _ :: xs, _, n + 1, ⟨v, r, e, h1, h2⟩ => by rw [e]; exact RepVs.drop n h2
theorem RepVs.take : ∀ {xs : List MV} {vs : List V} (n : Nat), RepVs K mp H xs vs → RepVs K mp H (xs.take n) (vs.take n)
  | xs, vs, 0, h => by simp [RepVs]
  | [], vs, n + 1, h => by rw [show vs = [] from h] <;> exact rfl
  | _ :: xs, _, n + 1, ⟨v, r, e, h1, h2⟩ => by rw [e]; exact ⟨v, r.take n, rfl, h1, RepVs.take n h2⟩
theorem RepVs.set : ∀ {xs : List MV} {vs : List V} {x : MV} {v : V} (n : Nat), RepVs K mp H xs vs → RepV K mp H x v → RepVs K mp H (xs.set n x) (vs.set n v)
  | [], vs, _, _, n, h, _ => by rw [show vs = [] from h] <;> simp [RepVs]
  | _ :: xs, _, _, _, 0, ⟨v, r, e, h1, h2⟩, g => by rw [e]; exact ⟨_, _, rfl, g, h2⟩
  | _ :: xs, _, _, _, n + 1, ⟨v, r, e, h1, h2⟩, g => by rw [e]; exact ⟨_, _, rfl, h1, RepVs.set n h2 g⟩
theorem RepVs.single {x : MV} {v : V} (h : RepV K mp H x v) : RepVs K mp H [x] [v] := ⟨v, [], rfl, h, rfl⟩
theorem RepVs.cons {x : MV} {v : V} {xs : List MV} {vs : List V} (h : RepV K mp H x v) (g : RepVs K mp H xs vs) : RepVs K mp H (x :: xs) (v :: vs) := ⟨v, vs, rfl, h, g⟩
theorem RepVs.reverse : ∀ {xs : List MV} {vs : List V}, RepVs K mp H xs vs → RepVs K mp H xs.reverse vs.reverse
  | [], _, h => by rw [show _ = [] from h]; exact rfl
  | _ :: xs, _, ⟨v, r, e, h1, h2⟩ => by
    rw [e, List.reverse_cons, List.reverse_cons]
    exact (RepVs.reverse h2).append (.single h1)

/-- values stand on -/
structure Mon (mp mp' : List Addr) (H H' : Hp) : Prop where
  pre : ∃ l, mp' = mp ++ l
  tup : ∀ b o vs, H b = some (.frz o (.tup vs)) → H' b = some (.frz o (.tup vs))
  frl : ∀ b o vs, H b = some (.frz o (.lst vs)) → H' b = some (.frz o (.lst vs))
/-- what may come behind -/
structure Ext (mp mp' : List Addr) (H H' : Hp) : Prop extends Mon mp mp' H H' where
  ext : ∀ b φ, H b = some (.ext φ) → H' b = some (.ext φ)
  tbl : ∀ b ps, H b = some (.tbl ps) → ∃ ps', H' b = some (.tbl ps')
  fresh : ∀ a, a ∈ mp' → a ∈ mp ∨ H a = none
  keep : ∀ b o, H b = some o → b ∉ mp → (∀ ps, o ≠ .tbl ps) → H' b = some o
theorem Ext.refl : Ext mp mp H H := ⟨⟨⟨[], by simp⟩, fun _ _ _ h => h, fun _ _ _ h => h⟩, fun _ _ h => h, fun _ ps h => ⟨ps, h⟩, fun _ h => .inl h, fun _ _ h _ _ => h⟩
theorem Ext.trans {mp1 mp2 mp3 : List Addr} {H1 H2 H3 : Hp} (a : Ext mp1 mp2 H1 H2) (b : Ext mp2 mp3 H2 H3) : Ext mp1 mp3 H1 H3 := by
  obtain ⟨l, e⟩ := a.pre
  obtain ⟨l', e'⟩ := b.pre
  refine ⟨⟨⟨l ++ l', by rw [e', e, List.append_assoc]⟩, fun x y z h => b.tup x y z (a.tup x y z h), fun x y z h => b.frl x y z (a.frl x y z h)⟩, fun x y h => b.ext x y (a.ext x y h), fun x ps h => let ⟨ps1, h1⟩ := a.tbl x ps h; b.tbl x ps1 h1, fun x h => ?_,
    fun x o h n t => b.keep x o (a.keep x o h n t) (fun hm => (a.fresh x hm).elim n fun z => by rw [h] at z; cases z) t⟩
  rcases b.fresh x h with h | h
  · exact a.fresh x h
  · cases q : H1 x with
    | none => exact .inr rfl
    | some o =>
      by_cases hm : x ∈ mp1
      · exact .inl hm
      · by_cases ht : ∃ ps, o = .tbl ps
        · obtain ⟨ps, rfl⟩ := ht
          obtain ⟨ps', z⟩ := a.tbl x ps q
          rw [h] at z; cases z
        · have z := a.keep x o q hm fun ps e => ht ⟨ps, e⟩
          rw [h] at z; cases z
theorem Mon.get (a : Mon mp mp' H H') {n : Nat} {x : Addr} (h : mp[n]? = some x) : mp'[n]? = some x := by
  obtain ⟨l, e⟩ := a.pre
  rw [e, List.getElem?_append_left (List.getElem?_eq_some_iff.mp h).1]
  exact h
theorem TupAt.mono (e : Mon mp mp' H H') {a : Addr} {xs : List V} (h : TupAt K H a xs) : TupAt K H' a xs := by
  rcases h with ⟨o, h, d⟩ | h
  · exact .inl ⟨o, e.tup _ _ _ h, d⟩
  · exact .inr h
theorem LisAt.mono (e : Mon mp mp' H H') {a : Addr} {xs : List V} (h : LisAt K H a xs) : LisAt K H' a xs := by
  rcases h with ⟨o, h⟩ | h
  · exact .inl ⟨o, e.frl _ _ _ h⟩
  · exact .inr h
mutual
theorem RepV.monoW (e : Mon mp mp' H H') : ∀ {x : MV} {v : V}, RepV K mp H x v → RepV K mp' H' x v
  | .non, _, h => h
  | .bl _, _, h => h
  | .int _, _, h => h
  | .str _, _, h => h
  | .ty _, _, h => h
  | .ref n, _, ⟨a, h, q⟩ => ⟨a, e.get h, q⟩
  | .tup xs, _, ⟨a, vs, q, h, g⟩ => ⟨a, vs, q, h.mono e, RepVs.monoW e g⟩
  | .lis xs, _, ⟨a, vs, q, h, g⟩ => ⟨a, vs, q, h.mono e, RepVs.monoW e g⟩
theorem RepVs.monoW (e : Mon mp mp' H H') : ∀ {xs : List MV} {vs : List V}, RepVs K mp H xs vs → RepVs K mp' H' xs vs
  | [], _, h => h
  | x :: xs, _, ⟨v, r, q, h, g⟩ => ⟨v, r, q, RepV.monoW e h, RepVs.monoW e g⟩
end
theorem RepV.mono (e : Ext mp mp' H H') {x : MV} {v : V} (h : RepV K mp H x v) : RepV K mp' H' x v := RepV.monoW e.toMon h
theorem RepVs.mono (e : Ext mp mp' H H') {x : List MV} {v : List V} (h : RepVs K mp H x v) : RepVs K mp' H' x v := RepVs.monoW e.toMon h
mutual
/-- fewer cells are known: of what stood for it before -/
theorem RepV.cut {l : List Addr} {H0 : Hp} : ∀ {x : MV} {v0 v : V}, RepV K mp H0 x v0 → RepV K (mp ++ l) H x v → RepV K mp H x v
  | .non, _, _, _, h => h
  | .bl _, _, _, _, h => h
  | .int _, _, _, _, h => h
  | .str _, _, _, _, h => h
  | .ty _, _, _, _, h => h
  | .ref n, _, _, ⟨a, h, _⟩, ⟨b, g, q⟩ => by
    rw [List.getElem?_append_left (List.getElem?_eq_some_iff.mp h).1] at g
    exact ⟨b, g, q⟩
  | .tup xs, _, _, ⟨_, _, _, _, h⟩, ⟨a, vs, q, t, g⟩ => ⟨a, vs, q, t, RepVs.cut h g⟩
  | .lis xs, _, _, ⟨_, _, _, _, h⟩, ⟨a, vs, q, t, g⟩ => ⟨a, vs, q, t, RepVs.cut h g⟩
theorem RepVs.cut {l : List Addr} {H0 : Hp} : ∀ {xs : List MV} {vs0 vs : List V}, RepVs K mp H0 xs vs0 → RepVs K (mp ++ l) H xs vs → RepVs K mp H xs vs
  | [], _, _, _, h => h
  | x :: xs, _, _, ⟨_, _, _, h1, h2⟩, ⟨v, r, q, h, g⟩ => ⟨v, r, q, RepV.cut h1 h, RepVs.cut h2 g⟩
end
mutual
/-- what has no refs stands for itself whatever cells are known -/
theorem RepV.any (mp' : List Addr) : ∀ {x : MV} {v : V}, x.pure = true → RepV K mp H x v → RepV K mp' H x v
  | .non, _, _, h => h
  | .bl _, _, _, h => h
  | .int _, _, _, h => h
  | .str _, _, _, h => h
  | .ty _, _, _, h => h
  | .ref n, _, p, _ => absurd p (by simp [MV.pure])
  | .tup xs, _, p, ⟨a, vs, q, t, g⟩ => ⟨a, vs, q, t, RepVs.any mp' (by simpa [MV.pure] using p) g⟩
  | .lis xs, _, p, ⟨a, vs, q, t, g⟩ => ⟨a, vs, q, t, RepVs.any mp' (by simpa [MV.pure] using p) g⟩
theorem RepVs.any (mp' : List Addr) : ∀ {xs : List MV} {vs : List V}, MV.pures xs = true → RepVs K mp H xs vs → RepVs K mp' H xs vs
  | [], _, _, h => h
  | x :: xs, _, p, ⟨v, r, q, h, g⟩ => by
    simp only [MV.pures, Bool.and_eq_true] at p
    exact ⟨v, r, q, RepV.any mp' p.1 h, RepVs.any mp' p.2 g⟩
end
end

/-! ### cells -/
def PairRep (K : PySem.W.Frag) (mp : List Addr) (H : Hp) {α β : Type} (f : α → β) : List (α × MV) → List (β × V) → Prop :=
  Paired fun p q => q.1 = f p.1 ∧ RepV K mp H p.2 q.2
def CellRep (K : PySem.W.Frag) (T : Tb) (mp : List Addr) (H : Hp) (a : Addr) : Cell → Prop
  | .lst xs => ∃ vs, H a = some (.lst vs) ∧ RepVs K mp H xs vs
  | .dic kvs => ∃ kv', H a = some (.dK kv') ∧ PairRep K mp H MK.key kvs kv'
  | .dit kvs => ∃ kv', H a = some (.dT kv') ∧ PairRep K mp H (List.map MK.key) kvs kv'
  | .ins c fs => ∃ dx fs', H a = some (.ins (T.cls c) dx fs') ∧ PairRep K mp H sf fs fs'
  | .lck kvs => ∃ o kv', H a = some (.frz o (.dK kv')) ∧ PairRep K mp H MK.key kvs kv'
structure RelS (K : PySem.W.Frag) (T : Tb) (mp : List Addr) (st : Sto) (H : Hp) : Prop where
  len : mp.length = st.length
  nd : mp.Nodup
  cell : ∀ (n : Nat) (c : Cell) (a : Addr), st[n]? = some c → mp[n]? = some a → CellRep K T mp H a c
  tabs : LamX.Tabs T.tabs H
structure RelL (K : PySem.W.Frag) (mp : List Addr) (H : Hp) (ρ : Loc) (σ : L2.St) : Prop where
  len : ρ.length = σ.length
  at_ : ∀ (i : Nat) (x : MV), ρ[i]? = some (some x) → ∃ v, σ[i]? = some (some v) ∧ RepV K mp H x v
theorem ix_nd {α : Type} {l : List α} (h : l.Nodup) {i j : Nat} {a : α} (hi : l[i]? = some a) (hj : l[j]? = some a) : i = j := by
  obtain ⟨h1, e1⟩ := List.getElem?_eq_some_iff.mp hi
  obtain ⟨h2, e2⟩ := List.getElem?_eq_some_iff.mp hj
  rcases Nat.lt_trichotomy i j with q | q | q
  · exact absurd (e1.trans e2.symm) (List.pairwise_iff_getElem.mp h i j h1 h2 q)
  · exact q
  · exact absurd (e2.trans e1.symm) (List.pairwise_iff_getElem.mp h j i h2 h1 q)
section
variable {K : PySem.W.Frag} {T : Tb} {mp mp' : List Addr} {H H' : Hp} {st : Sto} {ρ : Loc} {σ : L2.St}
theorem RelL.monoW (h : RelL K mp H ρ σ) (e : Mon mp mp' H H') : RelL K mp' H' ρ σ := ⟨h.len, fun i x q => let ⟨v, a, b⟩ := h.at_ i x q; ⟨v, a, b.monoW e⟩⟩
theorem RelL.mono (h : RelL K mp H ρ σ) (e : Ext mp mp' H H') : RelL K mp' H' ρ σ := ⟨h.len, fun i x q => let ⟨v, a, b⟩ := h.at_ i x q; ⟨v, a, b.mono e⟩⟩
theorem RelL.set {i : Nat} {x : MV} {v : V} (h : RelL K mp H ρ σ) (r : RepV K mp H x v) : RelL K mp H (ρ.set i (some x)) (σ.set i (some v)) := by
  refine ⟨by rw [List.length_set, List.length_set, h.len], fun j y q => ?_⟩
  by_cases hj : i = j
  · subst hj
    by_cases hi : i < ρ.length
    · rw [List.getElem?_set_self hi] at q
      cases q
      exact ⟨v, List.getElem?_set_self (by rw [← h.len]; exact hi), r⟩
    · rw [List.getElem?_eq_none (by rw [List.length_set]; omega)] at q; cases q
  · rw [List.getElem?_set_ne hj] at q ⊢
    exact h.at_ j y q
theorem RelL.unset {i : Nat} (h : RelL K mp H ρ σ) : RelL K mp H (ρ.set i none) (σ.set i none) := by
  refine ⟨by rw [List.length_set, List.length_set, h.len], fun j y q => ?_⟩
  by_cases hj : i = j
  · subst hj
    by_cases hi : i < ρ.length
    · rw [List.getElem?_set_self hi] at q; cases q
    · rw [List.getElem?_eq_none (by rw [List.length_set]; omega)] at q; cases q
  · rw [List.getElem?_set_ne hj] at q ⊢
    exact h.at_ j y q
theorem PairRep.imp {α β : Type} {f : α → β} {kvs : List (α × MV)} {kv' : List (β × V)} (h : PairRep K mp H f kvs kv') (g : ∀ x v, RepV K mp H x v → RepV K mp' H' x v) : PairRep K mp' H' f kvs kv' := by
  unfold PairRep at h ⊢
  induction h with
  | nil => exact .nil
  | cons a b ih => exact .cons ⟨a.1, g _ _ a.2⟩ ih
theorem PairRep.mono {α β : Type} {f : α → β} {kvs : List (α × MV)} {kv' : List (β × V)} (h : PairRep K mp H f kvs kv') (e : Ext mp mp' H H') : PairRep K mp' H' f kvs kv' := h.imp fun _ _ r => r.mono e
theorem PairRep.cut {α β : Type} {f : α → β} {kvs : List (α × MV)} {kv0 kv' : List (β × V)} {l : List Addr} {H0 : Hp} (h0 : PairRep K mp H0 f kvs kv0) (h : PairRep K (mp ++ l) H f kvs kv') : PairRep K mp H f kvs kv' := by
  unfold PairRep at h0 h ⊢
  induction h generalizing kv0 with
  | nil => exact .nil
  | cons a b ih =>
    cases h0 with
    | cons a0 b0 => exact .cons ⟨a.1, RepV.cut a0.2 a.2⟩ (ih b0)
/-- the cell's object stands as it did -/
theorem PairRep.monoW {α β : Type} {f : α → β} {kvs : List (α × MV)} {kv' : List (β × V)} (h : PairRep K mp H f kvs kv') (e : Mon mp mp' H H') : PairRep K mp' H' f kvs kv' := h.imp fun _ _ r => r.monoW e
theorem CellRep.keepW {a : Addr} {c : Cell} (h : CellRep K T mp H a c) (e : Mon mp mp' H H') (k : H' a = H a) : CellRep K T mp' H' a c := by
  cases c with
  | lst xs => obtain ⟨vs, h1, h2⟩ := h; exact ⟨vs, k.trans h1, h2.monoW e⟩
  | dic xs => obtain ⟨vs, h1, h2⟩ := h; exact ⟨vs, k.trans h1, h2.monoW e⟩
  | dit xs => obtain ⟨vs, h1, h2⟩ := h; exact ⟨vs, k.trans h1, h2.monoW e⟩
  | ins c xs => obtain ⟨dx, vs, h1, h2⟩ := h; exact ⟨dx, vs, k.trans h1, h2.monoW e⟩
  | lck xs => obtain ⟨o, vs, h1, h2⟩ := h; exact ⟨o, vs, k.trans h1, h2.monoW e⟩
theorem CellRep.keep {a : Addr} {c : Cell} (h : CellRep K T mp H a c) (e : Ext mp mp' H H') (k : H' a = H a) : CellRep K T mp' H' a c := h.keepW e.toMon k
theorem CellRep.cut {l : List Addr} {H0 : Hp} {a0 a : Addr} {c : Cell} (h0 : CellRep K T mp H0 a0 c) (h : CellRep K T (mp ++ l) H a c) : CellRep K T mp H a c := by
  cases c with
  | lst xs => obtain ⟨_, _, g⟩ := h0; obtain ⟨vs, h1, h2⟩ := h; exact ⟨vs, h1, RepVs.cut g h2⟩
  | dic xs => obtain ⟨_, _, g⟩ := h0; obtain ⟨vs, h1, h2⟩ := h; exact ⟨vs, h1, PairRep.cut g h2⟩
  | dit xs => obtain ⟨_, _, g⟩ := h0; obtain ⟨vs, h1, h2⟩ := h; exact ⟨vs, h1, PairRep.cut g h2⟩
  | ins c xs => obtain ⟨_, _, _, g⟩ := h0; obtain ⟨dx, vs, h1, h2⟩ := h; exact ⟨dx, vs, h1, PairRep.cut g h2⟩
  | lck xs => obtain ⟨_, _, _, g⟩ := h0; obtain ⟨o, vs, h1, h2⟩ := h; exact ⟨o, vs, h1, PairRep.cut g h2⟩
/-- a cell's object: not a tuple, not a table, not a list that nobody changes, not free -/
def isCell : HO → Bool
  | .lst _ => true
  | .dK _ => true
  | .dT _ => true
  | .ins _ _ _ => true
  | .frz _ (.dK _) => true
  | _ => false
theorem CellRep.obj {a : Addr} {c : Cell} (h : CellRep K T mp H a c) : ∃ o, H a = some o ∧ isCell o = true := by
  cases c with
  | lst xs => obtain ⟨vs, h1, h2⟩ := h; exact ⟨_, h1, rfl⟩
  | dic xs => obtain ⟨vs, h1, h2⟩ := h; exact ⟨_, h1, rfl⟩
  | dit xs => obtain ⟨vs, h1, h2⟩ := h; exact ⟨_, h1, rfl⟩
  | ins c xs => obtain ⟨dx, vs, h1, h2⟩ := h; exact ⟨_, h1, rfl⟩
  | lck xs => obtain ⟨o, vs, h1, h2⟩ := h; exact ⟨_, h1, rfl⟩
theorem RelS.there (h : RelS K T mp st H) {n : Nat} {a : Addr} (e : mp[n]? = some a) : ∃ o, H a = some o ∧ isCell o = true := by
  have hn : n < st.length := by rw [← h.len]; exact (List.getElem?_eq_some_iff.mp e).1
  exact (h.cell n _ a (List.getElem?_eq_getElem hn) e).obj
theorem Ext.new {p : Addr} {o : HO} (hp : H p = none) (l : List Addr) (hl : ∀ a ∈ l, a = p) : Ext mp (mp ++ l) H (upd H p o) := by
  have st : ∀ b u, H b = some u → upd H p o b = some u := fun b u h => by rw [upd_ne (ne_of_none h hp)]; exact h
  exact ⟨⟨⟨l, rfl⟩, fun b _ _ h => st _ _ h, fun b _ _ h => st _ _ h⟩, fun b _ h => st _ _ h, fun b ps h => ⟨ps, st _ _ h⟩, fun a h => (List.mem_append.mp h).elim .inl fun z => .inr (by rw [hl a z]; exact hp), fun b u h _ _ => st b u h⟩
theorem Ext.new1 {p : Addr} {o : HO} (hp : H p = none) : Ext mp (mp ++ [p]) H (upd H p o) := Ext.new hp [p] fun a h => by simpa using h
theorem Ext.new0 {p : Addr} {o : HO} (hp : H p = none) : Ext mp mp H (upd H p o) := by
  have := Ext.new (mp := mp) (o := o) hp [] (fun a h => by simp at h)
  rwa [List.append_nil] at this
theorem Ext.wr {a : Addr} {o u : HO} (hm : a ∈ mp) (ha : H a = some u) (hu : isCell u = true) : Ext mp mp H (upd H a o) := by
  have st : ∀ b u', H b = some u' → isCell u' = false → upd H a o b = some u' := fun b u' h n => by
    rw [upd_ne (ne_of h ha (fun z => by rw [← z, n] at hu; cases hu))]; exact h
  refine ⟨⟨⟨[], by simp⟩, fun b _ _ h => st _ _ h rfl, fun b _ _ h => st _ _ h rfl⟩, fun b _ h => st _ _ h rfl, fun b ps h => ⟨ps, st _ _ h rfl⟩, fun _ h => .inl h, fun b u' h n _ => ?_⟩
  rw [upd_ne fun z => n (by rw [z]; exact hm)]; exact h
theorem tabs_new {T : List (Addr × Str)} {p : Addr} {o : HO} (h : LamX.Tabs T H) (hp : H p = none) : LamX.Tabs T (upd H p o) := h.ext fun b u e => by rw [upd_ne (ne_of_none e hp)]; exact e
theorem tabs_wr {T : List (Addr × Str)} {a : Addr} {o u : HO} (h : LamX.Tabs T H) (ha : H a = some u) (hu : isCell u = true) : LamX.Tabs T (upd H a o) := fun p hp => by
  obtain ⟨ps, h1, h2, h3⟩ := h p hp
  refine ⟨ps, by rw [upd_ne (ne_of h1 ha (fun z => by rw [← z] at hu; cases hu))]; exact h1, h2, fun pos cv hc => ?_⟩
  obtain ⟨c, e1, e2⟩ := h3 pos cv hc
  exact ⟨c, e1, by rw [upd_ne (ne_of e2 ha (fun z => by rw [← z] at hu; cases hu))]; exact e2⟩
/-- a new object that is no cell -/
theorem RelS.new0 (h : RelS K T mp st H) {p : Addr} {o : HO} (hp : H p = none) : RelS K T mp st (upd H p o) := by
  refine ⟨h.len, h.nd, fun n c a h1 h2 => ?_, tabs_new h.tabs hp⟩
  have q := h.cell n c a h1 h2
  obtain ⟨u, e, _⟩ := q.obj
  exact q.keep (Ext.new0 hp) (upd_ne (ne_of_none e hp))
/-- a new cell -/
theorem RelS.new (h : RelS K T mp st H) {p : Addr} {o : HO} {c : Cell} (hp : H p = none) (hc : CellRep K T (mp ++ [p]) (upd H p o) p c) : RelS K T (mp ++ [p]) (st ++ [c]) (upd H p o) := by
  have np : p ∉ mp := fun hm => by
    obtain ⟨n, hn, e⟩ := List.getElem_of_mem hm
    obtain ⟨u, z, _⟩ := h.there (n := n) (a := p) (by rw [List.getElem?_eq_getElem hn, e])
    rw [hp] at z; cases z
  refine ⟨by rw [List.length_append, List.length_append, h.len] <;> rfl, ?_, fun n d a h1 h2 => ?_, tabs_new h.tabs hp⟩
  · rw [List.nodup_append]
    refine ⟨h.nd, by simp, fun a ha b hb e => ?_⟩
    have hb : b = p := by simpa using hb
    exact np (by rw [← hb, ← e]; exact ha)
  · by_cases hn : n < st.length
    · rw [List.getElem?_append_left hn] at h1
      rw [List.getElem?_append_left (by rw [h.len]; exact hn)] at h2
      have q := h.cell n d a h1 h2
      obtain ⟨u, e, _⟩ := q.obj
      exact q.keep (Ext.new1 hp) (upd_ne (ne_of_none e hp))
    · have hn2 : n = st.length := by
        have := (List.getElem?_eq_some_iff.mp h1).1
        rw [List.length_append] at this
        simp at this
        omega
      subst hn2
      rw [List.getElem?_append_right (Nat.le_refl _), Nat.sub_self] at h1
      rw [← h.len, List.getElem?_append_right (Nat.le_refl _), Nat.sub_self] at h2
      simp at h1 h2
      subst h1 h2
      exact hc
/-- a cell is written -/
theorem RelS.wr (h : RelS K T mp st H) {n : Nat} {a : Addr} {o : HO} {c : Cell} (ha : mp[n]? = some a) (hc : CellRep K T mp (upd H a o) a c) : RelS K T mp (st.set n c) (upd H a o) := by
  obtain ⟨u, e, hu⟩ := h.there ha
  refine ⟨by rw [List.length_set]; exact h.len, h.nd, fun m d b h1 h2 => ?_, tabs_wr h.tabs e hu⟩
  by_cases hm : n = m
  · subst hm
    rw [ha] at h2; cases h2
    rw [List.getElem?_set_self (by rw [← h.len]; exact (List.getElem?_eq_some_iff.mp ha).1)] at h1
    cases h1
    exact hc
  · rw [List.getElem?_set_ne hm] at h1
    have ne : b ≠ a := fun z => by
      rw [z] at h2
      exact hm (ix_nd h.nd ha h2)
    exact (h.cell m d b h1 h2).keep (Ext.wr (List.mem_of_getElem? ha) e hu) (upd_ne ne)
/-- the cells behind are dropped -/
theorem RelS.cut {l : List Addr} {st1 : Sto} {H0 : Hp} (h0 : RelS K T mp st H0) (h : RelS K T (mp ++ l) st1 H) (e : st1.take st.length = st) : RelS K T mp st H := by
  refine ⟨h0.len, h0.nd, fun n c a h1 h2 => ?_, h.tabs⟩
  have hn := (List.getElem?_eq_some_iff.mp h1).1
  have e1 : st1[n]? = some c := by
    rw [← e] at h1
    rw [List.getElem?_take_of_lt hn] at h1
    exact h1
  exact CellRep.cut (h0.cell n c a h1 h2) (h.cell n c a e1 (by rw [List.getElem?_append_left (List.getElem?_eq_some_iff.mp h2).1]; exact h2))
/-- an object that is no cell changes: no tuple, no list that nobody changes, no table -/
theorem Mon.out {D : Addr} {o u : HO} (hD : H D = some u) (hu : isCell u = true) : Mon mp mp H (upd H D o) := by
  have st : ∀ b u', H b = some u' → isCell u' = false → upd H D o b = some u' := fun b u' h n => by
    rw [upd_ne (ne_of h hD (fun z => by rw [← z, n] at hu; cases hu))]; exact h
  exact ⟨⟨[], by simp⟩, fun b _ _ h => st _ _ h rfl, fun b _ _ h => st _ _ h rfl⟩
theorem RelS.out (h : RelS K T mp st H) {D : Addr} {o u : HO} (hD : H D = some u) (hu : isCell u = true) (hm : D ∉ mp) : RelS K T mp st (upd H D o) := by
  refine ⟨h.len, h.nd, fun n c a h1 h2 => ?_, tabs_wr h.tabs hD hu⟩
  exact (h.cell n c a h1 h2).keepW (Mon.out hD hu) (upd_ne fun z => hm (by rw [← z]; exact List.mem_of_getElem? h2))
/-- an object that is no cell becomes one -/
theorem RelS.add (h : RelS K T mp st H) {D : Addr} {c : Cell} (hm : D ∉ mp) (hc : CellRep K T (mp ++ [D]) H D c) : RelS K T (mp ++ [D]) (st ++ [c]) H := by
  refine ⟨by rw [List.length_append, List.length_append, h.len] <;> rfl, ?_, fun n d a h1 h2 => ?_, h.tabs⟩
  · rw [List.nodup_append]
    refine ⟨h.nd, by simp, fun a ha b hb e => ?_⟩
    have hb : b = D := by simpa using hb
    exact hm (by rw [← hb, ← e]; exact ha)
  · by_cases hn : n < st.length
    · rw [List.getElem?_append_left hn] at h1
      rw [List.getElem?_append_left (by rw [h.len]; exact hn)] at h2
      exact (h.cell n d a h1 h2).keepW ⟨⟨[D], rfl⟩, fun _ _ _ z => z, fun _ _ _ z => z⟩ rfl
    · have hn2 : n = st.length := by
        have := (List.getElem?_eq_some_iff.mp h1).1
        rw [List.length_append] at this
        simp at this
        omega
      subst hn2
      rw [List.getElem?_append_right (Nat.le_refl _), Nat.sub_self] at h1
      rw [← h.len, List.getElem?_append_right (Nat.le_refl _), Nat.sub_self] at h2
      simp at h1 h2
      subst h1 h2
      exact hc
theorem RelS.none_out (h : RelS K T mp st H) {D : Addr} (hD : H D = none) : D ∉ mp := fun hm => by
  obtain ⟨n, hn, e⟩ := List.getElem_of_mem hm
  obtain ⟨u, z, _⟩ := h.there (n := n) (a := D) (by rw [List.getElem?_eq_getElem hn, e])
  rw [hD] at z; cases z
end
end MP

set_option Elab.async false
set_option linter.all false
set_option maxRecDepth 100000
set_option maxHeartbeats 2000000
/-! MP: judgements; expressions. -/
namespace MP
open PySem PySem.Spec PyProof.Rows L2

def ExRep (K : PySem.W.Frag) (T : Tb) (mp : List Addr) (H : Hp) (x : Exn) (cls : Value) (d : Option Addr) : Prop :=
  cls = .ref (T.cls x.cls) ∧ ((x.fs = [] ∧ d = none) ∨ (x.fs ≠ [] ∧ ∃ a fs', d = some a ∧ H a = some (.xd fs') ∧ PairRep K mp H sf x.fs fs'))
/-- what a result is worth: Q of its value, W of its exception -/
def Post (K : PySem.W.Frag) (T : Tb) {α β : Type} (rep : List Addr → Hp → α → β → Prop) (mp : List Addr) (H : Hp) (W : XK) (r : Res α) (Q : β → Hp → Prop) : Prop :=
  match r with
  | .ok a st => ∀ mp' v H', Ext mp mp' H H' → RelS K T mp' st H' → rep mp' H' a v → Q v H'
  | .exc x st => ∀ mp' H' cls d, Ext mp mp' H H' → RelS K T mp' st H' → ExRep K T mp' H' x cls d → W cls d H'
  | .bad => False
abbrev repB : List Addr → Hp → Bool → Bool → Prop := fun _ _ a b => a = b
section
variable {K : PySem.W.Frag} {T : Tb} {α β γ δ : Type} {rep : List Addr → Hp → α → β → Prop} {rep' : List Addr → Hp → γ → δ → Prop} {mp mp' : List Addr} {H H' : Hp} {W : XK}
theorem Post.from {r : Res α} {Q : β → Hp → Prop} (h : Post K T rep mp H W r Q) (e : Ext mp mp' H H') : Post K T rep mp' H' W r Q := by
  cases r with
  | ok a st => exact fun m v G e' => h m v G (e.trans e')
  | exc x st => exact fun m G c d e' => h m G c d (e.trans e')
  | bad => exact h
theorem Post.bnd {r : Res γ} {f : γ → Sto → Res α} {Q : β → Hp → Prop} {Qa : δ → Hp → Prop} (h : Post K T rep mp H W (r.bind f) Q)
    (hk : ∀ a st1 mp1 x H1, Ext mp mp1 H H1 → RelS K T mp1 st1 H1 → rep' mp1 H1 a x → Post K T rep mp1 H1 W (f a st1) Q → Qa x H1) : Post K T rep' mp H W r Qa := by
  cases r with
  | ok a st => exact fun m x G e r q => hk a st m x G e r q (Post.from (show Post K T rep mp H W (f a st) Q from h) e)
  | exc x st => exact h
  | bad => exact h
theorem Post.here {a : α} {st : Sto} {v : β} {Q : β → Hp → Prop} (h : Post K T rep mp H W (.ok a st) Q) (s : RelS K T mp st H) (r : rep mp H a v) : Q v H := h mp v H .refl s r
/-- a new object that is no cell -/
theorem Post.new0 {a : α} {st : Sto} {v : β} {p : Addr} {o : HO} {Q : β → Hp → Prop} (h : Post K T rep mp H W (.ok a st) Q) (s : RelS K T mp st H) (hp : H p = none) (r : rep mp (upd H p o) a v) : Q v (upd H p o) := h mp v _ (Ext.new0 hp) (s.new0 hp) r
end
/-- an expression's reading made of m -/
def tE (K : PySem.W.Frag) (T : Tb) (W : WX) (m : ME) : TE := fun σ H Q => ∃ mp ρ st, RelL K mp H ρ σ ∧ RelS K T mp st H ∧ Post K T (RepV K) mp H (fun c d H' => W c d σ H') (m ρ st) Q
def tT (K : PySem.W.Frag) (T : Tb) (W : WX) (m : MT) : TT := fun σ H Q => ∃ mp ρ st, RelL K mp H ρ σ ∧ RelS K T mp st H ∧ Post K T repB mp H (fun c d H' => W c d σ H') (m ρ st) Q
def tA (K : PySem.W.Frag) (T : Tb) (W : WX) (m : MA) : TA := fun σ H Q => ∃ mp ρ st, RelL K mp H ρ σ ∧ RelS K T mp st H ∧ Post K T (RepVs K) mp H (fun c d H' => W c d σ H') (m ρ st) Q
def RE (T : Tb) (X : Cx) (W : WX) (e : Expr) (m : ME) : Prop := PE X e (tE X.K T W m)
def RT (T : Tb) (X : Cx) (W : WX) (e : Expr) (m : MT) : Prop := PT X e (tT X.K T W m)
def RW (T : Tb) (X : Cx) (W : WX) (e : Expr) (m : MT) : Prop := PW X e (tT X.K T W m)
structure RA (T : Tb) (X : Cx) (W : WX) (es : List Expr) (m : MA) : Prop where
  pa : PA X es (tA X.K T W m)
  len : ∀ ρ st vs st', m ρ st = .ok vs st' → vs.length = es.length

theorem PE.imp {X : Cx} {e : Expr} {t t' : TE} (h : PE X e t) (i : ∀ σ H Q, t' σ H Q → t σ H Q) : PE X e t' := ⟨fun p s σ H Q I q => h.run p s σ H Q I (i σ H Q q)⟩
theorem PT.imp {X : Cx} {e : Expr} {t t' : TT} (h : PT X e t) (i : ∀ σ H Q, t' σ H Q → t σ H Q) : PT X e t' := ⟨fun p s σ H Q I q => h.run p s σ H Q I (i σ H Q q)⟩
theorem PW.imp {X : Cx} {e : Expr} {t t' : TT} (h : PW X e t) (i : ∀ σ H Q, t' σ H Q → t σ H Q) : PW X e t' := ⟨fun w p s σ H Q I q => h.run w p s σ H Q I (i σ H Q q)⟩
theorem PA.imp {X : Cx} {e : List Expr} {t t' : TA} (h : PA X e t) (i : ∀ σ H Q, t' σ H Q → t σ H Q) : PA X e t' := ⟨fun w p s σ H Q I q => h.run w p s σ H Q I (i σ H Q q)⟩
theorem PE.or {X : Cx} {e : Expr} {t t' : TE} (h : PE X e t) (h' : PE X e t') : PE X e (fun σ H Q => t σ H Q ∨ t' σ H Q) := ⟨fun p s σ H Q I q => q.elim (h.run p s σ H Q I) (h'.run p s σ H Q I)⟩

section
variable {T : Tb} {X : Cx} {W : WX}
/-! ### names, constants -/
def eVar (i : Nat) : ME := fun ρ s => match ρ[i]? with
  | some (some a) => .ok a s
  | _ => .bad
theorem re_var (i : Nat) {x : Str} {pos : Pos} (hN : X.N[i]? = some x := by rfl) (hv : Vis X.env.scope x := by first | exact Or.inl rfl | exact Or.inr (Or.inl rfl) | exact Or.inr (Or.inr rfl)) (hd : (x == ("__debug__" : Str)) = false := by decide)
    (hcd : (x == ("__classdict__" : Str)) = false := by decide) : RE T X W (.Name x pos) (eVar i) := by
  refine PE.imp (pe_var hN hv hd hcd) fun σ H Q ⟨mp, ρ, st, L, S, P⟩ => ?_
  unfold eVar at P
  cases e : ρ[i]? with
  | none => rw [e] at P; exact P.elim
  | some o =>
    cases o with
    | none => rw [e] at P; exact P.elim
    | some a =>
      rw [e] at P
      obtain ⟨v, h1, h2⟩ := L.at_ i a e
      exact ⟨v, h1, Post.here P S h2⟩
def eC (a : MV) : ME := fun _ s => .ok a s
theorem re_c {e : Expr} {a : MV} {v : V} (h : PE X e (tC v)) (r : ∀ mp H, RepV X.K mp H a v) : RE T X W e (eC a) := PE.imp h fun σ H Q ⟨mp, ρ, st, L, S, P⟩ => Post.here P S (r mp H)
theorem re_int {i j pos} : RE T X W (.Constant (.int i) j pos) (eC (.int i)) := re_c pe_int fun _ _ => rfl
theorem re_bl {b j pos} : RE T X W (.Constant (.bool b) j pos) (eC (.bl b)) := re_c pe_bl fun _ _ => rfl
theorem re_non {j pos} : RE T X W (.Constant .none j pos) (eC .non) := re_c pe_non fun _ _ => rfl
theorem re_str {s : String} {j pos} : RE T X W (.Constant (.str (sf s)) j pos) (eC (.str s)) := re_c pe_str fun _ _ => rfl
/-- a module's int -/
theorem re_gint {x : Str} {i : Int} {t : Tok} {pos : Pos} (hg : Gl X x) (hm : X.mg x = some (.int i t)) (hd : (x == ("__debug__" : Str)) = false := by decide) : RE T X W (.Name x pos) (eC (.int i)) := re_c (pe_glob (v := .int i) hg hm ⟨t, rfl⟩ hd) fun _ _ => rfl
theorem re_gstr {x : Str} {s : String} {t : Tok} {pos : Pos} (hg : Gl X x) (hm : X.mg x = some (.str (sf s) t)) (hd : (x == ("__debug__" : Str)) = false := by decide) : RE T X W (.Name x pos) (eC (.str s)) := re_c (pe_glob (v := .str (sf s)) hg hm ⟨t, rfl⟩ hd) fun _ _ => rfl
/-- a built-in class as a value -/
theorem re_ty {x : Str} {n : String} {pos : Pos} (hg : Gl X x) (hm : X.mg x = none) (hv : bootBuiltins x = some (.type n)) (hn : x ≠ "__name__" := by decide) (hd : (x == ("__debug__" : Str)) = false := by decide) : RE T X W (.Name x pos) (eC (.ty n)) :=
  re_c (pe_bltn (v := .ty n) hg hm hv rfl hn hd) fun _ _ => rfl

/-! ### two expressions, an operator by values -/
def eOp (g : MV → MV → Sto → Res MV) (a b : ME) : ME := fun ρ s => (a ρ s).bind fun x s => (b ρ s).bind fun y s => g x y s
def RR2 (K : PySem.W.Frag) (T : Tb) (g : MV → MV → Sto → Res MV) (r : R2) : Prop :=
  ∀ (mp : List Addr) (H : Hp) (st : Sto) (a b : MV) (x y : V) (W : XK) (Q : VK), RelS K T mp st H → RepV K mp H a x → RepV K mp H b y → Post K T (RepV K) mp H W (g a b st) Q → r x y H Q
variable {a b c : Expr} {ma mb mc : ME} {pos : Pos} {g g' : MV → MV → Sto → Res MV} {r r' : R2}
theorem op_in (hg : RR2 X.K T g r) {σ : L2.St} {H : Hp} {Q : VK} (h : tE X.K T W (eOp g ma mb) σ H Q) : tOp r (tE X.K T W ma) (tE X.K T W mb) σ H Q := by
  obtain ⟨mp, ρ, st, L, S, P⟩ := h
  refine ⟨mp, ρ, st, L, S, Post.bnd P fun x1 st1 mp1 x H1 e1 S1 r1 P1 => ?_⟩
  refine ⟨mp1, ρ, st1, L.mono e1, S1, Post.bnd P1 fun y1 st2 mp2 y H2 e2 S2 r2 P2 => ?_⟩
  exact hg mp2 H2 st2 x1 y1 x y _ Q S2 (r1.mono e2) r2 P2
theorem re_op {op : Operator} (ho : OpR X (binaryOp op) r) (hg : RR2 X.K T g r) (ha : RE T X W a ma) (hb : RE T X W b mb) : RE T X W (.BinOp a op b pos) (eOp g ma mb) := PE.imp (pe_op ho ha hb) fun _ _ _ => op_in hg
theorem re_cmp {op : CmpOp} (ho : OpR X (compareOp op) r) (hg : RR2 X.K T g r) (ha : RE T X W a ma) (hb : RE T X W b mb) (hm : behindInMarks op b = false := by first | exact nomark _ | rfl) : RE T X W (.Compare a [op] [b] pos) (eOp g ma mb) :=
  PE.imp (pe_cmpR ho ha hb hm) fun _ _ _ => op_in hg
theorem re_ix (ho : IxR X r) (hg : RR2 X.K T g r) (ha : RE T X W a ma) (hb : RE T X W b mb) (hs : PlainIx b := by exact fun _ _ => rfl) : RE T X W (.Subscript a b pos) (eOp g ma mb) :=
  PE.imp (pe_ix ho ha hb hs) fun _ _ _ => op_in hg
theorem RR2.or (h : RR2 X.K T g r) (h' : RR2 X.K T g' r') {k : MV → MV → Sto → Res MV} (hk : ∀ a b s, k a b s = g a b s ∨ k a b s = g' a b s) : RR2 X.K T k (fun x y H Q => r x y H Q ∨ r' x y H Q) := by
  intro mp H st a b x y W Q S ra rb P
  rcases hk a b st with e | e
  · rw [e] at P; exact .inl (h mp H st a b x y W Q S ra rb P)
  · rw [e] at P; exact .inr (h' mp H st a b x y W Q S ra rb P)
theorem IxR.or (h : IxR X r) (h' : IxR X r') : IxR X (fun x y H Q => r x y H Q ∨ r' x y H Q) := by
  intro value slice pins s σ H x y v u Q I rx ry q hs
  rcases q with q | q
  · exact h value slice pins s σ H x y v u Q I rx ry q hs
  · exact h' value slice pins s σ H x y v u Q I rx ry q hs
/-- as a test -/
def tB2 (m : ME) : MT := fun ρ s => (m ρ s).bind fun x s => match x with
  | .bl b => .ok b s
  | _ => .bad
theorem test_in {m : ME} {t : TE} (ht : ∀ σ H Q, tE X.K T W m σ H Q → t σ H Q) {σ : L2.St} {H : Hp} {Q : Bool → Hp → Prop} (h : tT X.K T W (tB2 m) σ H Q) : tTest t σ H Q := by
  obtain ⟨mp, ρ, st, L, S, P⟩ := h
  refine ht σ H _ ⟨mp, ρ, st, L, S, Post.bnd P fun x1 st1 mp1 x H1 e1 S1 r1 P1 => ?_⟩
  cases x1 with
  | bl b => exact ⟨b, r1, Post.here P1 S1 rfl⟩
  | _ => exact P1.elim
theorem rt_cmp {op : CmpOp} (ho : OpR X (compareOp op) r) (hg : RR2 X.K T g r) (ha : RE T X W a ma) (hb : RE T X W b mb) (hm : behindInMarks op b = false := by first | exact nomark _ | rfl) : RT T X W (.Compare a [op] [b] pos) (tB2 (eOp g ma mb)) :=
  PT.imp (pt_cmpR ho ha hb hm) fun _ _ _ => test_in fun _ _ _ => op_in hg
/-- a op b op' c -/
def eChain (g g' : MV → MV → Sto → Res MV) (a b c : ME) : ME := fun ρ s => (a ρ s).bind fun x s => (b ρ s).bind fun y s => (g x y s).bind fun z s => match z with
  | .bl true => (c ρ s).bind fun w s => g' y w s
  | .bl false => .ok (.bl false) s
  | _ => .bad
theorem chain_in (hg : RR2 X.K T g r) (hg' : RR2 X.K T g' r') {σ : L2.St} {H : Hp} {Q : VK} (h : tE X.K T W (eChain g g' ma mb mc) σ H Q) : tChain r r' (tE X.K T W ma) (tE X.K T W mb) (tE X.K T W mc) σ H Q := by
  obtain ⟨mp, ρ, st, L, S, P⟩ := h
  refine ⟨mp, ρ, st, L, S, Post.bnd P fun x1 st1 mp1 x H1 e1 S1 r1 P1 => ?_⟩
  refine ⟨mp1, ρ, st1, L.mono e1, S1, Post.bnd P1 fun y1 st2 mp2 y H2 e2 S2 r2 P2 => ?_⟩
  refine hg mp2 H2 st2 x1 y1 x y _ _ S2 (r1.mono e2) r2 (Post.bnd P2 fun z1 st3 mp3 z H3 e3 S3 r3 P3 => ?_)
  cases z1 with
  | bl k =>
    refine ⟨k, r3, ?_⟩
    cases k with
    | true =>
      rw [if_pos rfl]
      refine ⟨mp3, ρ, st3, ((L.mono e1).mono e2).mono e3, S3, Post.bnd P3 fun w1 st4 mp4 w H4 e4 S4 r4 P4 => ?_⟩
      exact hg' mp4 H4 st4 y1 w1 y w _ Q S4 ((r2.mono e3).mono e4) r4 P4
    | false =>
      rw [if_neg Bool.false_ne_true]
      exact Post.here P3 S3 rfl
  | _ => exact P3.elim
theorem re_chain {op op' : CmpOp} (ho : OpR X (compareOp op) r) (hg : RR2 X.K T g r) (ho' : OpR X (compareOp op') r') (hg' : RR2 X.K T g' r') (ha : RE T X W a ma) (hb : RE T X W b mb) (hc : RE T X W c mc)
    (hm : lastMarks [op, op'] [b, c] = false := by with_unfolding_all rfl) : RE T X W (.Compare a [op, op'] [b, c] pos) (eChain g g' ma mb mc) := PE.imp (pe_chain ho ho' ha hb hc hm) fun _ _ _ => chain_in hg hg'
theorem rt_chain {op op' : CmpOp} (ho : OpR X (compareOp op) r) (hg : RR2 X.K T g r) (ho' : OpR X (compareOp op') r') (hg' : RR2 X.K T g' r') (ha : RE T X W a ma) (hb : RE T X W b mb) (hc : RE T X W c mc)
    (hm : lastMarks [op, op'] [b, c] = false := by with_unfolding_all rfl) : RT T X W (.Compare a [op, op'] [b, c] pos) (tB2 (eChain g g' ma mb mc)) := PT.imp (pt_chain ho ho' ha hb hc hm) fun _ _ _ => test_in fun _ _ _ => chain_in hg hg'
/-- a one-place operator -/
def eUn (g : MV → Sto → Res MV) (a : ME) : ME := fun ρ s => (a ρ s).bind fun x s => g x s
def RR1 (K : PySem.W.Frag) (T : Tb) (g : MV → Sto → Res MV) (r : V → Hp → VK → Prop) : Prop :=
  ∀ (mp : List Addr) (H : Hp) (st : Sto) (a : MV) (x : V) (W : XK) (Q : VK), RelS K T mp st H → RepV K mp H a x → Post K T (RepV K) mp H W (g a st) Q → r x H Q
theorem re_un {op : UnaryOp} {r : V → Hp → VK → Prop} {g : MV → Sto → Res MV} (ho : UnR X (unaryOp op) r) (hg : RR1 X.K T g r) (ha : RE T X W a ma) : RE T X W (.UnaryOp op a pos) (eUn g ma) := by
  refine PE.imp (pe_un ho ha) fun σ H Q ⟨mp, ρ, st, L, S, P⟩ => ?_
  exact ⟨mp, ρ, st, L, S, Post.bnd P fun x1 st1 mp1 x H1 e1 S1 r1 P1 => hg mp1 H1 st1 x1 x _ Q S1 r1 P1⟩

/-! ### truth -/
def truth (s : Sto) : MV → Option Bool
  | .non => some false
  | .bl b => some b
  | .int i => some (i != 0)
  | .str x => if x.length ≤ 1000000 then some (x.length != 0) else none
  | .tup xs => some (!xs.isEmpty)
  | .lis xs => some (!xs.isEmpty)
  | .ref n => match s[n]? with
    | some (.lst xs) => some (!xs.isEmpty)
    | some (.dic kvs) => some (!kvs.isEmpty)
    | _ => none
  | .ty _ => none
theorem sf_length (s : String) : (sf s).length = s.length := by
  show (Str.ofString s).cps.size = _
  rw [Str.ofString_eq_toList]
  simp only [List.size_toArray, List.length_map]
  first | exact String.length_toList | exact String.length_toList.symm | rfl
theorem RepVs.isEmpty {K : PySem.W.Frag} {mp : List Addr} {H : Hp} {xs : List MV} {vs : List V} (h : RepVs K mp H xs vs) : vs.isEmpty = xs.isEmpty := by
  have := h.length
  cases xs <;> cases vs <;> simp_all
theorem PairRep.length {K : PySem.W.Frag} {mp : List Addr} {H : Hp} {α β : Type} {f : α → β} {kvs : List (α × MV)} {kv' : List (β × V)} (h : PairRep K mp H f kvs kv') : kv'.length = kvs.length := by
  unfold PairRep at h
  induction h with
  | nil => rfl
  | cons _ _ ih => rw [List.length_cons, List.length_cons, ih]
theorem truth_ok {K : PySem.W.Frag} {mp : List Addr} {H : Hp} {st : Sto} {a : MV} {x : V} {k : Bool} (S : RelS K T mp st H) (r : RepV K mp H a x) (h : truth st a = some k) : TruV K x H k := by
  cases a with
  | non => cases r; cases h; rfl
  | bl b => cases r; cases h; rfl
  | int i => cases r; cases h; rfl
  | str s =>
    cases r
    simp only [truth] at h
    split at h
    · rename_i hl
      cases h
      refine ⟨by rw [sf_length]; exact Nat.le_trans hl (by decide), ?_⟩
      rw [sf_length]
      cases e : s.length <;> simp <;> omega
    · cases h
  | ty n => cases h
  | tup xs =>
    obtain ⟨p, vs, rfl, t, g⟩ := r
    simp only [truth, Option.some.injEq] at h
    exact .inr (.inl ⟨vs, t.seq, by rw [← h, g.isEmpty]⟩)
  | lis xs =>
    obtain ⟨p, vs, rfl, t, g⟩ := r
    simp only [truth, Option.some.injEq] at h
    exact .inl ⟨vs, t.seq, by rw [← h, g.isEmpty]⟩
  | ref n =>
    obtain ⟨p, hp, rfl⟩ := r
    simp only [truth] at h
    split at h
    · rename_i xs e
      obtain ⟨vs, h1, h2⟩ := S.cell n _ p e hp
      simp only [Option.some.injEq] at h
      exact .inl ⟨vs, .of h1, by rw [← h, h2.isEmpty]⟩
    · rename_i kvs e
      obtain ⟨vs, h1, h2⟩ := S.cell n _ p e hp
      simp only [Option.some.injEq] at h
      refine .inr (.inr ⟨vs, h1, ?_⟩)
      have := PairRep.length h2
      rw [← h]
      cases kvs <;> cases vs <;> simp_all
    · cases h
def eAnd (a b : ME) : ME := fun ρ s => (a ρ s).bind fun x s => match truth s x with
  | some true => b ρ s
  | some false => .ok x s
  | none => .bad
def eOr (a b : ME) : ME := fun ρ s => (a ρ s).bind fun x s => match truth s x with
  | some true => .ok x s
  | some false => b ρ s
  | none => .bad
def eNot (a : ME) : ME := fun ρ s => (a ρ s).bind fun x s => match truth s x with
  | some k => .ok (.bl (!k)) s
  | none => .bad
variable {rest : List Expr}
theorem re_one {op} (ha : RE T X W a ma) : RE T X W (.BoolOp op [a] pos) ma := pe_one ha
theorem re_and (ha : RE T X W a ma) (hb : RE T X W (.BoolOp .And (b :: rest) pos) mb) : RE T X W (.BoolOp .And (a :: b :: rest) pos) (eAnd ma mb) := by
  refine PE.imp (pe_andT ha hb) fun σ H Q ⟨mp, ρ, st, L, S, P⟩ => ⟨mp, ρ, st, L, S, Post.bnd P fun x1 st1 mp1 x H1 e1 S1 r1 P1 => ?_⟩
  cases e : truth st1 x1 with
  | none => rw [e] at P1; exact P1.elim
  | some k =>
    rw [e] at P1
    refine ⟨k, truth_ok S1 r1 e, ?_⟩
    cases k with
    | true => rw [if_pos rfl]; exact ⟨mp1, ρ, st1, L.mono e1, S1, P1⟩
    | false => rw [if_neg Bool.false_ne_true]; exact Post.here P1 S1 r1
theorem re_or (ha : RE T X W a ma) (hb : RE T X W (.BoolOp .Or (b :: rest) pos) mb) : RE T X W (.BoolOp .Or (a :: b :: rest) pos) (eOr ma mb) := by
  refine PE.imp (pe_orT ha hb) fun σ H Q ⟨mp, ρ, st, L, S, P⟩ => ⟨mp, ρ, st, L, S, Post.bnd P fun x1 st1 mp1 x H1 e1 S1 r1 P1 => ?_⟩
  cases e : truth st1 x1 with
  | none => rw [e] at P1; exact P1.elim
  | some k =>
    rw [e] at P1
    refine ⟨k, truth_ok S1 r1 e, ?_⟩
    cases k with
    | false => rw [if_neg Bool.false_ne_true]; exact ⟨mp1, ρ, st1, L.mono e1, S1, P1⟩
    | true => rw [if_pos rfl]; exact Post.here P1 S1 r1
theorem re_not (ha : RE T X W a ma) : RE T X W (.UnaryOp .Not a pos) (eNot ma) := by
  refine PE.imp (pe_notT ha) fun σ H Q ⟨mp, ρ, st, L, S, P⟩ => ⟨mp, ρ, st, L, S, Post.bnd P fun x1 st1 mp1 x H1 e1 S1 r1 P1 => ?_⟩
  cases e : truth st1 x1 with
  | none => rw [e] at P1; exact P1.elim
  | some k =>
    rw [e] at P1
    exact ⟨k, truth_ok S1 r1 e, Post.here P1 S1 rfl⟩
/-! ### tests -/
def tTr (a : ME) : MT := fun ρ s => (a ρ s).bind fun x s => match truth s x with
  | some k => .ok k s
  | none => .bad
theorem rt_truth (ha : RE T X W a ma) (he : ∀ whole, isTrue a X.env whole = (do let v ← whole; standAt a.pos; holding [v] (truthy v)) := by intro _; rfl) : RT T X W a (tTr ma) := by
  refine PT.imp (pt_truth ha he) fun σ H Q ⟨mp, ρ, st, L, S, P⟩ => ⟨mp, ρ, st, L, S, Post.bnd P fun x1 st1 mp1 x H1 e1 S1 r1 P1 => ?_⟩
  cases e : truth st1 x1 with
  | none => rw [e] at P1; exact P1.elim
  | some k =>
    rw [e] at P1
    exact ⟨k, truth_ok S1 r1 e, Post.here P1 S1 rfl⟩
def tAn (a b : MT) : MT := fun ρ s => (a ρ s).bind fun k s => match k with
  | true => b ρ s
  | false => .ok false s
def tOrr (a b : MT) : MT := fun ρ s => (a ρ s).bind fun k s => match k with
  | true => .ok true s
  | false => b ρ s
def tNo (a : MT) : MT := fun ρ s => (a ρ s).bind fun k s => .ok (!k) s
variable {ta tb : MT}
theorem RW.rt {e : Expr} {m : MT} (h : RW T X W e m) : RT T X W e m := PW.pt h
theorem rw_and1 (ha : RT T X W a ta) : RW T X W (.BoolOp .And [a] pos) ta := pw_and1 ha
theorem rw_or1 (ha : RT T X W a ta) : RW T X W (.BoolOp .Or [a] pos) ta := pw_or1 ha
theorem rw_and (ha : RT T X W a ta) (hb : RW T X W (.BoolOp .And (b :: rest) pos) tb) : RW T X W (.BoolOp .And (a :: b :: rest) pos) (tAn ta tb) := by
  refine PW.imp (pw_and ha hb) fun σ H Q ⟨mp, ρ, st, L, S, P⟩ => ⟨mp, ρ, st, L, S, Post.bnd P fun k st1 mp1 x H1 e1 S1 r1 P1 => ?_⟩
  have r1 : k = x := r1
  subst r1
  cases k with
  | true => rw [if_pos rfl]; exact ⟨mp1, ρ, st1, L.mono e1, S1, P1⟩
  | false => rw [if_neg Bool.false_ne_true]; exact Post.here P1 S1 rfl
theorem rw_or (ha : RT T X W a ta) (hb : RW T X W (.BoolOp .Or (b :: rest) pos) tb) : RW T X W (.BoolOp .Or (a :: b :: rest) pos) (tOrr ta tb) := by
  refine PW.imp (pw_or ha hb) fun σ H Q ⟨mp, ρ, st, L, S, P⟩ => ⟨mp, ρ, st, L, S, Post.bnd P fun k st1 mp1 x H1 e1 S1 r1 P1 => ?_⟩
  have r1 : k = x := r1
  subst r1
  cases k with
  | false => rw [if_neg Bool.false_ne_true]; exact ⟨mp1, ρ, st1, L.mono e1, S1, P1⟩
  | true => rw [if_pos rfl]; exact Post.here P1 S1 rfl
theorem rt_not (ha : RT T X W a ta) : RT T X W (.UnaryOp .Not a pos) (tNo ta) := by
  refine PT.imp (pt_not ha) fun σ H Q ⟨mp, ρ, st, L, S, P⟩ => ⟨mp, ρ, st, L, S, Post.bnd P fun k st1 mp1 x H1 e1 S1 r1 P1 => ?_⟩
  have r1 : k = x := r1
  subst r1
  exact Post.here P1 S1 rfl
def eIf (t : MT) (a b : ME) : ME := fun ρ s => (t ρ s).bind fun k s => match k with
  | true => a ρ s
  | false => b ρ s
theorem re_if (hc : RT T X W c ta) (ha : RE T X W a ma) (hb : RE T X W b mb) : RE T X W (.IfExp c a b pos) (eIf ta ma mb) := by
  refine PE.imp (pe_ifExp hc ha hb) fun σ H Q ⟨mp, ρ, st, L, S, P⟩ => ⟨mp, ρ, st, L, S, Post.bnd P fun k st1 mp1 x H1 e1 S1 r1 P1 => ?_⟩
  have r1 : k = x := r1
  subst r1
  cases k with
  | true => rw [if_pos rfl]; exact ⟨mp1, ρ, st1, L.mono e1, S1, P1⟩
  | false => rw [if_neg Bool.false_ne_true]; exact ⟨mp1, ρ, st1, L.mono e1, S1, P1⟩

/-! ### argument lists, displays, calls -/
def aNil : MA := fun _ s => .ok [] s
def aCons (a : ME) (r : MA) : MA := fun ρ s => (a ρ s).bind fun x s => (r ρ s).bind fun xs s => .ok (x :: xs) s
theorem ra_nil : RA T X W [] aNil := ⟨PA.imp pa_nil fun σ H Q ⟨mp, ρ, st, L, S, P⟩ => Post.here P S rfl, fun _ _ _ _ e => by cases e; rfl⟩
variable {es : List Expr} {mr : MA}
theorem ra_cons (ha : RE T X W a ma) (hr : RA T X W es mr) (hs : starEach (a :: es) X.env = (false, eval a X.env) :: starEach es X.env := by rfl) : RA T X W (a :: es) (aCons ma mr) := by
  refine ⟨PA.imp (pa_cons ha hr.pa hs) fun σ H Q ⟨mp, ρ, st, L, S, P⟩ => ⟨mp, ρ, st, L, S, Post.bnd P fun x1 st1 mp1 x H1 e1 S1 r1 P1 => ?_⟩, fun ρ st vs st' e => ?_⟩
  · refine ⟨mp1, ρ, st1, L.mono e1, S1, Post.bnd P1 fun xs st2 mp2 ys H2 e2 S2 r2 P2 => ?_⟩
    exact Post.here P2 S2 ⟨_, _, rfl, r1.mono e2, r2⟩
  · unfold aCons at e
    cases h : ma ρ st with
    | ok x s =>
      rw [h] at e
      simp only [Res.bind] at e
      cases h2 : mr ρ s with
      | ok xs s2 =>
        rw [h2] at e
        simp only [Res.ok.injEq] at e
        rw [← e.1, List.length_cons, List.length_cons, hr.len _ _ _ _ h2]
      | exc _ _ => rw [h2] at e; cases e
      | bad => rw [h2] at e; cases e
    | exc _ _ => rw [h] at e; cases e
    | bad => rw [h] at e; cases e
def eTup (r : MA) : ME := fun ρ s => (r ρ s).bind fun xs s => .ok (.tup xs) s
def eLst (r : MA) : ME := fun ρ s => (r ρ s).bind fun xs s => .ok (.ref s.length) (s ++ [.lst xs])
theorem Post.bndL {K : PySem.W.Frag} {α β γ δ : Type} {rep : List Addr → Hp → α → β → Prop} {rep' : List Addr → Hp → γ → δ → Prop} {mp : List Addr} {H : Hp} {W : XK} {r : Res γ} {f : γ → Sto → Res α} {Q : β → Hp → Prop} {Qa : δ → Hp → Prop} (h : Post K T rep mp H W (r.bind f) Q)
    (hk : ∀ a st1 mp1 x H1, r = .ok a st1 → Ext mp mp1 H H1 → RelS K T mp1 st1 H1 → rep' mp1 H1 a x → Post K T rep mp1 H1 W (f a st1) Q → Qa x H1) : Post K T rep' mp H W r Qa := by
  cases r with
  | ok a st => exact fun m x G e r q => hk a st m x G rfl e r q (Post.from (show Post K T rep mp H W (f a st) Q from h) e)
  | exc x st => exact h
  | bad => exact h
theorem re_tup {x1} (hr : RA T X W es mr) (hl : es.length ≤ sizeLine := by decide) : RE T X W (.Tuple es x1 pos) (eTup mr) := by
  refine PE.imp (pe_tupF hr.pa) fun σ H Q ⟨mp, ρ, st, L, S, P⟩ => ⟨mp, ρ, st, L, S, Post.bndL P fun xs st1 mp1 vs H1 hx e1 S1 r1 P1 => ?_⟩
  refine ⟨by rw [r1.length, hr.len _ _ _ _ hx]; exact hl, fun p o hd hp => ?_⟩
  exact Post.new0 P1 S1 hp ⟨p, vs, rfl, .inl ⟨o, upd_same, hd⟩, r1.mono (Ext.new0 hp)⟩
/-- a new cell is handed out -/
theorem Post.cell {K : PySem.W.Frag} {mp : List Addr} {H : Hp} {W : XK} {st : Sto} {c : Cell} {o : HO} {p : Addr} {Q : VK} (h : Post K T (RepV K) mp H W (.ok (.ref st.length) (st ++ [c])) Q) (S : RelS K T mp st H) (hp : H p = none)
    (hc : CellRep K T (mp ++ [p]) (upd H p o) p c) : Q (.ref p) (upd H p o) :=
  h (mp ++ [p]) _ _ (Ext.new1 hp) (S.new hp hc) ⟨p, by rw [← S.len, List.getElem?_append_right (Nat.le_refl _), Nat.sub_self] <;> rfl, rfl⟩
theorem re_lst (hr : RA T X W es mr) (hl : es.length ≤ sizeLine := by decide) : RE T X W (.List es pos) (eLst mr) := by
  refine PE.imp (pe_lst hr.pa) fun σ H Q ⟨mp, ρ, st, L, S, P⟩ => ⟨mp, ρ, st, L, S, Post.bndL P fun xs st1 mp1 vs H1 hx e1 S1 r1 P1 => ?_⟩
  refine ⟨by rw [r1.length, hr.len _ _ _ _ hx]; exact hl, fun p hp => ?_⟩
  exact Post.cell P1 S1 hp ⟨vs, upd_same, r1.mono (Ext.new1 hp)⟩

/-- a def's promise by its monadic function -/
def spM (K : PySem.W.Frag) (T : Tb) (n : Nat) (m : MF) : Sp := fun vs H Q E => vs.length = n ∧ ∃ mp xs st, RelS K T mp st H ∧ RepVs K mp H xs vs ∧ Post K T (RepV K) mp H E (m xs st) Q
def eCall (c : MF) (r : MA) : ME := fun ρ s => (r ρ s).bind fun xs s => c xs s
theorem re_call {k : Nat} {f : Addr} {fd : FuncData} {ps : List Str} {n : Nat} {m : MF} {x : Str} {p : Pos} (F : FnOk X.prog X.w X.K X.mg X.base (L2.CX X.prog X.w) k f fd ps (spM X.K T n m)) (hr : Room k X.A) (hg : Gl X x) (hm : X.mg x = some (.ref f)) (hk : PySem.W.keepIn X.K (.ref f) = true)
    (hb : Binds X.K fd ps []) (tk : Takes X W) (ha : RA T X W (a :: es) mr) (hn : (a :: es).length = n := by rfl) (hdb : (x == ("__debug__" : Str)) = false := by decide) (he : starEach (a :: es) X.env = (false, eval a X.env) :: starEach es X.env := by rfl)
    (hpl : (backTo pos (starEach es X.env)).any (·.1) = false := by rfl) : RE T X W (.Call (.Name x p) (a :: es) [] pos) (eCall m mr) := by
  refine PE.imp (pe_callS (E := WE W) F hr hg hm hk hb (fun σ => passAt tk σ) ha.pa hdb he hpl) fun σ H Q ⟨mp, ρ, st, L, S, P⟩ => ⟨mp, ρ, st, L, S, Post.bndL P fun xs st1 mp1 vs H1 hx e1 S1 r1 P1 => ?_⟩
  exact ⟨by rw [r1.length, ha.len _ _ _ _ hx, hn], mp1, xs, st1, S1, r1, P1⟩
/-- a built-in by values -/
def RRn (K : PySem.W.Frag) (T : Tb) (g : MF) (r : List V → Hp → VK → Prop) : Prop :=
  ∀ (mp : List Addr) (H : Hp) (st : Sto) (xs : List MV) (vs : List V) (W : XK) (Q : VK), RelS K T mp st H → RepVs K mp H xs vs → Post K T (RepV K) mp H W (g xs st) Q → r vs H Q
theorem re_callB {id : String} {x : Str} {p : Pos} {r : List V → Hp → VK → Prop} {g : MF} (hc : CallR X (.builtin id) r) (hg' : RRn X.K T g r) (hg : Gl X x) (hm : X.mg x = none) (hv : bootBuiltins x = some (.builtin id)) (ha : RA T X W (a :: es) mr) (hn : x ≠ "__name__" := by decide) (hdb : (x == ("__debug__" : Str)) = false := by decide)
    (he : starEach (a :: es) X.env = (false, eval a X.env) :: starEach es X.env := by rfl) (hpl : (backTo pos (starEach es X.env)).any (·.1) = false := by rfl) : RE T X W (.Call (.Name x p) (a :: es) [] pos) (eCall g mr) :=
  PE.imp (pe_callB hc hg hm hv ha.pa hn hdb he hpl) fun σ H Q ⟨mp, ρ, st, L, S, P⟩ => ⟨mp, ρ, st, L, S, Post.bnd P fun xs st1 mp1 vs H1 e1 S1 r1 P1 => hg' mp1 H1 st1 xs vs _ Q S1 r1 P1⟩
theorem re_callTy {id : String} {x : Str} {p : Pos} {r : List V → Hp → VK → Prop} {g : MF} (hc : CallR X (.type id) r) (hg' : RRn X.K T g r) (hg : Gl X x) (hm : X.mg x = none) (hv : bootBuiltins x = some (.type id)) (ha : RA T X W (a :: es) mr) (hn : x ≠ "__name__" := by decide) (hdb : (x == ("__debug__" : Str)) = false := by decide)
    (he : starEach (a :: es) X.env = (false, eval a X.env) :: starEach es X.env := by rfl) (hpl : (backTo pos (starEach es X.env)).any (·.1) = false := by rfl) : RE T X W (.Call (.Name x p) (a :: es) [] pos) (eCall g mr) :=
  PE.imp (pe_callTy hc hg hm hv ha.pa hn hdb he hpl) fun σ H Q ⟨mp, ρ, st, L, S, P⟩ => ⟨mp, ρ, st, L, S, Post.bnd P fun xs st1 mp1 vs H1 e1 S1 r1 P1 => hg' mp1 H1 st1 xs vs _ Q S1 r1 P1⟩
end
end MP

set_option Elab.async false
set_option linter.all false
set_option maxRecDepth 100000
set_option maxHeartbeats 2000000
/-! MP: operators, comparisons, subscripts, built-ins. -/
namespace MP
open PySem PySem.Spec PyProof.Rows L2

theorem sf_append (a b : String) : sf (a ++ b) = sf a ++ sf b := by
  show Str.ofString _ = Str.append (Str.ofString _) (Str.ofString _)
  rw [Str.ofString_eq_toList, Str.ofString_eq_toList, Str.ofString_eq_toList]
  simp [Str.append, String.toList_append]
theorem sf_eq (a b : String) : (sf a == sf b) = (a == b) := by
  by_cases e : a = b
  · subst e; simp
  · rw [beq_eq_false_iff_ne.mpr e, beq_eq_false_iff_ne.mpr fun z => e (sf_inj z)]
/-- the one or, where it is bad, the other -/
def gOr (g g' : MV → MV → Sto → Res MV) : MV → MV → Sto → Res MV := fun a b s => match g a b s with
  | .bad => g' a b s
  | r => r
theorem gOr_cases (g g' : MV → MV → Sto → Res MV) (a b : MV) (s : Sto) : gOr g g' a b s = g a b s ∨ gOr g g' a b s = g' a b s := by
  unfold gOr
  cases g a b s <;> simp

section
variable {K : PySem.W.Frag} {T : Tb} {X : Cx}
theorem RR2.gor {g g' : MV → MV → Sto → Res MV} {r r' : R2} (h : RR2 K T g r) (h' : RR2 K T g' r') : RR2 K T (gOr g g') (fun x y H Q => r x y H Q ∨ r' x y H Q) := by
  intro mp H st a b x y W Q S ra rb P
  rcases gOr_cases g g' a b st with e | e
  · rw [e] at P; exact .inl (h mp H st a b x y W Q S ra rb P)
  · rw [e] at P; exact .inr (h' mp H st a b x y W Q S ra rb P)
/-! ### ints -/
def gI (f : Int → Int → MV) : MV → MV → Sto → Res MV := fun a b s => match a, b with
  | .int i, .int j => .ok (f i j) s
  | _, _ => .bad
theorem rg_int {f : Int → Int → MV} {g : Int → Int → V} (h : ∀ mp H i j, RepV K mp H (f i j) (g i j)) : RR2 K T (gI f) (rI0 g) := by
  intro mp H st a b x y W Q S ra rb P
  cases a with
  | int i =>
    cases b with
    | int j =>
      cases ra; cases rb
      exact ⟨i, j, rfl, rfl, Post.here P S (h mp H i j)⟩
    | _ => exact P.elim
  | _ => exact P.elim
/-- under a condition -/
def gIC (C : Int → Int → Prop) [∀ i j, Decidable (C i j)] (f : Int → Int → MV) : MV → MV → Sto → Res MV := fun a b s => match a, b with
  | .int i, .int j => if C i j then .ok (f i j) s else .bad
  | _, _ => .bad
theorem rg_intC {C C' : Int → Int → Prop} [∀ i j, Decidable (C i j)] {f : Int → Int → MV} {g : Int → Int → V} (hC : ∀ i j, C i j → C' i j) (h : ∀ mp H i j, RepV K mp H (f i j) (g i j)) : RR2 K T (gIC C f) (rI C' g) := by
  intro mp H st a b x y W Q S ra rb P
  cases a with
  | int i =>
    cases b with
    | int j =>
      cases ra; cases rb
      have P : Post K T (RepV K) mp H W (if C i j then .ok (f i j) st else .bad) Q := P
      by_cases hc : C i j
      · rw [if_pos hc] at P
        exact ⟨i, j, rfl, rfl, hC i j hc, Post.here P S (h mp H i j)⟩
      · rw [if_neg hc] at P; exact P.elim
    | _ => exact P.elim
  | _ => exact P.elim
/-! ### texts, tuples, lists -/
def gStrA : MV → MV → Sto → Res MV := fun a b s => match a, b with
  | .str x, .str y => if x.length + y.length ≤ 1000000 then .ok (.str (x ++ y)) s else .bad
  | _, _ => .bad
theorem rg_strA : RR2 K T gStrA (fun x y H Q => ∃ i j, x = .str i ∧ y = .str j ∧ i.length + j.length ≤ sizeLine ∧ Q (.str (i ++ j)) H) := by
  intro mp H st a b x y W Q S ra rb P
  cases a with
  | str i =>
    cases b with
    | str j =>
      cases ra; cases rb
      have P : Post K T (RepV K) mp H W (if i.length + j.length ≤ 1000000 then .ok (.str (i ++ j)) st else .bad) Q := P
      by_cases hc : i.length + j.length ≤ 1000000
      · rw [if_pos hc] at P
        refine ⟨_, _, rfl, rfl, by rw [sf_length, sf_length]; exact Nat.le_trans hc (by decide), ?_⟩
        rw [← sf_append]
        exact Post.here P S rfl
      · rw [if_neg hc] at P; exact P.elim
    | _ => exact P.elim
  | _ => exact P.elim
def gTupA : MV → MV → Sto → Res MV := fun a b s => match a, b with
  | .tup x, .tup y => if x.length + y.length ≤ 1000000 then .ok (.tup (x ++ y)) s else .bad
  | _, _ => .bad
theorem rg_tupA : RR2 K T gTupA (rCatF K) := by
  intro mp H st a b x y W Q S ra rb P
  cases a with
  | tup i =>
    cases b with
    | tup j =>
      obtain ⟨p, vs, rfl, t, h⟩ := ra
      obtain ⟨q, ws, rfl, u, h'⟩ := rb
      have P : Post K T (RepV K) mp H W (if i.length + j.length ≤ 1000000 then .ok (.tup (i ++ j)) st else .bad) Q := P
      by_cases hc : i.length + j.length ≤ 1000000
      · rw [if_pos hc] at P
        refine ⟨p, q, vs, ws, rfl, rfl, t.seq, u.seq, by rw [h.length, h'.length]; exact Nat.le_trans hc (by decide), fun e => ?_, fun _ e => ?_, fun _ _ l o hd hl => ?_⟩
        · subst e
          have e0 : i = [] := by
            have := h.length
            cases i with
            | nil => rfl
            | cons _ _ => simp at this
          subst e0
          exact Post.here P S ⟨q, ws, rfl, u, h'⟩
        · subst e
          have e0 : j = [] := by
            have := h'.length
            cases j with
            | nil => rfl
            | cons _ _ => simp at this
          subst e0
          exact Post.here P S ⟨p, vs, rfl, t, by rw [List.append_nil]; exact h⟩
        · exact Post.new0 P S hl ⟨l, _, rfl, .inl ⟨o, upd_same, hd⟩, (h.append h').mono (Ext.new0 hl)⟩
      · rw [if_neg hc] at P; exact P.elim
    | _ => exact P.elim
  | _ => exact P.elim
def gLstA : MV → MV → Sto → Res MV := fun a b s => match a, b with
  | .ref n, .ref m => match s[n]?, s[m]? with
    | some (.lst x), some (.lst y) => if x.length + y.length ≤ 1000000 then .ok (.ref s.length) (s ++ [.lst (x ++ y)]) else .bad
    | _, _ => .bad
  | _, _ => .bad
theorem rg_lstA : RR2 K T gLstA rCat := by
  intro mp H st a b x y W Q S ra rb P
  cases a with
  | ref n =>
    cases b with
    | ref m =>
      obtain ⟨p, hp, rfl⟩ := ra
      obtain ⟨q, hq, rfl⟩ := rb
      simp only [gLstA] at P
      split at P
      · rename_i i j e1 e2
        by_cases hc : i.length + j.length ≤ 1000000
        · rw [if_pos hc] at P
          obtain ⟨vs, h1, h⟩ := S.cell n _ p e1 hp
          obtain ⟨ws, h2, h'⟩ := S.cell m _ q e2 hq
          refine ⟨p, q, vs, ws, rfl, rfl, h1, h2, by rw [h.length, h'.length]; exact Nat.le_trans hc (by decide), fun l hl => ?_⟩
          exact Post.cell P S hl ⟨_, upd_same, (h.append h').mono (Ext.new1 hl)⟩
        · rw [if_neg hc] at P; exact P.elim
      · exact P.elim
    | _ => exact P.elim
  | _ => exact P.elim
/-- + -/
def gAdd : MV → MV → Sto → Res MV := gOr (gOr (gOr (gI fun i j => .int (i + j)) gStrA) gTupA) gLstA
theorem ro_add : OpR X (binaryOp .Add) (fun x y H Q => ((rI0 (fun i j => .int (i + j)) x y H Q ∨ (∃ i j, x = .str i ∧ y = .str j ∧ i.length + j.length ≤ sizeLine ∧ Q (.str (i ++ j)) H)) ∨ rCatF X.K x y H Q) ∨ rCat x y H Q) :=
  OpR.or (OpR.or (OpR.or op_add op_add_str) op_catF) op_cat
theorem rg_add : RR2 K T gAdd (fun x y H Q => ((rI0 (fun i j => .int (i + j)) x y H Q ∨ (∃ i j, x = .str i ∧ y = .str j ∧ i.length + j.length ≤ sizeLine ∧ Q (.str (i ++ j)) H)) ∨ rCatF K x y H Q) ∨ rCat x y H Q) :=
  ((((rg_int (f := fun i j => .int (i + j)) (g := fun i j => .int (i + j)) fun _ _ _ _ => rfl).gor rg_strA).gor rg_tupA).gor rg_lstA)
section
variable {W : WX} {a b c : Expr} {ma mb mc : ME} {pos : Pos}
theorem re_add (ha : RE T X W a ma) (hb : RE T X W b mb) : RE T X W (.BinOp a .Add b pos) (eOp gAdd ma mb) := re_op ro_add rg_add ha hb
abbrev gSub : MV → MV → Sto → Res MV := gI fun i j => .int (i - j)
theorem re_sub (ha : RE T X W a ma) (hb : RE T X W b mb) : RE T X W (.BinOp a .Sub b pos) (eOp gSub ma mb) := re_op op_sub (rg_int fun _ _ _ _ => rfl) ha hb
/-- *: one side below 2 ^ 64 -/
abbrev cMul (i j : Int) : Prop := (-(2 ^ 64) < i ∧ i < 2 ^ 64) ∨ (-(2 ^ 64) < j ∧ j < 2 ^ 64)
abbrev gMul : MV → MV → Sto → Res MV := gIC cMul fun i j => .int (i * j)
theorem re_mul (ha : RE T X W a ma) (hb : RE T X W b mb) : RE T X W (.BinOp a .Mult b pos) (eOp gMul ma mb) := re_op op_mul (rg_intC (fun _ _ h => h) fun _ _ _ _ => rfl) ha hb
/-- //, %: by a positive number -/
abbrev cDiv (i j : Int) : Prop := 0 < j ∧ j < 1073741824
abbrev gDiv : MV → MV → Sto → Res MV := gIC cDiv fun i j => .int (i / j)
theorem re_div (ha : RE T X W a ma) (hb : RE T X W b mb) : RE T X W (.BinOp a .FloorDiv b pos) (eOp gDiv ma mb) := re_op op_fdiv (rg_intC (fun _ _ h => h) fun _ _ _ _ => rfl) ha hb
abbrev gMod : MV → MV → Sto → Res MV := gIC (fun _ j => 0 < j) fun i j => .int (i % j)
theorem re_mod (ha : RE T X W a ma) (hb : RE T X W b mb) : RE T X W (.BinOp a .Mod b pos) (eOp gMod ma mb) := re_op op_mod (rg_intC (fun _ _ h => h) fun _ _ _ _ => rfl) ha hb
/-! ### order of ints -/
abbrev gLt : MV → MV → Sto → Res MV := gI fun i j => .bl (decide (i < j))
abbrev gLe : MV → MV → Sto → Res MV := gI fun i j => .bl (decide (i ≤ j))
abbrev gGt : MV → MV → Sto → Res MV := gI fun i j => .bl (decide (j < i))
abbrev gGe : MV → MV → Sto → Res MV := gI fun i j => .bl (decide (j ≤ i))
theorem rg_lt : RR2 K T gLt (rI0 fun i j => .bl (decide (i < j))) := rg_int fun _ _ _ _ => rfl
theorem rg_le : RR2 K T gLe (rI0 fun i j => .bl (decide (i ≤ j))) := rg_int fun _ _ _ _ => rfl
theorem rg_gt : RR2 K T gGt (rI0 fun i j => .bl (decide (j < i))) := rg_int fun _ _ _ _ => rfl
theorem rg_ge : RR2 K T gGe (rI0 fun i j => .bl (decide (j ≤ i))) := rg_int fun _ _ _ _ => rfl
end
/-! ### == -/
mutual
def MV.dat : MV → Option PyData
  | .non => some .none
  | .bl b => some (.bool b)
  | .int i => some (.int i)
  | .str s => some (.str (sf s))
  | .ty _ => none
  | .ref _ => none
  | .tup xs => (MV.dats xs).map .tuple
  | .lis xs => (MV.dats xs).map .list
def MV.dats : List MV → Option (List PyData)
  | [] => some []
  | x :: xs => x.dat.bind fun d => (MV.dats xs).map (d :: ·)
end
def MV.datS (s : Sto) (x : MV) : Option PyData := match x with
  | .ref n => match s[n]? with
    | some (.lst xs) => (MV.dats xs).map .list
    | _ => none
  | x => x.dat
mutual
theorem dat_ok {mp : List Addr} {H : Hp} : ∀ {x : MV} {v : V} {d : PyData}, RepV K mp H x v → x.dat = some d → Dp K H v d
  | .non, _, _, r, h => by cases r; cases h; exact .non
  | .bl b, _, _, r, h => by cases r; cases h; exact .bl b
  | .int i, _, _, r, h => by cases r; cases h; exact .int i
  | .str s, _, _, r, h => by cases r; cases h; exact .str _
  | .ty _, _, _, _, h => by cases h
  | .ref _, _, _, _, h => by cases h
  | .tup xs, _, _, ⟨a, vs, e, t, g⟩, h => by
    simp only [MV.dat, Option.map_eq_some_iff] at h
    obtain ⟨ds, h1, rfl⟩ := h
    subst e
    exact .tup t.seq (dats_ok g h1)
  | .lis xs, _, _, ⟨a, vs, e, t, g⟩, h => by
    simp only [MV.dat, Option.map_eq_some_iff] at h
    obtain ⟨ds, h1, rfl⟩ := h
    subst e
    exact .lst t.seq (dats_ok g h1)
theorem dats_ok {mp : List Addr} {H : Hp} : ∀ {xs : List MV} {vs : List V} {ds : List PyData}, RepVs K mp H xs vs → MV.dats xs = some ds → DpAll K H vs ds
  | [], _, _, r, h => by rw [show _ = [] from r]; cases h; exact .nil
  | x :: xs, _, _, ⟨v, r, e, h1, h2⟩, h => by
    simp only [MV.dats, Option.bind_eq_some_iff, Option.map_eq_some_iff] at h
    obtain ⟨d, hd, ds, hds, rfl⟩ := h
    subst e
    exact .cons (dat_ok h1 hd) (dats_ok h2 hds)
end
theorem datS_ok {mp : List Addr} {H : Hp} {st : Sto} {x : MV} {v : V} {d : PyData} (S : RelS K T mp st H) (r : RepV K mp H x v) (h : x.datS st = some d) : Dp K H v d := by
  cases x with
  | ref n =>
    obtain ⟨p, hp, rfl⟩ := r
    simp only [MV.datS] at h
    split at h
    · rename_i xs e
      obtain ⟨vs, h1, g⟩ := S.cell n _ p e hp
      simp only [Option.map_eq_some_iff] at h
      obtain ⟨ds, hd, rfl⟩ := h
      exact .lst (.of h1) (dats_ok g hd)
    · cases h
  | _ => exact dat_ok r h
def eqD (s : Sto) (a b : MV) : Option Bool := match a, b with
  | .int i, .int j => some (i == j)
  | .str x, .str y => some (x == y)
  | a, b => match a.datS s, b.datS s with
    | some d, some e => if SeqAt.shaped d && SeqAt.shaped e then some (PyData.eqv d e) else none
    | _, _ => none
theorem shaped_int (i : Int) : SeqAt.shaped (.int i) = true := rfl
theorem sf_ok (s : String) : PyData.strOk (sf s) = true := by
  show (Str.ofString s).cps.all _ = true
  rw [Str.ofString_eq_toList]
  rw [Array.all_eq_true']
  intro x hx
  simp only [List.mem_toArray, List.mem_map] at hx
  obtain ⟨c, _, rfl⟩ := hx
  have h := c.valid
  simp only [UInt32.isValidChar, Nat.isValidChar] at h
  have ht : c.toNat = c.val.toNat := rfl
  simp only [decide_eq_true_eq]
  omega
theorem shaped_str (s : String) : SeqAt.shaped (.str (sf s)) = true := by
  unfold SeqAt.shaped
  rw [Bool.and_eq_true]
  exact ⟨sf_ok s, by rfl⟩
theorem eqD_ok {mp : List Addr} {H : Hp} {st : Sto} {a b : MV} {x y : V} {k : Bool} (S : RelS K T mp st H) (ra : RepV K mp H a x) (rb : RepV K mp H b y) (h : eqD st a b = some k) :
    ∃ d e, Dp K H x d ∧ Dp K H y e ∧ SeqAt.shaped d = true ∧ SeqAt.shaped e = true ∧ k = PyData.eqv d e := by
  unfold eqD at h
  split at h
  · rename_i i j
    cases ra; cases rb; cases h
    exact ⟨_, _, .int i, .int j, rfl, rfl, rfl⟩
  · rename_i i j
    cases ra; cases rb; cases h
    exact ⟨_, _, .str _, .str _, shaped_str i, shaped_str j, (sf_eq i j).symm⟩
  · split at h
    · rename_i d e h1 h2
      split at h
      · rename_i hs
        rw [Bool.and_eq_true] at hs
        cases h
        exact ⟨d, e, datS_ok S ra h1, datS_ok S rb h2, hs.1, hs.2, rfl⟩
      · cases h
    · cases h
def gEq : MV → MV → Sto → Res MV := fun a b s => match eqD s a b with
  | some k => .ok (.bl k) s
  | none => .bad
def gNe : MV → MV → Sto → Res MV := fun a b s => match eqD s a b with
  | some k => .ok (.bl (!k)) s
  | none => .bad
theorem rg_eq : RR2 K T gEq (rEqD K) := by
  intro mp H st a b x y W Q S ra rb P
  unfold gEq at P
  cases h : eqD st a b with
  | none => rw [h] at P; exact P.elim
  | some k =>
    rw [h] at P
    obtain ⟨d, e, h1, h2, h3, h4, rfl⟩ := eqD_ok S ra rb h
    exact ⟨d, e, h1, h2, h3, h4, Post.here P S rfl⟩
theorem rg_ne : RR2 K T gNe (rNeD K) := by
  intro mp H st a b x y W Q S ra rb P
  unfold gNe at P
  cases h : eqD st a b with
  | none => rw [h] at P; exact P.elim
  | some k =>
    rw [h] at P
    obtain ⟨d, e, h1, h2, h3, h4, rfl⟩ := eqD_ok S ra rb h
    exact ⟨d, e, h1, h2, h3, h4, Post.here P S rfl⟩
/-! ### is -/
def isM (a b : MV) : Option Bool := match b with
  | .non => some (match a with
    | .non => true
    | _ => false)
  | .bl k => some (match a with
    | .bl j => j == k
    | _ => false)
  | .ty n => match a with
    | .ty m => some (decide (m = n))
    | _ => none
  | _ => none
def gIs : MV → MV → Sto → Res MV := fun a b s => match isM a b with
  | some k => .ok (.bl k) s
  | none => .bad
def gIsNot : MV → MV → Sto → Res MV := fun a b s => match isM a b with
  | some k => .ok (.bl (!k)) s
  | none => .bad
/-- the right side None, True, False or a built-in class (then the left one too) -/
def rIs (neg : Bool) : R2 := fun x y H Q => ∃ k : Bool, ((y = .non ∧ k = decide (x = .non)) ∨ (∃ j, y = .bl j ∧ k = decide (x = .bl j)) ∨ ∃ m n, y = .ty n ∧ x = .ty m ∧ k = decide (m = n)) ∧ Q (.bl (if neg then !k else k)) H
theorem is_bl_gen {M : Model} {A : Around} {E : Value → Shared → Prop} {s : Shared} {Q : Value → Shared → Prop} {x : V} {v : Value} {j : Bool} (r : RelV x v) (h : Q (.bool (decide (x = .bl j))) s) : wpAny M A (compareOp .Is v (.bool j)) Q E s := by
  cases x with
  | non => cases r; exact wpAny_pure h
  | bl i => cases r; cases i <;> cases j <;> exact wpAny_pure h
  | int _ => obtain ⟨t, rfl⟩ := r; exact wpAny_pure h
  | str _ => obtain ⟨t, rfl⟩ := r; exact wpAny_pure h
  | byt _ => obtain ⟨t, rfl⟩ := r; exact wpAny_pure h
  | flt _ => obtain ⟨t, rfl⟩ := r; exact wpAny_pure h
  | ref _ => cases r; exact wpAny_pure h
  | ty _ => cases r; exact wpAny_pure h
theorem isnot_bl_gen {M : Model} {A : Around} {E : Value → Shared → Prop} {s : Shared} {Q : Value → Shared → Prop} {x : V} {v : Value} {j : Bool} (r : RelV x v) (h : Q (.bool (!decide (x = .bl j))) s) : wpAny M A (compareOp .IsNot v (.bool j)) Q E s := by
  cases x with
  | non => cases r; exact wpAny_pure h
  | bl i => cases r; cases i <;> cases j <;> exact wpAny_pure h
  | int _ => obtain ⟨t, rfl⟩ := r; exact wpAny_pure h
  | str _ => obtain ⟨t, rfl⟩ := r; exact wpAny_pure h
  | byt _ => obtain ⟨t, rfl⟩ := r; exact wpAny_pure h
  | flt _ => obtain ⟨t, rfl⟩ := r; exact wpAny_pure h
  | ref _ => cases r; exact wpAny_pure h
  | ty _ => cases r; exact wpAny_pure h
theorem ro_is : OpR X (compareOp .Is) (rIs false) := by
  intro pins s σ H x y v u Q I rx ry h
  obtain ⟨k, h, q⟩ := h
  rcases h with ⟨rfl, rfl⟩ | ⟨j, rfl, rfl⟩ | ⟨m, n, rfl, rfl, rfl⟩
  · cases ry
    exact is_none_gen ⟨.bl _, H, I, by rw [rx.none_iff] <;> rfl, q⟩
  · cases ry
    exact is_bl_gen rx ⟨.bl _, H, I, rfl, q⟩
  · exact op_isTyB pins s σ H _ _ v u Q I rx ry ⟨m, n, rfl, rfl, q⟩
theorem ro_isnot : OpR X (compareOp .IsNot) (rIs true) := by
  intro pins s σ H x y v u Q I rx ry h
  obtain ⟨k, h, q⟩ := h
  rcases h with ⟨rfl, rfl⟩ | ⟨j, rfl, rfl⟩ | ⟨m, n, rfl, rfl, rfl⟩
  · cases ry
    exact isnot_none_gen ⟨.bl _, H, I, by rw [rx.none_iff] <;> rfl, q⟩
  · cases ry
    exact isnot_bl_gen rx ⟨.bl _, H, I, rfl, q⟩
  · exact op_notTyB pins s σ H _ _ v u Q I rx ry ⟨m, n, rfl, rfl, q⟩
theorem isM_ok {mp : List Addr} {H : Hp} {a b : MV} {x y : V} {k : Bool} (ra : RepV K mp H a x) (rb : RepV K mp H b y) (h : isM a b = some k) :
    (y = .non ∧ k = decide (x = .non)) ∨ (∃ j, y = .bl j ∧ k = decide (x = .bl j)) ∨ ∃ m n, y = .ty n ∧ x = .ty m ∧ k = decide (m = n) := by
  cases b with
  | non =>
    cases rb
    simp only [isM, Option.some.injEq] at h
    refine .inl ⟨rfl, ?_⟩
    subst h
    cases a with
    | non => cases ra; rfl
    | bl b => cases ra; rfl
    | int i => cases ra; rfl
    | str s => cases ra; rfl
    | ty n => cases ra; rfl
    | ref n => obtain ⟨_, _, rfl⟩ := ra; rfl
    | tup xs => obtain ⟨_, _, rfl, _⟩ := ra; rfl
    | lis xs => obtain ⟨_, _, rfl, _⟩ := ra; rfl
  | bl j =>
    cases rb
    simp only [isM, Option.some.injEq] at h
    refine .inr (.inl ⟨j, rfl, ?_⟩)
    subst h
    cases a with
    | non => cases ra; rfl
    | bl b => cases ra; cases b <;> cases j <;> rfl
    | int i => cases ra; rfl
    | str s => cases ra; rfl
    | ty n => cases ra; rfl
    | ref n => obtain ⟨_, _, rfl⟩ := ra; rfl
    | tup xs => obtain ⟨_, _, rfl, _⟩ := ra; rfl
    | lis xs => obtain ⟨_, _, rfl, _⟩ := ra; rfl
  | ty n =>
    cases rb
    cases a with
    | ty m =>
      cases ra
      simp only [isM, Option.some.injEq] at h
      exact .inr (.inr ⟨m, n, rfl, rfl, h.symm⟩)
    | _ => cases h
  | _ => cases h
theorem rg_is : RR2 K T gIs (rIs false) := by
  intro mp H st a b x y W Q S ra rb P
  unfold gIs at P
  cases h : isM a b with
  | none => rw [h] at P; exact P.elim
  | some k => rw [h] at P; exact ⟨k, isM_ok ra rb h, Post.here P S rfl⟩
theorem rg_isnot : RR2 K T gIsNot (rIs true) := by
  intro mp H st a b x y W Q S ra rb P
  unfold gIsNot at P
  cases h : isM a b with
  | none => rw [h] at P; exact P.elim
  | some k => rw [h] at P; exact ⟨k, isM_ok ra rb h, Post.here P S rfl⟩
/-! ### subscripts -/
theorem atI_rep {mp : List Addr} {H : Hp} {xs : List MV} {vs : List V} {i : Int} {x : MV} (h : RepVs K mp H xs vs) (e : atI xs i = some x) : ∃ v, atI vs i = some v ∧ RepV K mp H x v := by
  unfold atI at e ⊢
  rw [h.length]
  cases q : ixN xs.length i with
  | none => rw [q] at e; cases e
  | some j => rw [q] at e; exact h.get e
def charAt (s : String) (i : Int) : Option Char := atI s.toList i
def gIxS : MV → MV → Sto → Res MV := fun a b s => match a, b with
  | .tup xs, .int i => match atI xs i with
    | some x => .ok x s
    | none => .bad
  | .lis xs, .int i => match atI xs i with
    | some x => .ok x s
    | none => .bad
  | .ref n, .int i => match s[n]? with
    | some (.lst xs) => match atI xs i with
      | some x => .ok x s
      | none => .bad
    | _ => .bad
  | .str z, .int i => if z.length ≤ 1000000 then match charAt z i with
      | some c => .ok (.str (String.singleton c)) s
      | none => .bad
    else .bad
  | _, _ => .bad
theorem ro_ixS : IxR X (fun x y H Q => (rIxL X.K x y H Q ∨ rIxT X.K x y H Q) ∨ rIxS x y H Q) := IxR.or (IxR.or ix_list ix_tup) ix_str
theorem sf_single (c : Char) : sf (String.singleton c) = ⟨#[c.toNat]⟩ := by
  show Str.ofString _ = _
  rw [Str.ofString_eq_toList]
  simp
theorem rg_ixS : RR2 K T gIxS (fun x y H Q => (rIxL K x y H Q ∨ rIxT K x y H Q) ∨ rIxS x y H Q) := by
  intro mp H st a b x y W Q S ra rb P
  cases b with
  | int i =>
    cases rb
    cases a with
    | tup xs =>
      obtain ⟨p, vs, rfl, t, g⟩ := ra
      simp only [gIxS] at P
      cases e : atI xs i with
      | none => rw [e] at P; exact P.elim
      | some z =>
        rw [e] at P
        obtain ⟨v, h1, h2⟩ := atI_rep g e
        exact .inl (.inr ⟨p, vs, i, v, rfl, rfl, t.seq, h1, Post.here P S h2⟩)
    | lis xs =>
      obtain ⟨p, vs, rfl, t, g⟩ := ra
      simp only [gIxS] at P
      cases e : atI xs i with
      | none => rw [e] at P; exact P.elim
      | some z =>
        rw [e] at P
        obtain ⟨v, h1, h2⟩ := atI_rep g e
        exact .inl (.inl ⟨p, vs, i, v, rfl, rfl, t.seq, h1, Post.here P S h2⟩)
    | ref n =>
      obtain ⟨p, hp, rfl⟩ := ra
      simp only [gIxS] at P
      split at P
      · rename_i xs e0
        obtain ⟨vs, h0, g⟩ := S.cell n _ p e0 hp
        cases e : atI xs i with
        | none => rw [e] at P; exact P.elim
        | some z =>
          rw [e] at P
          obtain ⟨v, h1, h2⟩ := atI_rep g e
          exact .inl (.inl ⟨p, vs, i, v, rfl, rfl, .of h0, h1, Post.here P S h2⟩)
      · exact P.elim
    | str z =>
      cases ra
      simp only [gIxS] at P
      split at P
      · rename_i hz
        cases e : charAt z i with
        | none => rw [e] at P; exact P.elim
        | some ch =>
          rw [e] at P
          refine .inr ⟨sf z, i, ch.toNat, rfl, rfl, by rw [sf_length]; exact Nat.le_trans hz (by decide), ?_, Post.here P S (by show _ = V.str (sf _); rw [sf_single])⟩
          have ez : (sf z).cps.toList = z.toList.map Char.toNat := by
            show (Str.ofString z).cps.toList = _
            rw [Str.ofString_eq_toList]
          rw [ez]
          unfold charAt atI at e
          unfold atI
          rw [List.length_map]
          cases q : ixN z.toList.length i with
          | none => rw [q] at e; cases e
          | some j =>
            rw [q] at e
            have e : z.toList[j]? = some ch := e
            show (z.toList.map Char.toNat)[j]? = some ch.toNat
            rw [List.getElem?_map, e] <;> rfl
      · exact P.elim
    | _ => exact P.elim
  | _ => cases a <;> exact P.elim
/-! dicts -/
def valM {α : Type} [DecidableEq α] (kvs : List (α × MV)) (k : α) : Option MV := (kvs.find? fun kv => decide (kv.1 = k)).map (·.2)
def MV.mk : MV → Option MK
  | .int i => some (.i i)
  | .str s => some (.s s)
  | _ => none
theorem mk_kV {mp : List Addr} {H : Hp} {y : MV} {v : V} {k : MK} (r : RepV K mp H y v) (e : y.mk = some k) : v = kV k.key := by
  cases y <;> simp [MV.mk] at e
  · subst e; exact r
  · subst e; exact r
theorem pair_val {α β : Type} [DecidableEq α] [DecidableEq β] {mp : List Addr} {H : Hp} {f : α → β} (inj : ∀ a b, f a = f b → a = b) {kvs : List (α × MV)} {kv' : List (β × V)} (h : PairRep K mp H f kvs kv') (k : α) :
    (valM kvs k = none ∧ valV kv' (f k) = none) ∨ ∃ x v, valM kvs k = some x ∧ valV kv' (f k) = some v ∧ RepV K mp H x v := by
  unfold PairRep at h
  induction h with
  | nil => exact .inl ⟨rfl, rfl⟩
  | @cons p q ps qs hpq ht ih =>
    by_cases e : p.1 = k
    · refine .inr ⟨p.2, q.2, by simp [valM, List.find?_cons, e], ?_, hpq.2⟩
      exact valV_pos (by rw [hpq.1, e])
    · have e2 : ¬ q.1 = f k := fun z => e (inj _ _ (hpq.1.symm.trans z))
      rw [valV_neg e2]
      have e3 : valM (p :: ps) k = valM ps k := by simp [valM, List.find?_cons, e]
      rw [e3]
      exact ih
def dicAt (s : Sto) (n : Nat) : Option (List (MK × MV)) := match s[n]? with
  | some (.dic kvs) => some kvs
  | some (.lck kvs) => some kvs
  | _ => none
theorem dicAt_ok {mp : List Addr} {H : Hp} {st : Sto} {n : Nat} {p : Addr} {kvs : List (MK × MV)} (S : RelS K T mp st H) (hp : mp[n]? = some p) (e : dicAt st n = some kvs) : ∃ kv', Rd H p (.dK kv') ∧ PairRep K mp H MK.key kvs kv' := by
  unfold dicAt at e
  split at e
  · rename_i k h
    cases e
    obtain ⟨kv', h1, h2⟩ := S.cell n _ p h hp
    exact ⟨kv', .inl h1, h2⟩
  · rename_i k h
    cases e
    obtain ⟨o, kv', h1, h2⟩ := S.cell n _ p h hp
    exact ⟨kv', .inr ⟨o, h1⟩, h2⟩
  · cases e
def gIxD : MV → MV → Sto → Res MV := fun a b s => match a with
  | .ref n => match dicAt s n, b.mk with
    | some kvs, some k => match valM kvs k with
      | some x => .ok x s
      | none => .bad
    | _, _ => .bad
  | _ => .bad
theorem rg_ixD : RR2 K T gIxD (fun x y H Q => ∃ a v, x = .ref a ∧ DGet H a y (some v) ∧ Q v H) := by
  intro mp H st a b x y W Q S ra rb P
  cases a with
  | ref n =>
    obtain ⟨p, hp, rfl⟩ := ra
    simp only [gIxD] at P
    split at P
    · rename_i kvs k h1 h2
      obtain ⟨kv', hr, hk⟩ := dicAt_ok S hp h1
      rcases pair_val (fun _ _ => MK.key_inj) hk k with ⟨e, _⟩ | ⟨z, v, e, e2, r⟩
      · rw [e] at P; exact P.elim
      · rw [e] at P
        have ey := mk_kV rb h2
        subst ey
        exact ⟨p, v, rfl, .inl ⟨kv', k.key, hr, rfl, e2.symm⟩, Post.here P S r⟩
    · exact P.elim
  | _ => exact P.elim
def gIx : MV → MV → Sto → Res MV := gOr gIxS gIxD
section
variable {W : WX} {a b c : Expr} {ma mb mc : ME} {pos : Pos}
theorem tE_or {g g' : MV → MV → Sto → Res MV} {σ : L2.St} {H : Hp} {Q : VK} (h : tE K T W (eOp (gOr g g') ma mb) σ H Q) : tE K T W (eOp g ma mb) σ H Q ∨ tE K T W (eOp g' ma mb) σ H Q := by
  obtain ⟨mp, ρ, st, L, S, P⟩ := h
  have key : eOp (gOr g g') ma mb ρ st = eOp g ma mb ρ st ∨ eOp (gOr g g') ma mb ρ st = eOp g' ma mb ρ st := by
    unfold eOp
    cases ma ρ st with
    | ok x s =>
      simp only [Res.bind]
      cases mb ρ s with
      | ok y s2 => exact gOr_cases g g' x y s2
      | exc _ _ => exact .inl rfl
      | bad => exact .inl rfl
    | exc _ _ => exact .inl rfl
    | bad => exact .inl rfl
  rcases key with e | e
  · rw [e] at P; exact .inl ⟨mp, ρ, st, L, S, P⟩
  · rw [e] at P; exact .inr ⟨mp, ρ, st, L, S, P⟩
theorem re_idx {k : Nat} (hr : Room k X.A) (ha : RE T X W a ma) (hb : RE T X W b mb) (hs : PlainIx b := by exact fun _ _ => rfl) (hs' : NoSl b := by exact fun _ _ => rfl) : RE T X W (.Subscript a b pos) (eOp gIx ma mb) := by
  have h1 : RE T X W (.Subscript a b pos) (eOp gIxS ma mb) := re_ix ro_ixS rg_ixS ha hb hs
  have h2 : RE T X W (.Subscript a b pos) (eOp gIxD ma mb) := by
    refine PE.imp (pe_dget (hu_of hr) ha hb hs') fun σ H Q h => ?_
    exact op_in rg_ixD h
  exact PE.imp (PE.or h1 h2) fun σ H Q h => tE_or h
end
/-! ### in -/
def MV.flat : MV → Bool
  | .non => true
  | .bl _ => true
  | .int _ => true
  | .str _ => true
  | _ => false
def eqF : MV → MV → Bool
  | .non, .non => true
  | .bl a, .bl b => a == b
  | .bl a, .int b => (if a then 1 else 0) == b
  | .int a, .bl b => a == (if b then 1 else 0)
  | .int a, .int b => a == b
  | .str a, .str b => a == b
  | _, _ => false
theorem flat_ok {mp : List Addr} {H : Hp} {x : MV} {v : V} (r : RepV K mp H x v) (h : x.flat = true) : flatV v = true := by
  cases x <;> simp [MV.flat] at h <;> cases r <;> rfl
theorem flats_ok {mp : List Addr} {H : Hp} : ∀ {xs : List MV} {vs : List V}, RepVs K mp H xs vs → xs.all MV.flat = true → vs.all flatV = true
  | [], _, h, _ => by rw [show _ = [] from h] <;> rfl
  | x :: xs, _, ⟨v, r, e, h1, h2⟩, h => by
    rw [List.all_cons, Bool.and_eq_true] at h
    rw [e, List.all_cons, flat_ok h1 h.1, flats_ok h2 h.2] <;> rfl
theorem eqF_ok {mp : List Addr} {H : Hp} {x y : MV} {v w : V} (rx : RepV K mp H x v) (ry : RepV K mp H y w) (hx : x.flat = true) (hy : y.flat = true) : eqV v w = eqF x y := by
  cases x <;> simp [MV.flat] at hx <;> cases rx <;> cases y <;> simp [MV.flat] at hy <;> cases ry <;> first | rfl | exact sf_eq _ _
theorem inV_ok {mp : List Addr} {H : Hp} {x : MV} {v : V} (rx : RepV K mp H x v) (hx : x.flat = true) : ∀ {xs : List MV} {vs : List V}, RepVs K mp H xs vs → xs.all MV.flat = true → inV v vs = xs.any (eqF · x)
  | [], _, h, _ => by rw [show _ = [] from h] <;> rfl
  | y :: xs, _, ⟨w, r, e, h1, h2⟩, h => by
    rw [List.all_cons, Bool.and_eq_true] at h
    have ih := inV_ok rx hx h2 h.2
    unfold inV at ih ⊢
    rw [e, List.any_cons, List.any_cons, ih, eqF_ok h1 rx h.1 hx]
def seqAtM (s : Sto) : MV → Option (List MV)
  | .tup xs => some xs
  | .lis xs => some xs
  | .ref n => match s[n]? with
    | some (.lst xs) => some xs
    | _ => none
  | _ => none
theorem seqAtM_ok {mp : List Addr} {H : Hp} {st : Sto} {y : MV} {v : V} {xs : List MV} (S : RelS K T mp st H) (r : RepV K mp H y v) (e : seqAtM st y = some xs) : ∃ p vs, v = .ref p ∧ (SqL K H p vs ∨ SqT K H p vs) ∧ RepVs K mp H xs vs := by
  cases y with
  | tup ys => obtain ⟨p, vs, rfl, t, g⟩ := r; cases e; exact ⟨p, vs, rfl, .inr t.seq, g⟩
  | lis ys => obtain ⟨p, vs, rfl, t, g⟩ := r; cases e; exact ⟨p, vs, rfl, .inl t.seq, g⟩
  | ref n =>
    obtain ⟨p, hp, rfl⟩ := r
    simp only [seqAtM] at e
    split at e
    · rename_i ys h
      cases e
      obtain ⟨vs, h1, g⟩ := S.cell n _ p h hp
      exact ⟨p, vs, rfl, .inl (.of h1), g⟩
    · cases e
  | _ => cases e
def inM (s : Sto) (a b : MV) : Option Bool := match seqAtM s b with
  | some xs => if a.flat && xs.all MV.flat then some (xs.any (eqF · a)) else none
  | none => none
def gInS (neg : Bool) : MV → MV → Sto → Res MV := fun a b s => match inM s a b with
  | some k => .ok (.bl (if neg then !k else k)) s
  | none => .bad
theorem rg_inS (neg : Bool) : RR2 K T (gInS neg) (rIn K neg) := by
  intro mp H st a b x y W Q S ra rb P
  unfold gInS inM at P
  cases h : seqAtM st b with
  | none => rw [h] at P; exact P.elim
  | some xs =>
    rw [h] at P
    by_cases hf : (a.flat && xs.all MV.flat) = true
    · simp only [hf, if_true] at P
      rw [Bool.and_eq_true] at hf
      obtain ⟨p, vs, rfl, hs, g⟩ := seqAtM_ok S rb h
      refine ⟨p, vs, rfl, hs, flat_ok ra hf.1, flats_ok g hf.2, ?_⟩
      rw [inV_ok ra hf.1 g hf.2]
      exact Post.here P S rfl
    · simp only [Bool.not_eq_true _ ▸ hf] at P
      rw [if_neg (by simp)] at P
      exact P.elim
def gInD (neg : Bool) : MV → MV → Sto → Res MV := fun a b s => match b with
  | .ref n => match dicAt s n, a.mk with
    | some kvs, some k => .ok (.bl (if neg then !(valM kvs k).isSome else (valM kvs k).isSome)) s
    | _, _ => .bad
  | _ => .bad
theorem rg_inD (neg : Bool) : RR2 K T (gInD neg) (fun y x H Q => ∃ a o, x = .ref a ∧ DGet H a y o ∧ Q (.bl (if neg then !o.isSome else o.isSome)) H) := by
  intro mp H st a b x y W Q S ra rb P
  cases b with
  | ref n =>
    obtain ⟨p, hp, rfl⟩ := rb
    simp only [gInD] at P
    split at P
    · rename_i kvs k h1 h2
      obtain ⟨kv', hr, hk⟩ := dicAt_ok S hp h1
      have ey := mk_kV ra h2
      subst ey
      refine ⟨p, valV kv' k.key, rfl, .inl ⟨kv', k.key, hr, rfl, rfl⟩, ?_⟩
      rcases pair_val (fun _ _ => MK.key_inj) hk k with ⟨e, e2⟩ | ⟨z, v, e, e2, r⟩
      · rw [e] at P; rw [e2]; exact Post.here P S rfl
      · rw [e] at P; rw [e2]; exact Post.here P S rfl
    · exact P.elim
  | _ => exact P.elim
def gIn (neg : Bool) : MV → MV → Sto → Res MV := gOr (gInS neg) (gInD neg)
section
variable {W : WX} {a b c : Expr} {ma mb mc : ME} {pos : Pos}
theorem re_in {k : Nat} (hr : Room k X.A) (ha : RE T X W a ma) (hb : RE T X W b mb) (hm : behindInMarks .In b = false := by rfl) : RE T X W (.Compare a [.In] [b] pos) (eOp (gIn false) ma mb) := by
  have h1 : RE T X W (.Compare a [.In] [b] pos) (eOp (gInS false) ma mb) := re_cmp op_in_seq (rg_inS false) ha hb hm
  have h2 : RE T X W (.Compare a [.In] [b] pos) (eOp (gInD false) ma mb) := PE.imp (pe_cmp (pc_din (hu_of hr) ha hb) hm) fun σ H Q h => op_in (rg_inD false) h
  exact PE.imp (PE.or h1 h2) fun σ H Q h => tE_or h
theorem re_notin {k : Nat} (hr : Room k X.A) (ha : RE T X W a ma) (hb : RE T X W b mb) (hm : behindInMarks .NotIn b = false := by rfl) : RE T X W (.Compare a [.NotIn] [b] pos) (eOp (gIn true) ma mb) := by
  have h1 : RE T X W (.Compare a [.NotIn] [b] pos) (eOp (gInS true) ma mb) := re_cmp op_notIn_seq (rg_inS true) ha hb hm
  have h2 : RE T X W (.Compare a [.NotIn] [b] pos) (eOp (gInD true) ma mb) := PE.imp (pe_cmp (pc_dnotin (hu_of hr) ha hb) hm) fun σ H Q h => op_in (rg_inD true) h
  exact PE.imp (PE.or h1 h2) fun σ H Q h => tE_or h
/-- a value that is True or False, as a test: where the plain look does not serve -/
theorem rt_val {e : Expr} {m : ME} (h : RE T X W e m) (he : ∀ whole, isTrue e X.env whole = (do let v ← whole; standAt e.pos; holding [v] (truthy v)) := by intro _; rfl) : RT T X W e (tTr m) := rt_truth h he
end
/-! ### built-ins -/
theorem CallR.or {f : Value} {r r' : List V → Hp → VK → Prop} (h : CallR X f r) (h' : CallR X f r') : CallR X f (fun xs H Q => r xs H Q ∨ r' xs H Q) := fun pins s σ H xs us Q I rv q => q.elim (h pins s σ H xs us Q I rv) (h' pins s σ H xs us Q I rv)
def fOr (g g' : MF) : MF := fun xs s => match g xs s with
  | .bad => g' xs s
  | r => r
theorem RRn.for {g g' : MF} {r r' : List V → Hp → VK → Prop} (h : RRn K T g r) (h' : RRn K T g' r') : RRn K T (fOr g g') (fun xs H Q => r xs H Q ∨ r' xs H Q) := by
  intro mp H st xs vs W Q S rv P
  have key : fOr g g' xs st = g xs st ∨ fOr g g' xs st = g' xs st := by
    unfold fOr
    cases g xs st <;> simp
  rcases key with e | e
  · rw [e] at P; exact .inl (h mp H st xs vs W Q S rv P)
  · rw [e] at P; exact .inr (h' mp H st xs vs W Q S rv P)
/-- one argument -/
def f1 (g : MV → Sto → Res MV) : MF := fun xs s => match xs with
  | [x] => g x s
  | _ => .bad
theorem rg_f1 {g : MV → Sto → Res MV} {r : List V → Hp → VK → Prop} (h : ∀ mp H st x v W Q, RelS K T mp st H → RepV K mp H x v → Post K T (RepV K) mp H W (g x st) Q → r [v] H Q) : RRn K T (f1 g) r := by
  intro mp H st xs vs W Q S rv P
  match xs, rv, P with
  | [x], rv, P =>
    obtain ⟨v, r, e, h1, h2⟩ := rv
    have h2 : r = [] := h2
    subst h2 e
    exact h mp H st x v W Q S h1 P
def lenM (s : Sto) : MV → Option Nat
  | .str z => if z.length ≤ 1000000 then some z.length else none
  | .tup xs => some xs.length
  | .lis xs => some xs.length
  | .ref n => match s[n]? with
    | some (.lst xs) => some xs.length
    | _ => none
  | _ => none
def lenD (s : Sto) : MV → Option Nat
  | .ref n => match s[n]? with
    | some (.dic kvs) => some kvs.length
    | _ => none
  | _ => none
def fLen : MF := fOr (f1 fun x s => match lenM s x with
  | some n => .ok (.int n) s
  | none => .bad) (f1 fun x s => match lenD s x with
  | some n => .ok (.int n) s
  | none => .bad)
theorem ro_len : CallR X (.builtin "len") (fun xs H Q => (∃ x n, xs = [x] ∧ LenV X.K x H n ∧ Q (.int n) H) ∨ ∃ a kvs, xs = [V.ref a] ∧ H a = some (.dK kvs) ∧ Q (.int kvs.length) H) := CallR.or call_len call_lenD
theorem rg_len : RRn K T fLen (fun xs H Q => (∃ x n, xs = [x] ∧ LenV K x H n ∧ Q (.int n) H) ∨ ∃ a kvs, xs = [V.ref a] ∧ H a = some (.dK kvs) ∧ Q (.int kvs.length) H) := by
  refine RRn.for (rg_f1 fun mp H st x v W Q S r P => ?_) (rg_f1 fun mp H st x v W Q S r P => ?_)
  · cases e : lenM st x with
    | none => rw [e] at P; exact P.elim
    | some n =>
      rw [e] at P
      refine ⟨v, n, rfl, ?_, Post.here P S rfl⟩
      cases x with
      | str z =>
        cases r
        simp only [lenM] at e
        split at e
        · rename_i hz
          cases e
          exact ⟨by rw [sf_length]; exact Nat.le_trans hz (by decide), (sf_length z).symm⟩
        · cases e
      | tup xs => obtain ⟨p, vs, rfl, t, g⟩ := r; cases e; exact .inr ⟨vs, t.seq, g.length.symm⟩
      | lis xs => obtain ⟨p, vs, rfl, t, g⟩ := r; cases e; exact .inl ⟨vs, t.seq, g.length.symm⟩
      | ref m =>
        obtain ⟨p, hp, rfl⟩ := r
        simp only [lenM] at e
        split at e
        · rename_i xs h
          cases e
          obtain ⟨vs, h1, g⟩ := S.cell m _ p h hp
          exact .inl ⟨vs, .of h1, g.length.symm⟩
        · cases e
      | _ => cases e
  · cases e : lenD st x with
    | none => rw [e] at P; exact P.elim
    | some n =>
      rw [e] at P
      cases x with
      | ref m =>
        obtain ⟨p, hp, rfl⟩ := r
        simp only [lenD] at e
        split at e
        · rename_i kvs h
          cases e
          obtain ⟨kv', h1, g⟩ := S.cell m _ p h hp
          refine ⟨p, kv', rfl, h1, ?_⟩
          rw [PairRep.length g]
          exact Post.here P S rfl
        · cases e
      | _ => cases e
def fAbs : MF := f1 fun x s => match x with
  | .int i => .ok (.int (if i < 0 then -i else i)) s
  | _ => .bad
theorem rg_abs : RRn K T fAbs (fun xs H Q => ∃ i, xs = [V.int i] ∧ Q (.int (if i < 0 then -i else i)) H) := rg_f1 fun mp H st x v W Q S r P => by
  cases x with
  | int i => cases r; exact ⟨i, rfl, Post.here P S rfl⟩
  | _ => exact P.elim
def fInt : MF := f1 fun x s => match x with
  | .int i => .ok (.int i) s
  | .bl k => .ok (.int (if k then 1 else 0)) s
  | _ => .bad
theorem rg_intf : RRn K T fInt (fun xs H Q => (∃ i, xs = [V.int i] ∧ Q (.int i) H) ∨ ∃ k, xs = [V.bl k] ∧ Q (.int (if k then 1 else 0)) H) := rg_f1 fun mp H st x v W Q S r P => by
  cases x with
  | int i => cases r; exact .inl ⟨i, rfl, Post.here P S rfl⟩
  | bl k => cases r; exact .inr ⟨k, rfl, Post.here P S rfl⟩
  | _ => exact P.elim
def tyM (s : Sto) : MV → Option String
  | .non => some "NoneType"
  | .bl _ => some "bool"
  | .int _ => some "int"
  | .str _ => some "str"
  | .tup _ => some "tuple"
  | .lis _ => some "list"
  | .ref n => match s[n]? with
    | some (.lst _) => some "list"
    | some (.dic _) => some "dict"
    | _ => none
  | .ty _ => none
theorem tyM_ok {mp : List Addr} {H : Hp} {st : Sto} {x : MV} {v : V} {n : String} (S : RelS K T mp st H) (r : RepV K mp H x v) (e : tyM st x = some n) : TyB K H v n := by
  cases x with
  | non => cases r; cases e; exact .non
  | bl b => cases r; cases e; exact .bl b
  | int i => cases r; cases e; exact .int i
  | str s => cases r; cases e; exact .str _
  | ty _ => cases e
  | tup xs => obtain ⟨p, vs, rfl, t, g⟩ := r; cases e; exact .tup t.seq
  | lis xs => obtain ⟨p, vs, rfl, t, g⟩ := r; cases e; exact .lst t.seq
  | ref m =>
    obtain ⟨p, hp, rfl⟩ := r
    simp only [tyM] at e
    split at e
    · rename_i xs h
      cases e
      obtain ⟨vs, h1, g⟩ := S.cell m _ p h hp
      exact .lst (.of h1)
    · rename_i kvs h
      cases e
      obtain ⟨kv', h1, g⟩ := S.cell m _ p h hp
      exact .dK h1
    · cases e
def fType : MF := f1 fun x s => match tyM s x with
  | some n => .ok (.ty n) s
  | none => .bad
theorem rg_type : RRn K T fType (rTyp K) := rg_f1 fun mp H st x v W Q S r P => by
  cases e : tyM st x with
  | none => rw [e] at P; exact P.elim
  | some n => rw [e] at P; exact ⟨v, n, rfl, tyM_ok S r e, Post.here P S rfl⟩
def fTuple : MF := f1 fun x s => match x with
  | .tup xs => .ok (.tup xs) s
  | x => match seqAtM s x with
    | some xs => .ok (.tup xs) s
    | none => .bad
theorem rg_tuple : RRn K T fTuple (fun xs H Q => ∃ p ys, xs = [V.ref p] ∧ ((SqL K H p ys ∧ newT H ys Q) ∨ (SqT K H p ys ∧ Q (.ref p) H))) := rg_f1 fun mp H st x v W Q S r P => by
  cases x with
  | tup xs => obtain ⟨p, vs, rfl, t, g⟩ := id r; exact ⟨p, vs, rfl, .inr ⟨t.seq, Post.here P S r⟩⟩
  | lis xs => obtain ⟨p, vs, rfl, t, g⟩ := r; exact ⟨p, vs, rfl, .inl ⟨t.seq, fun l o hd hl => Post.new0 P S hl ⟨l, vs, rfl, .inl ⟨o, upd_same, hd⟩, g.mono (Ext.new0 hl)⟩⟩⟩
  | ref n =>
    obtain ⟨p, hp, rfl⟩ := r
    simp only [seqAtM] at P
    cases h : st[n]? with
    | none => rw [h] at P; exact P.elim
    | some c =>
      rw [h] at P
      cases c with
      | lst xs =>
        obtain ⟨vs, h1, g⟩ := S.cell n _ p h hp
        exact ⟨p, vs, rfl, .inl ⟨.of h1, fun l o hd hl => Post.new0 P S hl ⟨l, vs, rfl, .inl ⟨o, upd_same, hd⟩, g.mono (Ext.new0 hl)⟩⟩⟩
      | _ => exact P.elim
  | _ => exact P.elim
def fList : MF := f1 fun x s => match seqAtM s x with
  | some xs => .ok (.ref s.length) (s ++ [.lst xs])
  | none => .bad
theorem rg_list : RRn K T fList (fun xs H Q => ∃ p ys, xs = [V.ref p] ∧ (SqL K H p ys ∨ SqT K H p ys) ∧ ∀ l, H l = none → Q (.ref l) (upd H l (.lst ys))) := rg_f1 fun mp H st x v W Q S r P => by
  cases e : seqAtM st x with
  | none => rw [e] at P; exact P.elim
  | some xs =>
    rw [e] at P
    obtain ⟨p, vs, rfl, hs, g⟩ := seqAtM_ok S r e
    exact ⟨p, vs, rfl, hs, fun l hl => Post.cell P S hl ⟨vs, upd_same, g.mono (Ext.new1 hl)⟩⟩
/-- two arguments -/
def f2 (g : MV → MV → Sto → Res MV) : MF := fun xs s => match xs with
  | [x, y] => g x y s
  | _ => .bad
theorem rg_f2 {g : MV → MV → Sto → Res MV} {r : List V → Hp → VK → Prop} (h : ∀ mp H st x y v w W Q, RelS K T mp st H → RepV K mp H x v → RepV K mp H y w → Post K T (RepV K) mp H W (g x y st) Q → r [v, w] H Q) : RRn K T (f2 g) r := by
  intro mp H st xs vs W Q S rv P
  cases xs with
  | nil => exact P.elim
  | cons x xs =>
    cases xs with
    | nil => exact P.elim
    | cons y xs =>
      cases xs with
      | cons _ _ => exact P.elim
      | nil =>
        obtain ⟨v, r1, e, h1, w, r2, e2, h2, h3⟩ := rv
        have h3 : r2 = [] := h3
        subst h3 e2 e
        exact h mp H st x y v w W Q S h1 h2 P
/-- isinstance(x, T), T built in -/
def isiB (t c : String) : Option Bool := if ["int", "str", "tuple"].contains c && ["NoneType", "bool", "int", "str", "tuple", "list"].contains t then some (t == c || (t == "bool" && c == "int")) else none
theorem isiB_ok {t c : String} {k : Bool} (h : isiB t c = some k) : kitB t c = some k := by
  unfold isiB at h
  split at h
  · rename_i hc
    simp only [Bool.and_eq_true, List.contains_eq_mem, List.mem_cons, List.not_mem_nil, or_false, decide_eq_true_eq] at hc
    obtain ⟨hc, ht⟩ := hc
    simp only [Option.some.injEq] at h
    subst h
    rcases hc with rfl | rfl | rfl <;> rcases ht with rfl | rfl | rfl | rfl | rfl | rfl <;> decide +kernel
  · cases h
def isiM (x : MV) (c : String) : Option Bool := match x with
  | .non => isiB "NoneType" c
  | .bl _ => isiB "bool" c
  | .int _ => isiB "int" c
  | .str _ => isiB "str" c
  | .tup _ => isiB "tuple" c
  | .lis _ => isiB "list" c
  | _ => none
def fIsi : MF := f2 fun x y s => match y with
  | .ty c => match isiM x c with
    | some k => .ok (.bl k) s
    | none => .bad
  | _ => .bad
theorem isiM_ok {mp : List Addr} {H : Hp} {x : MV} {v : V} {c : String} {k : Bool} (r : RepV K mp H x v) (q : isiM x c = some k) : ∃ t, TyX K H v (.type t) ∧ kitB t c = some k := by
  cases x with
  | non => cases r; exact ⟨_, .base .non, isiB_ok q⟩
  | bl b => cases r; exact ⟨_, .base (.bl b), isiB_ok q⟩
  | int i => cases r; exact ⟨_, .base (.int i), isiB_ok q⟩
  | str z => cases r; exact ⟨_, .base (.str _), isiB_ok q⟩
  | ty n => cases q
  | ref n => cases q
  | tup ys =>
    obtain ⟨p, ws, rfl, t, g⟩ := r
    rcases t with ⟨o, t, _⟩ | ⟨o, its, n, hk, hc, _⟩
    · exact ⟨_, .fTuple t, isiB_ok q⟩
    · exact ⟨_, .kTuple hk hc, isiB_ok q⟩
  | lis ys =>
    obtain ⟨p, ws, rfl, t, g⟩ := r
    rcases t with ⟨o, t⟩ | ⟨o, its, n, hk, hc, _⟩
    · exact ⟨_, .base (.frz t), isiB_ok q⟩
    · exact ⟨_, .kList hk hc, isiB_ok q⟩
theorem rg_isi : RRn K T fIsi (rIsi K) := rg_f2 fun mp H st x y v w W Q S r1 r2 P => by
  cases y with
  | ty c =>
    cases r2
    simp only at P
    cases q : isiM x c with
    | none => rw [q] at P; exact P.elim
    | some k =>
      rw [q] at P
      obtain ⟨t, h1, h2⟩ := isiM_ok r1 q
      exact ⟨v, .ty c, _, _, k, rfl, .ty c, h1, kit_ty h2, Post.here P S rfl⟩
  | _ => exact P.elim
end
end MP

set_option Elab.async false
set_option linter.all false
set_option maxRecDepth 100000
set_option maxHeartbeats 2000000
/-! MP: statements, stores, loops, defs. -/
namespace MP
open PySem PySem.Spec PyProof.Rows L2

inductive SRes where
  | nx (ρ : Loc) (s : Sto) | rt (a : MV) (s : Sto) | bk (ρ : Loc) (s : Sto) | ct (ρ : Loc) (s : Sto) | exc (x : Exn) (ρ : Loc) (s : Sto) | bad
abbrev MS := Loc → Sto → SRes
@[inline] def Res.st {α : Type} (r : Res α) (ρ : Loc) (f : α → Sto → SRes) : SRes := match r with
  | .ok a s => f a s
  | .exc x s => .exc x ρ s
  | .bad => .bad
@[inline] def SRes.seq (r : SRes) (f : Loc → Sto → SRes) : SRes := match r with
  | .nx ρ s => f ρ s
  | .rt a s => .rt a s
  | .bk ρ s => .bk ρ s
  | .ct ρ s => .ct ρ s
  | .exc x ρ s => .exc x ρ s
  | .bad => .bad
def SPost (K : PySem.W.Frag) (T : Tb) (mp : List Addr) (H : Hp) (W : WX) (D : Ends) : SRes → Prop
  | .nx ρ st => ∀ mp' σ' H', Ext mp mp' H H' → RelL K mp' H' ρ σ' → RelS K T mp' st H' → D.nx σ' H'
  | .bk ρ st => ∀ mp' σ' H', Ext mp mp' H H' → RelL K mp' H' ρ σ' → RelS K T mp' st H' → D.bk σ' H'
  | .ct ρ st => ∀ mp' σ' H', Ext mp mp' H H' → RelL K mp' H' ρ σ' → RelS K T mp' st H' → D.ct σ' H'
  | .rt a st => ∀ mp' v H', Ext mp mp' H H' → RelS K T mp' st H' → RepV K mp' H' a v → D.rt v H'
  | .exc x ρ st => ∀ mp' σ' H' cls d, Ext mp mp' H H' → RelL K mp' H' ρ σ' → RelS K T mp' st H' → ExRep K T mp' H' x cls d → W cls d σ' H'
  | .bad => False
section
variable {K : PySem.W.Frag} {T : Tb} {mp mp' : List Addr} {H H' : Hp} {W : WX} {D : Ends} {γ δ : Type} {rep' : List Addr → Hp → γ → δ → Prop} {ρ : Loc} {σ : L2.St}
theorem SPost.from {r : SRes} (h : SPost K T mp H W D r) (e : Ext mp mp' H H') : SPost K T mp' H' W D r := by
  cases r with
  | nx ρ st => exact fun m s G e' => h m s G (e.trans e')
  | bk ρ st => exact fun m s G e' => h m s G (e.trans e')
  | ct ρ st => exact fun m s G e' => h m s G (e.trans e')
  | rt a st => exact fun m v G e' => h m v G (e.trans e')
  | exc x ρ st => exact fun m s G c d e' => h m s G c d (e.trans e')
  | bad => exact h
theorem SPost.bnd {r : Res γ} {f : γ → Sto → SRes} {Qa : δ → Hp → Prop} (h : SPost K T mp H W D (r.st ρ f)) (L : RelL K mp H ρ σ)
    (hk : ∀ a st1 mp1 x H1, Ext mp mp1 H H1 → RelS K T mp1 st1 H1 → rep' mp1 H1 a x → SPost K T mp1 H1 W D (f a st1) → Qa x H1) : Post K T rep' mp H (fun c d H' => W c d σ H') r Qa := by
  cases r with
  | ok a st => exact fun m x G e r q => hk a st m x G e r q (SPost.from (show SPost K T mp H W D (f a st) from h) e)
  | exc x st => exact fun m G c d e r q => (show SPost K T mp H W D (.exc x ρ st) from h) m σ G c d e (L.mono e) r q
  | bad => exact h
theorem SPost.nx {ρ : Loc} {st : Sto} (h : SPost K T mp H W D (.nx ρ st)) (L : RelL K mp H ρ σ) (S : RelS K T mp st H) : D.nx σ H := h mp σ H .refl L S
end
def tS (K : PySem.W.Frag) (T : Tb) (W : WX) (m : MS) : TS := fun D σ H => ∃ mp ρ st, RelL K mp H ρ σ ∧ RelS K T mp st H ∧ SPost K T mp H W D (m ρ st)
def RS (T : Tb) (X : Cx) (W : WX) (s : Stmt) (m : MS) : Prop := PS X s (tS X.K T W m)
def RSs (T : Tb) (X : Cx) (W : WX) (s : List Stmt) (m : MS) : Prop := PSs X s (tS X.K T W m)
theorem PS.imp {X : Cx} {e : Stmt} {t t' : TS} (h : PS X e t) (i : ∀ D σ H, t' D σ H → t D σ H) : PS X e t' := ⟨fun p s σ H Q I q => h.run p s σ H Q I (i Q σ H q)⟩
theorem PSs.imp {X : Cx} {e : List Stmt} {t t' : TS} (h : PSs X e t) (i : ∀ D σ H, t' D σ H → t D σ H) : PSs X e t' := ⟨fun p s σ H Q I q => h.run p s σ H Q I (i Q σ H q)⟩
theorem PS.or {X : Cx} {e : Stmt} {t t' : TS} (h : PS X e t) (h' : PS X e t') : PS X e (fun D σ H => t D σ H ∨ t' D σ H) := ⟨fun p s σ H Q I q => q.elim (h.run p s σ H Q I) (h'.run p s σ H Q I)⟩
section
variable {T : Tb} {X : Cx} {W : WX} {st : Stmt} {rest : List Stmt} {m m' : MS} {e a b c o i : Expr} {me ma mb mo mi : ME} {pos : Pos}
def sNil : MS := fun ρ s => .nx ρ s
def sSeq (a b : MS) : MS := fun ρ s => (a ρ s).seq b
theorem rss_nil : RSs T X W [] sNil := PSs.imp pss_nil fun D σ H ⟨mp, ρ, st, L, S, P⟩ => SPost.nx P L S
theorem seq_in {D : Ends} {σ : L2.St} {H : Hp} {t : TS} (ht : ∀ D σ H, tS X.K T W m D σ H → t D σ H) (h : tS X.K T W (sSeq m m') D σ H) : t { D with nx := tS X.K T W m' D } σ H := by
  obtain ⟨mp, ρ, st, L, S, P⟩ := h
  refine ht _ σ H ⟨mp, ρ, st, L, S, ?_⟩
  unfold sSeq at P
  cases e : m ρ st with
  | nx ρ' st' => rw [e] at P; exact fun mp' σ' H' e L' S' => ⟨mp', ρ', st', L', S', SPost.from P e⟩
  | rt a st' => rw [e] at P; exact P
  | bk ρ' st' => rw [e] at P; exact P
  | ct ρ' st' => rw [e] at P; exact P
  | exc x ρ' st' => rw [e] at P; exact P
  | bad => rw [e] at P; exact P
theorem rss_cons (h1 : RS T X W st m) (h2 : RSs T X W rest m') : RSs T X W (st :: rest) (sSeq m m') := PSs.imp (pss_cons h1 h2) fun D σ H h => seq_in (t := tS X.K T W m) (fun _ _ _ x => x) h
theorem rss_one (h1 : RS T X W st m) : RSs T X W [st] m := pss_one h1
def sRet (a : ME) : MS := fun ρ s => (a ρ s).st ρ fun x s => .rt x s
theorem rs_ret (he : RE T X W e me) : RS T X W (.Return (some e) pos) (sRet me) :=
  PS.imp (ps_ret he) fun D σ H ⟨mp, ρ, st, L, S, P⟩ => ⟨mp, ρ, st, L, S, SPost.bnd P L fun x1 st1 mp1 x H1 e1 S1 r1 P1 => P1 mp1 x H1 .refl S1 r1⟩
def sRetN : MS := fun _ s => .rt .non s
theorem rs_retN : RS T X W (.Return none pos) sRetN := PS.imp ps_retN fun D σ H ⟨mp, ρ, st, L, S, P⟩ => P mp .non H .refl S rfl
def sExpr (a : ME) : MS := fun ρ s => (a ρ s).st ρ fun _ s => .nx ρ s
theorem rs_expr (he : RE T X W e me) (hs : swapsWith e none pos.line X.env = pure false := by rfl) : RS T X W (.Expr e pos) (sExpr me) :=
  PS.imp (ps_expr he hs) fun D σ H ⟨mp, ρ, st, L, S, P⟩ => ⟨mp, ρ, st, L, S, SPost.bnd P L fun x1 st1 mp1 x H1 e1 S1 r1 P1 => SPost.nx P1 (L.mono e1) S1⟩
theorem rs_pass : RS T X W (.Pass pos) sNil := PS.imp ps_pass fun D σ H ⟨mp, ρ, st, L, S, P⟩ => SPost.nx P L S
def sBk : MS := fun ρ s => .bk ρ s
def sCt : MS := fun ρ s => .ct ρ s
theorem rs_break : RS T X W (.Break pos) sBk := PS.imp ps_break fun D σ H ⟨mp, ρ, st, L, S, P⟩ => P mp σ H .refl L S
theorem rs_continue : RS T X W (.Continue pos) sCt := PS.imp ps_continue fun D σ H ⟨mp, ρ, st, L, S, P⟩ => P mp σ H .refl L S
def sIf (t : MT) (a b : MS) : MS := fun ρ s => (t ρ s).st ρ fun k s => match k with
  | true => a ρ s
  | false => b ρ s
theorem rs_if {t : MT} {bs cs : List Stmt} (hc : RT T X W c t) (ha : RSs T X W bs m) (hb : RSs T X W cs m') : RS T X W (.If c bs cs pos) (sIf t m m') := by
  refine PS.imp (ps_if hc ha hb) fun D σ H ⟨mp, ρ, st, L, S, P⟩ => ⟨mp, ρ, st, L, S, SPost.bnd P L fun k st1 mp1 x H1 e1 S1 r1 P1 => ?_⟩
  have r1 : k = x := r1
  subst r1
  cases k with
  | true => rw [if_pos rfl]; exact ⟨mp1, ρ, st1, L.mono e1, S1, P1⟩
  | false => rw [if_neg Bool.false_ne_true]; exact ⟨mp1, ρ, st1, L.mono e1, S1, P1⟩

/-! ### targets -/
abbrev MG := MV → Loc → Sto → SRes
abbrev MGs := List MV → Loc → Sto → SRes
/-- σ' is σ but for the slots is -/
structure SameOut (is : List Nat) (σ σ' : L2.St) : Prop where
  len : σ'.length = σ.length
  at_ : ∀ j, j ∉ is → σ'[j]? = σ[j]?
theorem SameOut.refl {is : List Nat} {σ : L2.St} : SameOut is σ σ := ⟨rfl, fun _ _ => rfl⟩
theorem SameOut.trans {is js : List Nat} {σ σ1 σ2 : L2.St} (a : SameOut is σ σ1) (b : SameOut js σ1 σ2) : SameOut (is ++ js) σ σ2 :=
  ⟨b.len.trans a.len, fun j h => (b.at_ j fun z => h (List.mem_append_right _ z)).trans (a.at_ j fun z => h (List.mem_append_left _ z))⟩
theorem SameOut.set {i : Nat} {σ : L2.St} {o : Option V} : SameOut [i] σ (σ.set i o) := ⟨List.length_set, fun j h => by rw [List.getElem?_set_ne fun z => h (by simp [z])]⟩
def endG (is : List Nat) (σ : L2.St) (Q : L2.St → Hp → Prop) : Ends := { nx := fun σ' H' => SameOut is σ σ' → Q σ' H', rt := fun _ _ => False }
theorem SPost.imp {K : PySem.W.Frag} {mp : List Addr} {H : Hp} {W : WX} {D D' : Ends} {r : SRes} (h : SPost K T mp H W D r) (h1 : ∀ σ H, D.nx σ H → D'.nx σ H) (h2 : ∀ v H, D.rt v H → D'.rt v H) (h3 : ∀ σ H, D.bk σ H → D'.bk σ H) (h4 : ∀ σ H, D.ct σ H → D'.ct σ H) : SPost K T mp H W D' r := by
  cases r with
  | nx ρ st => exact fun m s G e L S => h1 _ _ (h m s G e L S)
  | bk ρ st => exact fun m s G e L S => h3 _ _ (h m s G e L S)
  | ct ρ st => exact fun m s G e L S => h4 _ _ (h m s G e L S)
  | rt a st => exact fun m v G e L S => h2 _ _ (h m v G e L S)
  | exc x ρ st => exact h
  | bad => exact h
def tGm (K : PySem.W.Frag) (T : Tb) (W : WX) (is : List Nat) (g : MG) : TG := fun v σ H Q => ∃ mp ρ st x, RelL K mp H ρ σ ∧ RelS K T mp st H ∧ RepV K mp H x v ∧ SPost K T mp H W (endG is σ Q) (g x ρ st)
def tGms (K : PySem.W.Frag) (T : Tb) (W : WX) (is : List Nat) (g : MGs) : TGs := fun vs σ H Q => ∃ mp ρ st xs, RelL K mp H ρ σ ∧ RelS K T mp st H ∧ RepVs K mp H xs vs ∧ SPost K T mp H W (endG is σ Q) (g xs ρ st)
def RG (T : Tb) (X : Cx) (W : WX) (is : List Nat) (e : Expr) (g : MG) : Prop := PG X e (tGm X.K T W is g)
def RGs (T : Tb) (X : Cx) (W : WX) (is : List Nat) (e : List Expr) (g : MGs) : Prop := PGs X e (tGms X.K T W is g)
theorem PG.imp {e : Expr} {t t' : TG} (h : PG X e t) (i : ∀ v σ H Q, t' v σ H Q → t v σ H Q) : PG X e t' := ⟨fun p s σ H v u Q I r q => h.run p s σ H v u Q I r (i v σ H Q q)⟩
theorem PG.or {e : Expr} {t t' : TG} (h : PG X e t) (h' : PG X e t') : PG X e (fun v σ H Q => t v σ H Q ∨ t' v σ H Q) := ⟨fun p s σ H v u Q I r q => q.elim (h.run p s σ H v u Q I r) (h'.run p s σ H v u Q I r)⟩
theorem PGs.imp {e : List Expr} {t t' : TGs} (h : PGs X e t) (i : ∀ v σ H Q, t' v σ H Q → t v σ H Q) : PGs X e t' := ⟨fun p s σ H v u Q I r q => h.run p s σ H v u Q I r (i v σ H Q q)⟩
def gN (i : Nat) : MG := fun x ρ s => .nx (ρ.set i (some x)) s
theorem rg_name (i : Nat) {x : Str} (hN : X.N.Nodup) (hi : X.N[i]? = some x := by rfl) (hx : L2.Loc X.env.scope x := by first | exact Or.inl rfl | exact Or.inr rfl) (hf : X.fn x = true ∨ X.env.scope.names.lookup x = some .local := by first | exact .inl rfl | exact .inr rfl | assumption) : RG T X W [i] (.Name x pos) (gN i) :=
  PG.imp (pg_name hN hi hx hf) fun v σ H Q ⟨mp, ρ, st, x, L, S, r, P⟩ => P mp _ H .refl (L.set r) S .set
def gsNil : MGs := fun xs ρ s => match xs with
  | [] => .nx ρ s
  | _ => .bad
def gsCons (g : MG) (gs : MGs) : MGs := fun xs ρ s => match xs with
  | x :: xs => (g x ρ s).seq fun ρ s => gs xs ρ s
  | [] => .bad
def nxOnly : SRes → SRes
  | .nx ρ s => .nx ρ s
  | .exc x ρ s => .exc x ρ s
  | _ => .bad
theorem rgs_nil : RGs T X W [] [] gsNil := PGs.imp pgs_nil fun vs σ H Q ⟨mp, ρ, st, xs, L, S, r, P⟩ => by
  cases xs with
  | nil => exact ⟨r, P mp σ H .refl L S .refl⟩
  | cons _ _ => exact P.elim
theorem rgs_cons {e : Expr} {es : List Expr} {is js : List Nat} {g : MG} {gs : MGs} (h1 : RG T X W is e g) (h2 : RGs T X W js es gs) (hs : (assignEach (e :: es) X.env).map (·.2) = assign e X.env :: (assignEach es X.env).map (·.2) := by rfl) : RGs T X W (is ++ js) (e :: es) (gsCons g gs) := by
  refine PGs.imp (pgs_cons h1 h2 hs) fun vs σ H Q ⟨mp, ρ, st, xs, L, S, r, P⟩ => ?_
  cases xs with
  | nil => exact P.elim
  | cons x xs =>
    obtain ⟨v, r', e, r1, r2⟩ := r
    refine ⟨v, r', e, mp, ρ, st, x, L, S, r1, ?_⟩
    have P : SPost X.K T mp H W (endG (is ++ js) σ Q) ((g x ρ st).seq fun ρ s => gs xs ρ s) := P
    cases q : g x ρ st with
    | nx ρ' st' =>
      rw [q] at P
      exact fun mp' σ' H' e' L' S' so => ⟨mp', ρ', st', xs, L', S', r2.mono e', SPost.imp (SPost.from P e') (fun _ _ hq z => hq (so.trans z)) (fun _ _ z => z) (fun _ _ z => z) fun _ _ z => z⟩
    | rt a st' => rw [q] at P; exact P
    | bk ρ' st' => rw [q] at P; exact fun mp' σ' H' e' L' S' => (P mp' σ' H' e' L' S').elim
    | ct ρ' st' => rw [q] at P; exact fun mp' σ' H' e' L' S' => (P mp' σ' H' e' L' S').elim
    | exc x ρ' st' => rw [q] at P; exact P
    | bad => rw [q] at P; exact P
def gTupM (gs : MGs) : MG := fun x ρ s => match x with
  | .tup xs => gs xs ρ s
  | _ => .bad
theorem rg_tupM {es : List Expr} {k : Nat} {is : List Nat} {gs : MGs} (hc : X.calm = true) (h : RGs T X W is es gs) (hz : ∀ xs ρ s, xs.length ≠ es.length → gs xs ρ s = .bad) (hst : (assignEach es X.env).findIdx? (·.1) = none := by rfl) (hn : (assignEach es X.env).length = es.length := by rfl) : RG T X W is (.Tuple es k pos) (gTupM gs) := by
  refine PG.imp (pg_tup hc h hn hst) fun v σ H Q ⟨mp, ρ, st, x, L, S, r, P⟩ => ?_
  cases x with
  | tup xs =>
    obtain ⟨p, vs, rfl, t, g⟩ := r
    have P : SPost X.K T mp H W (endG is σ Q) (gs xs ρ st) := P
    by_cases hl : xs.length = es.length
    · exact ⟨p, vs, rfl, t.seq, g.length.trans hl, mp, ρ, st, xs, L, S, g, P⟩
    · rw [hz xs ρ st hl] at P; exact P.elim
  | _ => exact P.elim
theorem gsNil_len : ∀ xs ρ s, xs.length ≠ ([] : List Expr).length → gsNil xs ρ s = .bad := fun xs ρ s h => by
  cases xs with
  | nil => exact absurd rfl h
  | cons _ _ => rfl
theorem gsCons_len {e : Expr} {es : List Expr} {g : MG} {gs : MGs} (hg : ∀ x ρ s, ∃ ρ' s', g x ρ s = .nx ρ' s') (h : ∀ xs ρ s, xs.length ≠ es.length → gs xs ρ s = .bad) : ∀ xs ρ s, xs.length ≠ (e :: es).length → gsCons g gs xs ρ s = .bad := fun xs ρ s hl => by
  cases xs with
  | nil => rfl
  | cons x xs =>
    obtain ⟨ρ', s', q⟩ := hg x ρ s
    show (g x ρ s).seq _ = _
    rw [q]
    exact h xs ρ' s' (fun z => hl (by rw [List.length_cons, List.length_cons, z]))
theorem gN_nx (i : Nat) : ∀ x ρ s, ∃ ρ' s', gN i x ρ s = .nx ρ' s' := fun _ _ _ => ⟨_, _, rfl⟩
/-- x = e -/
def sSet (i : Nat) (a : ME) : MS := fun ρ s => (a ρ s).st ρ fun x s => .nx (ρ.set i (some x)) s
theorem rs_set (i : Nat) {x : Str} {pos' : Pos} (hN : X.N.Nodup) (he : RE T X W e me) (hi : X.N[i]? = some x := by rfl) (hx : L2.Loc X.env.scope x := by first | exact Or.inl rfl | exact Or.inr rfl) (hs : swapsWith e (some (.Name x pos')) pos.line X.env = pure false := by rfl) (hf : X.fn x = true ∨ X.env.scope.names.lookup x = some .local := by first | exact .inl rfl | exact .inr rfl | assumption) :
    RS T X W (.Assign [.Name x pos'] e pos) (sSet i me) :=
  PS.imp (ps_set hN hi hx he hs hf) fun D σ H ⟨mp, ρ, st, L, S, P⟩ => ⟨mp, ρ, st, L, S, SPost.bnd P L fun x1 st1 mp1 x H1 e1 S1 r1 P1 => SPost.nx P1 ((L.mono e1).set r1) S1⟩
/-- target = e -/
def sAsg (g : MG) (a : ME) : MS := fun ρ s => (a ρ s).st ρ fun x s => nxOnly (g x ρ s)
theorem nxOnly_post {K : PySem.W.Frag} {mp : List Addr} {H : Hp} {W : WX} {D : Ends} {r : SRes} {is : List Nat} {σ : L2.St} (h : SPost K T mp H W D (nxOnly r)) : SPost K T mp H W (endG is σ D.nx) r := by
  cases r with
  | nx ρ st => exact fun m s G e L S _ => h m s G e L S
  | exc x ρ st => exact h
  | _ => exact h.elim
theorem rs_asg {tg : Expr} {g : MG} {is : List Nat} (he : RE T X W e me) (hg : RG T X W is tg g) (hs : swapsWithSole [tg] e pos.line X.env = pure false := by rfl) (hw : swappedStores [tg] e X.env = pure none := by rfl)
    (h1 : (assignEach [tg] X.env).map (·.2) = [assign tg X.env] := by rfl) : RS T X W (.Assign [tg] e pos) (sAsg g me) :=
  PS.imp (ps_asg he hg hs hw h1) fun D σ H ⟨mp, ρ, st, L, S, P⟩ => ⟨mp, ρ, st, L, S, SPost.bnd P L fun x1 st1 mp1 x H1 e1 S1 r1 P1 => ⟨mp1, ρ, st1, x1, L.mono e1, S1, r1, nxOnly_post P1⟩⟩
/-- a, b = e1, e2, plain locals -/
def sPar (i j : Nat) (r : MA) : MS := fun ρ s => (r ρ s).st ρ fun xs s => match xs with
  | [x, y] => .nx ((ρ.set i (some x)).set j (some y)) s
  | _ => .bad
theorem rs_par (i j : Nat) {x y : Str} {mr : MA} {px py pt : Pos} {kt k2 pt2} (hc : X.calm = true) (hN : X.N.Nodup) (ha : RA T X W [a, b] mr) (hi : X.N[i]? = some x := by rfl) (hj : X.N[j]? = some y := by rfl) (hij : i ≠ j := by decide)
    (hx : X.env.scope.names.lookup x = some .local := by rfl) (hy : X.env.scope.names.lookup y = some .local := by rfl)
    (hw : swappedStores [.Tuple [.Name x px, .Name y py] kt pt] (.Tuple [a, b] k2 pt2) X.env = pure (some [x, y]) := by rfl)
    (hs : swapsWithSole [.Tuple [.Name x px, .Name y py] kt pt] (.Tuple [a, b] k2 pt2) pos.line X.env = pure false := by rfl) : RS T X W (.Assign [.Tuple [.Name x px, .Name y py] kt pt] (.Tuple [a, b] k2 pt2) pos) (sPar i j mr) := by
  refine PS.imp (ps_par hc hN hi hj hij hx hy ha.pa hw hs) fun D σ H ⟨mp, ρ, st, L, S, P⟩ => ⟨mp, ρ, st, L, S, SPost.bnd P L fun xs st1 mp1 vs H1 e1 S1 r1 P1 => ?_⟩
  match xs, r1, P1 with
  | [x, y], ⟨v, r, e, h1, w, r2, e2, h2, h3⟩, P1 =>
    have h3 : r2 = [] := h3
    subst h3 e2 e
    exact ⟨v, w, rfl, SPost.nx P1 (((L.mono e1).set h1).set h2) S1⟩

/-! ### stores -/
def putM {α : Type} [DecidableEq α] (kvs : List (α × MV)) (k : α) (v : MV) : List (α × MV) :=
  if (kvs.any fun kv => decide (kv.1 = k)) = true then kvs.map (fun kv => if kv.1 = k then (kv.1, v) else kv) else kvs ++ [(k, v)]
theorem pair_put {K : PySem.W.Frag} {α β : Type} [DecidableEq α] [DecidableEq β] {mp : List Addr} {H : Hp} {f : α → β} (inj : ∀ a b, f a = f b → a = b) {kvs : List (α × MV)} {kv' : List (β × V)} (h : PairRep K mp H f kvs kv') {k : α} {x : MV} {v : V} (r : RepV K mp H x v) :
    PairRep K mp H f (putM kvs k x) (putK kv' (f k) v) := by
  have hany : (kvs.any fun kv => decide (kv.1 = k)) = (kv'.any fun kv => decide (kv.1 = f k)) := by
    unfold PairRep at h
    induction h with
    | nil => rfl
    | @cons p q ps qs hpq ht ih =>
      rw [List.any_cons, List.any_cons, ih, hpq.1]
      have e : decide (p.1 = k) = decide (f p.1 = f k) := by
        by_cases z : p.1 = k
        · rw [z]; simp
        · rw [decide_eq_false z, decide_eq_false fun y => z (inj _ _ y)]
      rw [e]
  unfold putM putK
  rw [hany]
  by_cases hk : (kv'.any fun kv => decide (kv.1 = f k)) = true
  · rw [if_pos hk, if_pos hk]
    clear hany hk
    unfold PairRep at h ⊢
    induction h with
    | nil => exact .nil
    | @cons p q ps qs hpq ht ih =>
      rw [List.map_cons, List.map_cons]
      refine .cons ?_ ih
      by_cases z : p.1 = k
      · rw [if_pos z, if_pos (by rw [hpq.1, z])]; exact ⟨hpq.1, r⟩
      · rw [if_neg z, if_neg fun y => z (inj _ _ (hpq.1.symm.trans y))]; exact hpq
  · rw [if_neg hk, if_neg hk]
    clear hany hk
    unfold PairRep at h ⊢
    induction h with
    | nil => exact .cons ⟨rfl, r⟩ .nil
    | cons hpq ht ih => exact .cons hpq ih
/-- o[i] = x: a list's place, a dict's key -/
def setL (o i x : MV) (s : Sto) : Option Sto := match o, i with
  | .ref n, .int k => match s[n]? with
    | some (.lst xs) => (ixN xs.length k).map fun j => s.set n (.lst (xs.set j x))
    | _ => none
  | _, _ => none
def setD (o i x : MV) (s : Sto) : Option Sto := match o, i.mk with
  | .ref n, some k => match s[n]? with
    | some (.dic kvs) => if kvs.length ≤ 1000000 then some (s.set n (.dic (putM kvs k x))) else none
    | _ => none
  | _, _ => none
def setM (o i x : MV) (s : Sto) : Option Sto := match setL o i x s with
  | some s' => some s'
  | none => setD o i x s
theorem setL_ok {K : PySem.W.Frag} {mp : List Addr} {H : Hp} {st st' : Sto} {o i x : MV} {vo vi v : V} (S : RelS K T mp st H) (ro : RepV K mp H o vo) (ri : RepV K mp H i vi) (rx : RepV K mp H x v) (h : setL o i x st = some st') :
    ∃ p xs k j, vo = .ref p ∧ vi = .int k ∧ H p = some (.lst xs) ∧ ixN xs.length k = some j ∧ Ext mp mp H (upd H p (.lst (xs.set j v))) ∧ RelS K T mp st' (upd H p (.lst (xs.set j v))) := by
  unfold setL at h
  split at h
  · rename_i n k
    cases ri
    obtain ⟨p, hp, rfl⟩ := ro
    split at h
    · rename_i xs e
      obtain ⟨vs, h1, g⟩ := S.cell n _ p e hp
      simp only [Option.map_eq_some_iff] at h
      obtain ⟨j, hj, rfl⟩ := h
      have ex : Ext mp mp H (upd H p (.lst (vs.set j v))) := Ext.wr (List.mem_of_getElem? hp) h1 rfl
      exact ⟨p, vs, k, j, rfl, rfl, h1, by rw [g.length]; exact hj, ex, S.wr hp ⟨_, upd_same, (g.set j rx).mono ex⟩⟩
    · cases h
  · cases h
theorem setD_ok {K : PySem.W.Frag} {mp : List Addr} {H : Hp} {st st' : Sto} {o i x : MV} {vo vi v : V} (S : RelS K T mp st H) (ro : RepV K mp H o vo) (ri : RepV K mp H i vi) (rx : RepV K mp H x v) (h : setD o i x st = some st') :
    ∃ p H', vo = .ref p ∧ DPut H p vi v H' ∧ Ext mp mp H H' ∧ RelS K T mp st' H' := by
  unfold setD at h
  split at h
  · rename_i n k hk
    obtain ⟨p, hp, rfl⟩ := ro
    have ey := mk_kV ri hk
    subst ey
    split at h
    · rename_i kvs e
      obtain ⟨kv', h1, g⟩ := S.cell n _ p e hp
      split at h
      · rename_i hl
        cases h
        have ex : Ext mp mp H (upd H p (.dK (putK kv' k.key v))) := Ext.wr (List.mem_of_getElem? hp) h1 rfl
        exact ⟨p, _, rfl, .inl ⟨kv', k.key, h1, rfl, by rw [PairRep.length g]; exact Nat.lt_of_le_of_lt hl (by decide), rfl⟩, ex, S.wr hp ⟨_, upd_same, (pair_put (fun _ _ => MK.key_inj) g rx).mono ex⟩⟩
      · cases h
    · cases h
  · cases h
def sSto (f : MV → MV → MV → Sto → Option Sto) (o i a : ME) : MS := fun ρ s => (a ρ s).st ρ fun x s => (o ρ s).st ρ fun y s => (i ρ s).st ρ fun z s => match f y z x s with
  | some s => .nx ρ s
  | none => .bad
theorem rs_sto {k : Nat} {pos' : Pos} (hr : Room k X.A) (hv : RE T X W e me) (ho : RE T X W o mo) (hi : RE T X W i mi) (hs : swapsWith e (some (.Subscript o i pos')) pos.line X.env = pure false := by rfl)
    (ha : ∀ v, assign (.Subscript o i pos') X.env v = (do
      let ov ← holding [v] (eval o X.env)
      let iv ← holding [v, ov] (eval i X.env)
      standAt pos'
      holding [v, ov, iv] (setItem ov iv v)
      release [v, ov, iv] []) := by intro _; rfl) (hs1 : swapsWithSole [.Subscript o i pos'] e pos.line X.env = pure false := by rfl) (hw : swappedStores [.Subscript o i pos'] e X.env = pure none := by rfl)
    (h1 : (assignEach [.Subscript o i pos'] X.env).map (·.2) = [assign (.Subscript o i pos') X.env] := by rfl) : RS T X W (.Assign [.Subscript o i pos'] e pos) (sSto setM mo mi me) := by
  have hL : RS T X W (.Assign [.Subscript o i pos'] e pos) (sSto setL mo mi me) := by
    refine PS.imp (ps_asg hv (pg_sub ho hi set_list ha) hs1 hw h1) fun D σ H ⟨mp, ρ, st, L, S, P⟩ => ⟨mp, ρ, st, L, S, SPost.bnd P L fun x1 st1 mp1 x H1 e1 S1 r1 P1 => ?_⟩
    refine ⟨mp1, ρ, st1, L.mono e1, S1, SPost.bnd P1 (L.mono e1) fun y1 st2 mp2 y H2 e2 S2 r2 P2 => ?_⟩
    refine ⟨mp2, ρ, st2, (L.mono e1).mono e2, S2, SPost.bnd P2 ((L.mono e1).mono e2) fun z1 st3 mp3 z H3 e3 S3 r3 P3 => ?_⟩
    cases q : setL y1 z1 x1 st3 with
    | none => rw [q] at P3; exact P3.elim
    | some s' =>
      rw [q] at P3
      obtain ⟨p, xs, k, j, h1, h2, h3, h4, ex, S4⟩ := setL_ok S3 (r2.mono e3) r3 ((r1.mono e2).mono e3) q
      exact ⟨p, xs, k, j, h1, h2, h3, h4, P3 mp3 σ _ ex ((((L.mono e1).mono e2).mono e3).mono ex) S4⟩
  have hD : RS T X W (.Assign [.Subscript o i pos'] e pos) (sSto setD mo mi me) := by
    refine PS.imp (ps_dput (hu_of hr) ho hi hv hs) fun D σ H ⟨mp, ρ, st, L, S, P⟩ => ⟨mp, ρ, st, L, S, SPost.bnd P L fun x1 st1 mp1 x H1 e1 S1 r1 P1 => ?_⟩
    refine ⟨mp1, ρ, st1, L.mono e1, S1, SPost.bnd P1 (L.mono e1) fun y1 st2 mp2 y H2 e2 S2 r2 P2 => ?_⟩
    refine ⟨mp2, ρ, st2, (L.mono e1).mono e2, S2, SPost.bnd P2 ((L.mono e1).mono e2) fun z1 st3 mp3 z H3 e3 S3 r3 P3 => ?_⟩
    cases q : setD y1 z1 x1 st3 with
    | none => rw [q] at P3; exact P3.elim
    | some s' =>
      rw [q] at P3
      obtain ⟨p, H4, h1, h2, ex, S4⟩ := setD_ok S3 (r2.mono e3) r3 ((r1.mono e2).mono e3) q
      exact ⟨p, H4, h1, h2, P3 mp3 σ _ ex ((((L.mono e1).mono e2).mono e3).mono ex) S4⟩
  refine PS.imp (PS.or hL hD) fun D σ H ⟨mp, ρ, st, L, S, P⟩ => ?_
  have key : sSto setM mo mi me ρ st = sSto setL mo mi me ρ st ∨ sSto setM mo mi me ρ st = sSto setD mo mi me ρ st := by
    unfold sSto
    cases me ρ st with
    | ok x s =>
      simp only [Res.st]
      cases mo ρ s with
      | ok y s =>
        simp only
        cases mi ρ s with
        | ok z s =>
          simp only [setM]
          cases setL y z x s with
          | some s => exact .inl rfl
          | none => exact .inr rfl
        | exc _ _ => exact .inl rfl
        | bad => exact .inl rfl
      | exc _ _ => exact .inl rfl
      | bad => exact .inl rfl
    | exc _ _ => exact .inl rfl
    | bad => exact .inl rfl
  rcases key with q | q
  · rw [q] at P; exact .inl ⟨mp, ρ, st, L, S, P⟩
  · rw [q] at P; exact .inr ⟨mp, ρ, st, L, S, P⟩

/-! ### raise -/
def sRaise (x : Exn) : MS := fun ρ s => .exc x ρ s
theorem rs_raise {c : String} {t : L2.St → Hp → XK → Prop} (hc : X.calm = true) (tk : Takes X W) (he : PMk X e t) (ht : ∀ σ H Q, Q (.ref (T.cls c)) none H → t σ H Q) : RS T X W (.Raise (some e) none pos) (sRaise ⟨c, []⟩) :=
  PS.imp (ps_raise hc tk he) fun D σ H ⟨mp, ρ, st, L, S, P⟩ => ht σ H _ (P mp σ H _ none .refl L S ⟨rfl, .inl ⟨rfl, rfl⟩⟩)
end

/-! ### defs -/
mutual
/-- no ref to a cell from n on -/
def MV.low (n : Nat) : MV → Bool
  | .ref m => decide (m < n)
  | .tup xs => MV.lows n xs
  | .lis xs => MV.lows n xs
  | .non => true
  | .bl _ => true
  | .int _ => true
  | .str _ => true
  | .ty _ => true
def MV.lows (n : Nat) : List MV → Bool
  | [] => true
  | x :: xs => x.low n && MV.lows n xs
end
def Cell.low (n : Nat) : Cell → Bool
  | .lst xs => MV.lows n xs
  | .dic kvs => kvs.all fun p => p.2.low n
  | .dit kvs => kvs.all fun p => p.2.low n
  | .ins _ fs => fs.all fun p => p.2.low n
  | .lck kvs => kvs.all fun p => p.2.low n
section
variable {K : PySem.W.Frag} {T : Tb} {mp l : List Addr} {H : Hp}
mutual
theorem RepV.lowK : ∀ {x : MV} {v : V}, x.low mp.length = true → RepV K (mp ++ l) H x v → RepV K mp H x v
  | .non, _, _, h => h
  | .bl _, _, _, h => h
  | .int _, _, _, h => h
  | .str _, _, _, h => h
  | .ty _, _, _, h => h
  | .ref n, _, p, ⟨b, g, q⟩ => by
    have p : n < mp.length := by simpa [MV.low] using p
    rw [List.getElem?_append_left p] at g
    exact ⟨b, g, q⟩
  | .tup xs, _, p, ⟨a, vs, q, t, g⟩ => ⟨a, vs, q, t, RepVs.lowK (by simpa [MV.low] using p) g⟩
  | .lis xs, _, p, ⟨a, vs, q, t, g⟩ => ⟨a, vs, q, t, RepVs.lowK (by simpa [MV.low] using p) g⟩
theorem RepVs.lowK : ∀ {xs : List MV} {vs : List V}, MV.lows mp.length xs = true → RepVs K (mp ++ l) H xs vs → RepVs K mp H xs vs
  | [], _, _, h => h
  | x :: xs, _, p, ⟨v, r, q, h, g⟩ => by
    simp only [MV.lows, Bool.and_eq_true] at p
    exact ⟨v, r, q, RepV.lowK p.1 h, RepVs.lowK p.2 g⟩
end
theorem PairRep.lowK {α β : Type} {f : α → β} {kvs : List (α × MV)} {kv' : List (β × V)} (p : (kvs.all fun q => q.2.low mp.length) = true) (h : PairRep K (mp ++ l) H f kvs kv') : PairRep K mp H f kvs kv' := by
  unfold PairRep at h ⊢
  induction h with
  | nil => exact .nil
  | cons hh _ ih =>
    rw [List.all_cons, Bool.and_eq_true] at p
    exact .cons ⟨hh.1, hh.2.lowK p.1⟩ (ih p.2)
theorem CellRep.lowK {a : Addr} {c : Cell} (p : c.low mp.length = true) (h : CellRep K T (mp ++ l) H a c) : CellRep K T mp H a c := by
  cases c with
  | lst xs => obtain ⟨vs, h1, h2⟩ := h; exact ⟨vs, h1, h2.lowK p⟩
  | dic xs => obtain ⟨vs, h1, h2⟩ := h; exact ⟨vs, h1, h2.lowK p⟩
  | dit xs => obtain ⟨vs, h1, h2⟩ := h; exact ⟨vs, h1, h2.lowK p⟩
  | ins c xs => obtain ⟨dx, vs, h1, h2⟩ := h; exact ⟨dx, vs, h1, h2.lowK p⟩
  | lck xs => obtain ⟨o, vs, h1, h2⟩ := h; exact ⟨o, vs, h1, h2.lowK p⟩
theorem RelS.lowK {st : Sto} (h : RelS K T (mp ++ l) st H) (p : ∀ c ∈ st.take mp.length, c.low mp.length = true) : RelS K T mp (st.take mp.length) H := by
  have hl : mp.length ≤ st.length := by rw [← h.len, List.length_append]; omega
  refine ⟨by rw [List.length_take]; omega, (List.nodup_append.mp h.nd).1, fun n c a h1 h2 => ?_, h.tabs⟩
  have hn : n < mp.length := (List.getElem?_eq_some_iff.mp h2).1
  have h3 : st[n]? = some c := by rw [List.getElem?_take_of_lt hn] at h1; exact h1
  exact CellRep.lowK (p c (List.mem_of_getElem? h1)) (h.cell n c a h3 (by rw [List.getElem?_append_left hn]; exact h2))
end
open Classical in
/-- garbage is dropped where nothing points to it -/
noncomputable def fin (s s' : Sto) (a : MV) : Res MV := if a.pure = true ∧ s'.take s.length = s then .ok a s else if a.low s.length = true ∧ ∀ c ∈ s'.take s.length, c.low s.length = true then .ok a (s'.take s.length) else .ok a s'
open Classical in
noncomputable def finX (s s' : Sto) (x : Exn) : Res MV := if x.fs = [] ∧ s'.take s.length = s then .exc x s else if x.fs = [] ∧ ∀ c ∈ s'.take s.length, c.low s.length = true then .exc x (s'.take s.length) else .exc x s'
noncomputable def runB (n : Nat) (b : MS) : MF := fun xs s => match b (xs.map some ++ List.replicate (n - xs.length) none) s with
  | .rt a s' => fin s s' a
  | .nx _ s' => fin s s' .non
  | .exc x _ s' => finX s s' x
  | _ => .bad
theorem relL_start {K : PySem.W.Frag} {mp : List Addr} {H : Hp} {N : List Str} {xs : List MV} {vs : List V} (h : RepVs K mp H xs vs) : RelL K mp H (xs.map some ++ List.replicate (N.length - xs.length) none) (L2.start N vs) := by
  have hl := h.length
  refine ⟨by unfold L2.start; simp [hl], fun i x e => ?_⟩
  by_cases hi : i < xs.length
  · rw [List.getElem?_append_left (by simpa using hi), List.getElem?_map] at e
    cases q : xs[i]? with
    | none => rw [q] at e; cases e
    | some y =>
      rw [q] at e
      cases e
      obtain ⟨v, h1, h2⟩ := h.get q
      refine ⟨v, ?_, h2⟩
      unfold L2.start
      rw [List.getElem?_append_left (by rw [List.length_map]; omega), List.getElem?_map, h1] <;> rfl
  · rw [List.getElem?_append_right (by simpa using hi), List.getElem?_replicate] at e
    split at e <;> cases e
theorem fin_post {K : PySem.W.Frag} {T : Tb} {mp mp' : List Addr} {H H' : Hp} {st st' : Sto} {E : XK} {a : MV} {v : V} {Q : VK} (S : RelS K T mp st H) (h : Post K T (RepV K) mp H E (fin st st' a) Q) (e : Ext mp mp' H H') (S' : RelS K T mp' st' H') (r : RepV K mp' H' a v) : Q v H' := by
  classical
  unfold fin at h
  split at h
  · rename_i hc
    obtain ⟨l, rfl⟩ := e.pre
    exact h mp v H' ⟨⟨⟨[], by simp⟩, e.tup, e.frl⟩, e.ext, e.tbl, fun _ z => .inl z, e.keep⟩ (S.cut S' hc.2) (RepV.any mp hc.1 r)
  · split at h
    · rename_i hc
      obtain ⟨l, rfl⟩ := e.pre
      rw [← S.len] at h hc
      exact h mp v H' ⟨⟨⟨[], by simp⟩, e.tup, e.frl⟩, e.ext, e.tbl, fun _ z => .inl z, e.keep⟩ (S'.lowK hc.2) (r.lowK hc.1)
    · exact h mp' v H' e S' r
theorem finX_post {K : PySem.W.Frag} {T : Tb} {mp mp' : List Addr} {H H' : Hp} {st st' : Sto} {E : XK} {x : Exn} {cls : Value} {d : Option Addr} {Q : VK} (S : RelS K T mp st H) (h : Post K T (RepV K) mp H E (finX st st' x) Q) (e : Ext mp mp' H H') (S' : RelS K T mp' st' H') (r : ExRep K T mp' H' x cls d) : E cls d H' := by
  classical
  unfold finX at h
  split at h
  · rename_i hc
    obtain ⟨l, rfl⟩ := e.pre
    refine h mp H' cls d ⟨⟨⟨[], by simp⟩, e.tup, e.frl⟩, e.ext, e.tbl, fun _ z => .inl z, e.keep⟩ (S.cut S' hc.2) ⟨r.1, ?_⟩
    rcases r.2 with q | ⟨q0, a, fs, q1, q2, q3⟩
    · exact .inl q
    · exact absurd hc.1 q0
  · split at h
    · rename_i hc
      obtain ⟨l, rfl⟩ := e.pre
      rw [← S.len] at h hc
      refine h mp H' cls d ⟨⟨⟨[], by simp⟩, e.tup, e.frl⟩, e.ext, e.tbl, fun _ z => .inl z, e.keep⟩ (S'.lowK hc.2) ⟨r.1, ?_⟩
      rcases r.2 with q | ⟨q0, a, fs, q1, q2, q3⟩
      · exact .inl q
      · exact absurd hc.1 q0
    · exact h mp' H' cls d e S' r
/-- a def keeps its promise by its body's monadic form -/
theorem fn_mk {P : Program} {w : World} {K : PySem.W.Frag} {mg : Str → Option Value} {base : Heap} {T : Tb} {x qual : Str} {params : Arguments} {body : List Stmt} {scope : Scope} {dvs : List V} {kws : List (Str × V)} {f : Addr} {fd : FuncData} {N ps : List Str} {k : Nat} {b : MS}
    (F : FunD K x qual params body scope dvs kws f fd) (S : FnScope N ps scope)
    (hbody : ∀ (cdv : Value) (A : Around) (outer : List Env) (s : Shared) (H : Hp) (E : XK), Room k (A.deeper (envOfC qual scope s.heap.objs.size f cdv)) →
      RSs T (cxOf (L2.CX P w) P w K mg base N qual scope f cdv A outer s H E) (fun cls d _ H' => E cls d H') body b) :
    FnOk P w K mg base (L2.CX P w) (k + 1) f fd ps (spM K T ps.length (runB N.length b)) := by
  refine F.ok S (fun vs H Q E h => h.1) fun cdv A outer s H vs Q E hr h => ⟨_, hbody cdv A outer s H E hr, ?_⟩
  obtain ⟨_, mp, xs, st, S', r, Pq⟩ := h
  refine ⟨mp, _, st, relL_start r, S', ?_⟩
  unfold runB at Pq
  show SPost K T mp H _ _ _
  cases e : b (xs.map some ++ List.replicate (N.length - xs.length) none) st with
  | nx ρ' st' => rw [e] at Pq; exact fun mp' σ' H' e' L' S2 => fin_post S' Pq e' S2 (show RepV K mp' H' .non .non from rfl)
  | rt a st' => rw [e] at Pq; exact fun mp' v H' e' S2 r' => fin_post S' Pq e' S2 r'
  | bk ρ' st' => rw [e] at Pq; exact Pq.elim
  | ct ρ' st' => rw [e] at Pq; exact Pq.elim
  | exc x ρ' st' => rw [e] at Pq; exact fun mp' σ' H' cls d e' L' S2 r' => finX_post S' Pq e' S2 r'
  | bad => rw [e] at Pq; exact Pq.elim
/-- nothing is promised where nothing is said -/
theorem fn_bad {P : Program} {w : World} {K : PySem.W.Frag} {mg : Str → Option Value} {base : Heap} {T : Tb} {f : Addr} {fd : FuncData} {ps : List Str} {k : Nat} : FnOk P w K mg base (L2.CX P w) k f fd ps (spM K T ps.length fun _ _ => .bad) := by
  have no : ∀ vs H Q E, ¬ spM K T ps.length (fun _ _ => .bad) vs H Q E := fun vs H Q E ⟨_, _, _, _, _, _, P⟩ => P
  exact ⟨fun vs H Q E h => h.1, fun A outer s H args us vs Q E _ _ _ _ h => absurd h (no vs H Q E)⟩
end MP

set_option Elab.async false
set_option linter.all false
set_option maxRecDepth 100000
set_option maxHeartbeats 2000000
/-! MP: walks, loops, comprehensions. -/
namespace MP
open PySem PySem.Spec PyProof.Rows L2

/-- what is walked; live: lists that must stand as they are meanwhile -/
structure Src where
  items : List MV
  live : List (Nat × List MV) := []
def liveOk (live : List (Nat × List MV)) (s : Sto) : Prop := ∀ p ∈ live, s[p.1]? = some (.lst p.2)
theorem liveOk_nil {s : Sto} : liveOk [] s := fun _ h => by simp at h
def IterRep (K : PySem.W.Frag) (T : Tb) (mp : List Addr) (H : Hp) (c : Src) (J : It) : Prop :=
  ∀ (i : Nat) (mp' : List Addr) (st' : Sto) (H' : Hp), Ext mp mp' H H' → RelS K T mp' st' H' → liveOk c.live st' → (i = c.items.length → J.stop i H') ∧
    ∀ x, c.items[i]? = some x → J.go i H' ∧ ∀ v H'', J.yld i H' v H'' → Ext mp' mp' H' H'' ∧ RelS K T mp' st' H'' ∧ RepV K mp' H'' x v
abbrev MI := Loc → Sto → Res Src
def tI (K : PySem.W.Frag) (T : Tb) (W : WX) (m : MI) : TI := fun σ H R => ∃ mp ρ st, RelL K mp H ρ σ ∧ RelS K T mp st H ∧ Post K T (IterRep K T) mp H (fun c d H' => W c d σ H') (m ρ st) R
def RI (T : Tb) (X : Cx) (W : WX) (tg e : Expr) (m : MI) : Prop := PI X tg e (tI X.K T W m)
theorem PI.imp {X : Cx} {tg e : Expr} {t t' : TI} (h : PI X tg e t) (i : ∀ σ H R, t' σ H R → t σ H R) : PI X tg e t' := ⟨fun p s σ H R I q => h.run p s σ H R I (i σ H R q)⟩
theorem PI.or {X : Cx} {tg e : Expr} {t t' : TI} (h : PI X tg e t) (h' : PI X tg e t') : PI X tg e (fun σ H R => t σ H R ∨ t' σ H R) := ⟨fun p s σ H R I q => q.elim (h.run p s σ H R I) (h'.run p s σ H R I)⟩
/-- a fresh list that is nobody's; H0: the heap at the beginning -/
def repL (K : PySem.W.Frag) (H0 : Hp) : List Addr → Hp → List MV → V → Prop := fun mp H xs v => ∃ D vs, v = .ref D ∧ H0 D = none ∧ H D = some (.lst vs) ∧ D ∉ mp ∧ RepVs K mp H xs vs
abbrev ML := Loc → Sto → Res (List MV)
def tL (K : PySem.W.Frag) (T : Tb) (W : WX) (m : ML) : TE := fun σ H Q => ∃ mp ρ st, RelL K mp H ρ σ ∧ RelS K T mp st H ∧ Post K T (repL K H) mp H (fun c d H' => W c d σ H') (m ρ st) Q
def RL (T : Tb) (X : Cx) (W : WX) (e : Expr) (m : ML) : Prop := PE X e (tL X.K T W m)
theorem Post.bnd0 {K : PySem.W.Frag} {T : Tb} {α β γ δ : Type} {rep : List Addr → Hp → α → β → Prop} {rep' : List Addr → Hp → γ → δ → Prop} {mp : List Addr} {H : Hp} {W : XK} {r : Res γ} {f : γ → Sto → Res α} {Q : β → Hp → Prop} {Qa : δ → Hp → Prop} (h : Post K T rep mp H W (r.bind f) Q)
    (hk : ∀ a st1 mp1 x H1, Ext mp mp1 H H1 → RelS K T mp1 st1 H1 → rep' mp1 H1 a x → Post K T rep mp H W (f a st1) Q → Qa x H1) : Post K T rep' mp H W r Qa := by
  cases r with
  | ok a st => exact fun m x G e r q => hk a st m x G e r q h
  | exc x st => exact h
  | bad => exact h
/-- a fresh list becomes a cell -/
theorem Ext.adopt {mp mp1 : List Addr} {H H1 : Hp} {D : Addr} (e : Ext mp mp1 H H1) (h0 : H D = none) : Ext mp (mp1 ++ [D]) H H1 := by
  obtain ⟨l, rfl⟩ := e.pre
  refine ⟨⟨⟨l ++ [D], by rw [List.append_assoc]⟩, e.tup, e.frl⟩, e.ext, e.tbl, fun a ha => ?_, e.keep⟩
  rcases List.mem_append.mp ha with ha | ha
  · exact e.fresh a ha
  · have ha : a = D := by simpa using ha
    exact .inr (by rw [ha]; exact h0)

section
variable {T : Tb} {X : Cx} {W : WX} {tg a b c e : Expr} {ma mb mc me : ME} {pos : Pos}
/-! ### fresh lists -/
def eOfL (m : ML) : ME := fun ρ s => (m ρ s).bind fun xs s => .ok (.ref s.length) (s ++ [.lst xs])
theorem re_ofL {m : ML} (h : RL T X W e m) : RE T X W e (eOfL m) := by
  refine PE.imp h fun σ H Q ⟨mp, ρ, st, L, S, P⟩ => ⟨mp, ρ, st, L, S, Post.bnd0 P fun xs st1 mp1 v H1 e1 S1 r1 P0 => ?_⟩
  obtain ⟨D, vs, rfl, h0, hD, hm, g⟩ := r1
  have S2 := S1.add (c := .lst xs) hm ⟨vs, hD, g.monoW ⟨⟨[D], rfl⟩, fun _ _ _ z => z, fun _ _ _ z => z⟩⟩
  exact P0 _ _ H1 (e1.adopt h0) S2 ⟨D, by rw [← S1.len, List.getElem?_append_right (Nat.le_refl _), Nat.sub_self] <;> rfl, rfl⟩
/-- [a, b, ..] that is used up at once -/
theorem rl_lst {es : List Expr} {mr : MA} (hr : RA T X W es mr) (hl : es.length ≤ sizeLine := by decide) : RL T X W (.List es pos) mr := by
  refine PE.imp (pe_lst hr.pa) fun σ H Q ⟨mp, ρ, st, L, S, P⟩ => ⟨mp, ρ, st, L, S, ?_⟩
  cases q : mr ρ st with
  | ok xs s =>
    rw [q] at P
    intro mp1 vs H1 e1 S1 r1
    refine ⟨by rw [r1.length, hr.len _ _ _ _ q]; exact hl, fun p hp => ?_⟩
    have ex : Ext mp1 mp1 H1 (upd H1 p (.lst vs)) := Ext.new0 hp
    refine P mp1 _ _ (e1.trans ex) (S1.new0 hp) ⟨p, vs, rfl, ?_, upd_same, S1.none_out hp, r1.mono ex⟩
    cases z : H p with
    | none => rfl
    | some o =>
      by_cases ht : ∃ ps, o = .tbl ps
      · obtain ⟨ps, rfl⟩ := ht
        obtain ⟨_, y⟩ := e1.tbl p ps z
        rw [hp] at y; cases y
      · by_cases hm : p ∈ mp
        · obtain ⟨l, e⟩ := e1.pre
          exact absurd (by rw [e]; exact List.mem_append_left _ hm) (S1.none_out hp)
        · have y := e1.keep p o z hm fun ps y => ht ⟨ps, y⟩
          rw [hp] at y; cases y
  | exc x s => rw [q] at P; exact P
  | bad => rw [q] at P; exact P
/-- f([..]): the list is used up -/
def eUse (g : List MV → Sto → Res MV) (m : ML) : ME := fun ρ s => (m ρ s).bind g
def RRL (K : PySem.W.Frag) (T : Tb) (g : List MV → Sto → Res MV) (r : List V → Hp → VK → Prop) : Prop :=
  ∀ (mp : List Addr) (H : Hp) (st : Sto) (xs : List MV) (D : Addr) (vs : List V) (W : XK) (Q : VK), RelS K T mp st H → H D = some (.lst vs) → D ∉ mp → RepVs K mp H xs vs → Post K T (RepV K) mp H W (g xs st) Q → r [.ref D] H Q
theorem pa_one {e : Expr} {t : TE} (h : PE X e t) (hs : starEach [e] X.env = (false, eval e X.env) :: starEach [] X.env := by rfl) : PA X [e] (tCons t tNil) := pa_cons h pa_nil hs
theorem re_useTy {id : String} {x : Str} {p : Pos} {r : List V → Hp → VK → Prop} {g : List MV → Sto → Res MV} {m : ML} (hc : CallR X (.type id) r) (hg' : RRL X.K T g r) (hg : Gl X x) (hm : X.mg x = none) (hv : bootBuiltins x = some (.type id)) (ha : RL T X W a m) (hn : x ≠ "__name__" := by decide) (hdb : (x == ("__debug__" : Str)) = false := by decide)
    (he : starEach [a] X.env = (false, eval a X.env) :: starEach [] X.env := by rfl) (hpl : (backTo pos (starEach [] X.env)).any (·.1) = false := by rfl) : RE T X W (.Call (.Name x p) [a] [] pos) (eUse g m) := by
  refine PE.imp (pe_callTy hc hg hm hv (pa_one ha he) hn hdb he hpl) fun σ H Q ⟨mp, ρ, st, L, S, P⟩ => ⟨mp, ρ, st, L, S, Post.bnd P fun xs st1 mp1 v H1 e1 S1 r1 P1 => ?_⟩
  obtain ⟨D, vs, rfl, _, hD, hm, g0⟩ := r1
  exact hg' mp1 H1 st1 xs D vs _ Q S1 hD hm g0 P1
theorem re_useB {id : String} {x : Str} {p : Pos} {r : List V → Hp → VK → Prop} {g : List MV → Sto → Res MV} {m : ML} (hc : CallR X (.builtin id) r) (hg' : RRL X.K T g r) (hg : Gl X x) (hm : X.mg x = none) (hv : bootBuiltins x = some (.builtin id)) (ha : RL T X W a m) (hn : x ≠ "__name__" := by decide) (hdb : (x == ("__debug__" : Str)) = false := by decide)
    (he : starEach [a] X.env = (false, eval a X.env) :: starEach [] X.env := by rfl) (hpl : (backTo pos (starEach [] X.env)).any (·.1) = false := by rfl) : RE T X W (.Call (.Name x p) [a] [] pos) (eUse g m) := by
  refine PE.imp (pe_callB hc hg hm hv (pa_one ha he) hn hdb he hpl) fun σ H Q ⟨mp, ρ, st, L, S, P⟩ => ⟨mp, ρ, st, L, S, Post.bnd P fun xs st1 mp1 v H1 e1 S1 r1 P1 => ?_⟩
  obtain ⟨D, vs, rfl, _, hD, hm, g0⟩ := r1
  exact hg' mp1 H1 st1 xs D vs _ Q S1 hD hm g0 P1
/-- tuple([..]) -/
def uTuple : List MV → Sto → Res MV := fun xs s => .ok (.tup xs) s
theorem rl_tuple {K : PySem.W.Frag} : RRL K T uTuple (fun xs H Q => ∃ p ys, xs = [V.ref p] ∧ ((SqL K H p ys ∧ newT H ys Q) ∨ (SqT K H p ys ∧ Q (.ref p) H))) :=
  fun mp H st xs D vs W Q S hD hm g P => ⟨D, vs, rfl, .inl ⟨.of hD, fun l o hd hl => Post.new0 P S hl ⟨l, vs, rfl, .inl ⟨o, upd_same, hd⟩, g.mono (Ext.new0 hl)⟩⟩⟩
/-- dict([..]) of pairs -/
def mergeM {α : Type} [DecidableEq α] (kvs more : List (α × MV)) : List (α × MV) := more.foldl (fun acc kv => putM acc kv.1 kv.2) kvs
def asPairs : List MV → Option (List (MK × MV))
  | [] => some []
  | .tup [k, v] :: r => k.mk.bind fun k => (asPairs r).map ((k, v) :: ·)
  | _ :: _ => none
def uDict : List MV → Sto → Res MV := fun xs s => match asPairs xs with
  | some kvs => .ok (.ref s.length) (s ++ [.dic (mergeM [] kvs)])
  | none => .bad
theorem pair_merge {K : PySem.W.Frag} {mp : List Addr} {H : Hp} : ∀ {more : List (MK × MV)} {more' : List (Key × V)} {kvs : List (MK × MV)} {kv' : List (Key × V)}, PairRep K mp H MK.key kvs kv' → PairRep K mp H MK.key more more' →
    PairRep K mp H MK.key (mergeM kvs more) (mergeK kv' more')
  | _, _, _, _, h, .nil => h
  | _ :: _, _ :: _, _, _, h, .cons (a := p) (b := q) hp ht => by
    have h2 := pair_put (f := MK.key) (fun _ _ => MK.key_inj) h (k := p.1) hp.2
    rw [← hp.1] at h2
    show PairRep _ _ _ MK.key (mergeM (putM _ p.1 p.2) _) (mergeK (putK _ q.1 q.2) _)
    exact pair_merge h2 ht
theorem asPairs_ok {K : PySem.W.Frag} {mp : List Addr} {H : Hp} : ∀ {xs : List MV} {vs : List V} {kvs : List (MK × MV)}, RepVs K mp H xs vs → asPairs xs = some kvs →
    ∃ (ps : List Addr) (kv' : List (Key × V)), vs = ps.map V.ref ∧ Paired (fun p kv => SqT K H p [kV kv.1, kv.2]) ps kv' ∧ PairRep K mp H MK.key kvs kv'
  | [], vs, kvs, h, e => by
    cases e
    exact ⟨[], [], h, .nil, .nil⟩
  | x :: xs, vs, kvs, ⟨v, r, e0, h1, h2⟩, e => by
    unfold asPairs at e
    split at e
    · rename_i h; cases h
    · rename_i k z r' h
      cases h
      simp only [Option.bind_eq_some_iff, Option.map_eq_some_iff] at e
      obtain ⟨k', hk, kvs', hr, rfl⟩ := e
      obtain ⟨ps, kv', e1, e2, e3⟩ := asPairs_ok h2 hr
      obtain ⟨p, ws, rfl, t, u, r1, f1, g1, w, r2, f2, g2, g3⟩ := h1
      have g3 : r2 = [] := g3
      subst g3 f2 f1
      have eu := mk_kV g1 hk
      subst eu
      exact ⟨p :: ps, (k'.key, w) :: kv', by rw [e0, e1] <;> rfl, .cons t.seq e2, .cons ⟨rfl, g2⟩ e3⟩
    · cases e
theorem rl_dict {K : PySem.W.Frag} : RRL K T uDict (fun xs H Q => ∃ (a : Addr) (ps : List Addr) (kvs : List (Key × V)), xs = [V.ref a] ∧ SqL K H a (ps.map V.ref) ∧ Paired (fun p kv => SqT K H p [kV kv.1, kv.2]) ps kvs ∧ ∀ p, H p = none → Q (.ref p) (upd H p (.dK (mergeK [] kvs)))) :=
  fun mp H st xs D vs W Q S hD hm g P => by
    unfold uDict at P
    cases e : asPairs xs with
    | none => rw [e] at P; exact P.elim
    | some kvs =>
      rw [e] at P
      obtain ⟨ps, kv', rfl, h2, h3⟩ := asPairs_ok g e
      refine ⟨D, ps, kv', rfl, .of hD, h2, fun p hp => Post.cell P S hp ⟨_, upd_same, ?_⟩⟩
      exact (pair_merge .nil h3).mono (Ext.new1 hp)
/-- dict(d), dict(l) -/
def fDictD : MF := f1 fun x s => match x with
  | .ref n => match dicAt s n with
    | some kvs => .ok (.ref s.length) (s ++ [.dic kvs])
    | none => .bad
  | _ => .bad
theorem rg_dictD {K : PySem.W.Frag} : RRn K T fDictD (fun xs H Q => ∃ (a : Addr) (kvs : List (Key × V)), xs = [V.ref a] ∧ Rd H a (.dK kvs) ∧ ∀ p, H p = none → Q (.ref p) (upd H p (.dK kvs))) := rg_f1 fun mp H st x v W Q S r P => by
  cases x with
  | ref n =>
    obtain ⟨p, hp, rfl⟩ := r
    have P : Post K T (RepV K) mp H W (match dicAt st n with | some kvs => .ok (.ref st.length) (st ++ [.dic kvs]) | none => .bad) Q := P
    cases e : dicAt st n with
    | none => rw [e] at P; exact P.elim
    | some kvs =>
      rw [e] at P
      obtain ⟨kv', h1, h2⟩ := dicAt_ok S hp e
      exact ⟨p, kv', rfl, h1, fun l hl => Post.cell P S hl ⟨kv', upd_same, h2.mono (Ext.new1 hl)⟩⟩
  | _ => exact P.elim

/-! ### walks -/
def liveM (x : MV) (xs : List MV) : List (Nat × List MV) := match x with
  | .ref n => [(n, xs)]
  | _ => []
/-- over a list -/
def iLst (m : ME) : MI := fun ρ s => (m ρ s).bind fun x s => match x with
  | .lis xs => .ok ⟨xs, []⟩ s
  | .ref n => match s[n]? with
    | some (.lst xs) => .ok ⟨xs, [(n, xs)]⟩ s
    | _ => .bad
  | _ => .bad
def iTupM (m : ME) : MI := fun ρ s => (m ρ s).bind fun x s => match x with
  | .tup xs => .ok ⟨xs, []⟩ s
  | _ => .bad
theorem iterL {K : PySem.W.Frag} {mp : List Addr} {H : Hp} {c : Src} {a : Addr} (h : ∀ mp' st' H', Ext mp mp' H H' → RelS K T mp' st' H' → liveOk c.live st' → ∃ vs, SqL K H' a vs ∧ RepVs K mp' H' c.items vs) : IterRep K T mp H c (Itl K a) := by
  intro i mp' st' H' e S l
  obtain ⟨vs, hs, g⟩ := h mp' st' H' e S l
  refine ⟨fun hi => ⟨vs, hs, by rw [g.length, hi]; exact Nat.le_refl _⟩, fun x hx => ?_⟩
  obtain ⟨v, hv, r⟩ := g.get hx
  refine ⟨⟨vs, v, hs, hv⟩, fun v' H'' y => ?_⟩
  obtain ⟨rfl, y⟩ := y
  have e2 := y vs hs
  rw [hv] at e2; cases e2
  exact ⟨.refl, S, r⟩
theorem iterT {K : PySem.W.Frag} {mp : List Addr} {H : Hp} {c : Src} {a : Addr} (h : ∀ mp' st' H', Ext mp mp' H H' → RelS K T mp' st' H' → liveOk c.live st' → ∃ vs, SqT K H' a vs ∧ RepVs K mp' H' c.items vs) : IterRep K T mp H c (Itt K a) := by
  intro i mp' st' H' e S l
  obtain ⟨vs, hs, g⟩ := h mp' st' H' e S l
  refine ⟨fun hi => ⟨vs, hs, by rw [g.length, hi]; exact Nat.le_refl _⟩, fun x hx => ?_⟩
  obtain ⟨v, hv, r⟩ := g.get hx
  refine ⟨⟨vs, v, hs, hv⟩, fun v' H'' y => ?_⟩
  obtain ⟨rfl, y⟩ := y
  have e2 := y vs hs
  rw [hv] at e2; cases e2
  exact ⟨.refl, S, r⟩
theorem ri_lst (h : RE T X W e me) : RI T X W tg e (iLst me) := by
  refine PI.imp (pi_list h) fun σ H R ⟨mp, ρ, st, L, S, P⟩ => ⟨mp, ρ, st, L, S, Post.bnd P fun x st1 mp1 v H1 e1 S1 r1 P1 => ?_⟩
  cases x with
  | lis xs =>
    obtain ⟨p, vs, rfl, t, g⟩ := r1
    exact ⟨p, rfl, ⟨vs, t.seq⟩, Post.here P1 S1 (iterL fun mp' st' H' e _ _ => ⟨vs, (t.mono e.toMon).seq, g.mono e⟩)⟩
  | ref n =>
    obtain ⟨p, hp, rfl⟩ := r1
    simp only at P1
    split at P1
    · rename_i xs en
      obtain ⟨vs, h1, g⟩ := S1.cell n _ p en hp
      refine ⟨p, rfl, ⟨vs, .of h1⟩, Post.here P1 S1 (iterL fun mp' st' H' e S' l => ?_)⟩
      obtain ⟨ws, h2, g2⟩ := S'.cell n _ p (l (n, xs) List.mem_cons_self) (e.get hp)
      exact ⟨ws, .of h2, g2⟩
    · exact P1.elim
  | _ => exact P1.elim
theorem ri_tup (h : RE T X W e me) : RI T X W tg e (iTupM me) := by
  refine PI.imp (pi_tup h) fun σ H R ⟨mp, ρ, st, L, S, P⟩ => ⟨mp, ρ, st, L, S, Post.bnd P fun x st1 mp1 v H1 e1 S1 r1 P1 => ?_⟩
  cases x with
  | tup xs =>
    obtain ⟨p, vs, rfl, t, g⟩ := r1
    exact ⟨p, rfl, ⟨vs, t.seq⟩, Post.here P1 S1 (iterT fun mp' st' H' e _ _ => ⟨vs, (t.mono e.toMon).seq, g.mono e⟩)⟩
  | _ => exact P1.elim
/-- over what is a list or a tuple -/
def iSeq (m : ME) : MI := fun ρ s => (m ρ s).bind fun x s => match x with
  | .tup xs => .ok ⟨xs, []⟩ s
  | .lis xs => .ok ⟨xs, []⟩ s
  | .ref n => match s[n]? with
    | some (.lst xs) => .ok ⟨xs, [(n, xs)]⟩ s
    | _ => .bad
  | _ => .bad
theorem ri_seq (h : RE T X W e me) : RI T X W tg e (iSeq me) := by
  refine PI.imp (PI.or (ri_lst h) (ri_tup h)) fun σ H R ⟨mp, ρ, st, L, S, P⟩ => ?_
  have key : iSeq me ρ st = iLst me ρ st ∨ iSeq me ρ st = iTupM me ρ st := by
    unfold iSeq iLst iTupM
    cases me ρ st with
    | ok x s =>
      cases x with
      | tup xs => exact .inr rfl
      | _ => exact .inl rfl
    | exc _ _ => exact .inl rfl
    | bad => exact .inl rfl
  rcases key with q | q
  · rw [q] at P; exact .inl ⟨mp, ρ, st, L, S, P⟩
  · rw [q] at P; exact .inr ⟨mp, ρ, st, L, S, P⟩
/-- over a fresh list -/
def iUse (m : ML) : MI := fun ρ s => (m ρ s).bind fun xs s => .ok ⟨xs, []⟩ s
theorem ri_use {m : ML} (h : RL T X W e m) : RI T X W tg e (iUse m) := by
  refine PI.imp (pi_list h) fun σ H R ⟨mp, ρ, st, L, S, P⟩ => ⟨mp, ρ, st, L, S, Post.bnd P fun xs st1 mp1 v H1 e1 S1 r1 P1 => ?_⟩
  obtain ⟨D, vs, rfl, _, hD, hm, g⟩ := r1
  exact ⟨D, rfl, ⟨vs, .of hD⟩, Post.here P1 S1 (iterL fun mp' st' H' e _ _ => ⟨vs, .of (e.keep D _ hD hm fun _ z => by cases z), g.mono e⟩)⟩
/-- range -/
def rangeM (lo : Int) (n : Nat) : List MV := (List.range n).map fun (k : Nat) => .int (lo + (k : Int))
theorem iterR {K : PySem.W.Frag} {mp : List Addr} {H : Hp} {lo : Int} {n : Nat} : IterRep K T mp H ⟨rangeM lo n, []⟩ (Itr lo n) := by
  intro i mp' st' H' e S l
  refine ⟨fun hi => by rw [hi]; show n ≤ (rangeM lo n).length; simp [rangeM], fun x hx => ?_⟩
  have hi : i < n := by
    have := (List.getElem?_eq_some_iff.mp hx).1
    simpa [rangeM] using this
  refine ⟨hi, fun v H'' y => ?_⟩
  obtain ⟨rfl, rfl⟩ := y
  have ex : x = .int (lo + (i : Int)) := by
    have hx : (rangeM lo n)[i]? = some x := hx
    rw [rangeM, List.getElem?_map, List.getElem?_range hi] at hx
    exact (Option.some.inj hx).symm
  exact ⟨.refl, S, by rw [ex]; exact rfl⟩
abbrev bound62 (j : Int) : Prop := -(2 ^ 62) ≤ j ∧ j < 2 ^ 62
def iRange1 (r : MA) : MI := fun ρ s => (r ρ s).bind fun xs s => match xs with
  | [.int j] => if bound62 j then .ok ⟨rangeM 0 j.toNat, []⟩ s else .bad
  | _ => .bad
theorem ri_range1 {mr : MA} {p : Pos} (hg : Gl X "range") (hm : X.mg "range" = none) (ha : RA T X W [a] mr) (hs : starEach [a] X.env = [(false, eval a X.env)] := by rfl) : RI T X W tg (.Call (.Name "range" p) [a] [] pos) (iRange1 mr) := by
  refine PI.imp (pi_range1 hg hm ha.pa hs) fun σ H R ⟨mp, ρ, st, L, S, P⟩ => ⟨mp, ρ, st, L, S, Post.bnd P fun xs st1 mp1 vs H1 e1 S1 r1 P1 => ?_⟩
  split at P1
  · rename_i j
    split at P1
    · rename_i hb
      obtain ⟨v, r, e, h1, h2⟩ := r1
      have h2 : r = [] := h2
      have h1 : v = .int j := h1
      subst h2 h1 e
      exact ⟨j, rfl, hb.1, hb.2, Post.here P1 S1 iterR⟩
    · exact P1.elim
  · exact P1.elim
def iRange2 (r : MA) : MI := fun ρ s => (r ρ s).bind fun xs s => match xs with
  | [.int i, .int j] => if bound62 i ∧ bound62 j then .ok ⟨rangeM i (j - i).toNat, []⟩ s else .bad
  | _ => .bad
theorem ri_range2 {mr : MA} {p : Pos} (hg : Gl X "range") (hm : X.mg "range" = none) (ha : RA T X W [a, b] mr) (hs : starEach [a, b] X.env = [(false, eval a X.env), (false, eval b X.env)] := by rfl) (hs2 : starEach [b] X.env = [(false, eval b X.env)] := by rfl) : RI T X W tg (.Call (.Name "range" p) [a, b] [] pos) (iRange2 mr) := by
  refine PI.imp (pi_range2 hg hm ha.pa hs hs2) fun σ H R ⟨mp, ρ, st, L, S, P⟩ => ⟨mp, ρ, st, L, S, Post.bnd P fun xs st1 mp1 vs H1 e1 S1 r1 P1 => ?_⟩
  split at P1
  · rename_i i j
    split at P1
    · rename_i hb
      obtain ⟨v, r, e, h1, w, r2, e2, h2, h3⟩ := r1
      have h3 : r2 = [] := h3
      have h1 : v = .int i := h1
      have h2 : w = .int j := h2
      subst h3 h2 h1 e2 e
      exact ⟨i, j, rfl, ⟨hb.1.1, hb.1.2, hb.2.1, hb.2.2⟩, Post.here P1 S1 iterR⟩
    · exact P1.elim
  · exact P1.elim

/-! ### for -/
open Classical in
noncomputable def forL (live : List (Nat × List MV)) (g : MG) (b : MS) : List MV → MS
  | [] => fun ρ s => if liveOk live s then .nx ρ s else .bad
  | x :: xs => fun ρ s => if liveOk live s then match nxOnly (g x ρ s) with
      | .nx ρ1 s1 => match b ρ1 s1 with
        | .nx ρ2 s2 => forL live g b xs ρ2 s2
        | .ct ρ2 s2 => forL live g b xs ρ2 s2
        | .bk ρ2 s2 => .nx ρ2 s2
        | .rt a s => .rt a s
        | .exc x ρ s => .exc x ρ s
        | .bad => .bad
      | .exc x ρ s => .exc x ρ s
      | _ => .bad
    else .bad
noncomputable def sFor (i : MI) (g : MG) (b : MS) : MS := fun ρ s => (i ρ s).st ρ fun c s => forL c.live g b c.items ρ s
theorem rs_for {is : List Nat} {iter : Expr} {body : List Stmt} {mi : MI} {g : MG} {mb : MS} (hp : PassesOwn (model X.prog X.w) X.A X.env X.xe) (hc : X.calm = true) (hi : RI T X W tg iter mi) (hg : RG T X W is tg g) (hb : RSs T X W body mb)
    (hs : ∀ x, foldedSetIterable iter X.env x = pure x := by intro _; rfl) : RS T X W (.For tg iter body [] pos) (sFor mi g mb) := by
  refine PS.imp (ps_for hp hc hi hg hb hs) fun D σ H ⟨mp, ρ, st, L, S, P⟩ => ⟨mp, ρ, st, L, S, SPost.bnd P L fun c st1 mp1 J H1 e1 S1 r1 P1 => ?_⟩
  refine ⟨fun i m σ' H' => m + i = c.items.length ∧ ∃ mp' ρ' st', Ext mp1 mp' H1 H' ∧ RelL X.K mp' H' ρ' σ' ∧ RelS X.K T mp' st' H' ∧ SPost X.K T mp' H' W D (forL c.live g mb (c.items.drop i) ρ' st'),
    ⟨c.items.length, by simp, mp1, ρ, st1, .refl, L.mono e1, S1, P1⟩, ?_⟩
  rintro i m σ' H' ⟨hmi, mp', ρ', st', ex, L', S', P'⟩
  cases m with
  | zero =>
    have hi : i = c.items.length := by omega
    rw [List.drop_eq_nil_of_le (by omega)] at P'
    unfold forL at P'
    split at P'
    · rename_i lv
      exact .inl ⟨(r1 i mp' st' H' ex S' lv).1 hi, SPost.nx P' L' S'⟩
    · exact P'.elim
  | succ m =>
    have hi : i < c.items.length := by omega
    rw [List.drop_eq_getElem_cons hi] at P'
    unfold forL at P'
    split at P'
    · rename_i lv
      obtain ⟨go, yl⟩ := (r1 i mp' st' H' ex S' lv).2 _ (List.getElem?_eq_getElem hi)
      refine .inr ⟨go, fun σ2 H2 => m + (i + 1) = c.items.length ∧ ∃ mp' ρ' st', Ext mp1 mp' H1 H2 ∧ RelL X.K mp' H2 ρ' σ2 ∧ RelS X.K T mp' st' H2 ∧ SPost X.K T mp' H2 W D (forL c.live g mb (c.items.drop (i + 1)) ρ' st'),
        fun σ2 H2 h => ⟨m, by omega, h⟩, fun v H2 y => ?_⟩
      obtain ⟨ex2, S2, rv⟩ := yl v H2 y
      refine ⟨mp', ρ', st', _, L'.mono ex2, S2, rv, ?_⟩
      have P' := SPost.from P' ex2
      cases q : g c.items[i] ρ' st' with
      | nx ρ1 s1 =>
        rw [q] at P'
        have P' : SPost X.K T mp' H2 W D (match mb ρ1 s1 with
          | .nx ρ2 s2 => forL c.live g mb (c.items.drop (i + 1)) ρ2 s2
          | .ct ρ2 s2 => forL c.live g mb (c.items.drop (i + 1)) ρ2 s2
          | .bk ρ2 s2 => .nx ρ2 s2
          | .rt a s => .rt a s
          | .exc x ρ s => .exc x ρ s
          | .bad => .bad) := P'
        intro mp3 σ3 H3 e3 L3 S3 _
        refine ⟨mp3, ρ1, s1, L3, S3, ?_⟩
        have P' := SPost.from P' e3
        cases q2 : mb ρ1 s1 with
        | nx ρ2 s2 => rw [q2] at P'; exact fun mp4 σ4 H4 e4 L4 S4 => ⟨by omega, mp4, ρ2, s2, ((ex.trans ex2).trans e3).trans e4, L4, S4, SPost.from P' e4⟩
        | ct ρ2 s2 => rw [q2] at P'; exact fun mp4 σ4 H4 e4 L4 S4 => ⟨by omega, mp4, ρ2, s2, ((ex.trans ex2).trans e3).trans e4, L4, S4, SPost.from P' e4⟩
        | bk ρ2 s2 => rw [q2] at P'; exact P'
        | rt a s => rw [q2] at P'; exact P'
        | exc x ρ s => rw [q2] at P'; exact P'
        | bad => rw [q2] at P'; exact P'
      | exc x ρ s => rw [q] at P'; exact P'
      | bad => rw [q] at P'; exact P'
      | rt a s => rw [q] at P'; exact P'.elim
      | bk a s => rw [q] at P'; exact P'.elim
      | ct a s => rw [q] at P'; exact P'.elim
    · exact P'.elim

/-! ### while -/
def whileN (t : MT) (b : MS) : Nat → MS
  | 0 => fun _ _ => .bad
  | n + 1 => fun ρ s => (t ρ s).st ρ fun k s => match k with
    | false => .nx ρ s
    | true => match b ρ s with
      | .nx ρ2 s2 => whileN t b n ρ2 s2
      | .ct ρ2 s2 => whileN t b n ρ2 s2
      | .bk ρ2 s2 => .nx ρ2 s2
      | .rt a s => .rt a s
      | .exc x ρ s => .exc x ρ s
      | .bad => .bad
open Classical in
noncomputable def sWhile (t : MT) (b : MS) : MS := fun ρ s => if h : ∃ n, whileN t b n ρ s ≠ .bad then whileN t b (Classical.choose h) ρ s else .bad
theorem whileN_mono {t : MT} {b : MS} : ∀ {n m : Nat} {ρ : Loc} {s : Sto}, n ≤ m → whileN t b n ρ s ≠ .bad → whileN t b m ρ s = whileN t b n ρ s
  | 0, _, _, _, _, h => absurd rfl h
  | n + 1, 0, _, _, hl, _ => by omega
  | n + 1, m + 1, ρ, s, hl, h => by
    unfold whileN at h ⊢
    cases q : t ρ s with
    | ok k s1 =>
      rw [q] at h
      simp only [Res.st] at h ⊢
      cases k with
      | false => rfl
      | true =>
        simp only at h ⊢
        cases q2 : b ρ s1 with
        | nx ρ2 s2 => rw [q2] at h; exact whileN_mono (by omega) h
        | ct ρ2 s2 => rw [q2] at h; exact whileN_mono (by omega) h
        | _ => rfl
    | exc _ _ => rfl
    | bad => rfl
theorem sWhile_eq {t : MT} {b : MS} {n : Nat} {ρ : Loc} {s : Sto} (h : whileN t b n ρ s ≠ .bad) : sWhile t b ρ s = whileN t b n ρ s := by
  classical
  unfold sWhile
  have hx : ∃ n, whileN t b n ρ s ≠ .bad := ⟨n, h⟩
  rw [dif_pos hx]
  have hc := Classical.choose_spec hx
  rcases Nat.le_total n (Classical.choose hx) with q | q
  · exact whileN_mono q h
  · exact (whileN_mono q hc).symm
theorem sWhile_bad {t : MT} {b : MS} {ρ : Loc} {s : Sto} (h : ∀ n, whileN t b n ρ s = .bad) : sWhile t b ρ s = .bad := by
  classical
  unfold sWhile
  rw [dif_neg]
  exact fun ⟨n, hn⟩ => hn (h n)
/-- one turn -/
theorem sWhile_step (t : MT) (b : MS) (ρ : Loc) (s : Sto) : sWhile t b ρ s = (t ρ s).st ρ fun k s => match k with
    | false => .nx ρ s
    | true => match b ρ s with
      | .nx ρ2 s2 => sWhile t b ρ2 s2
      | .ct ρ2 s2 => sWhile t b ρ2 s2
      | .bk ρ2 s2 => .nx ρ2 s2
      | .rt a s => .rt a s
      | .exc x ρ s => .exc x ρ s
      | .bad => .bad := by
  have go : ∀ (ρ2 : Loc) (s2 : Sto), (∀ n, whileN t b (n + 1) ρ s = whileN t b n ρ2 s2) → sWhile t b ρ s = sWhile t b ρ2 s2 := fun ρ2 s2 hw => by
    by_cases hx : ∃ n, whileN t b n ρ2 s2 ≠ .bad
    · obtain ⟨n, hn⟩ := hx
      rw [sWhile_eq hn, sWhile_eq (n := n + 1) (by rw [hw n]; exact hn), hw n]
    · have hn : ∀ n, whileN t b n ρ2 s2 = .bad := fun n => Classical.byContradiction fun z => hx ⟨n, z⟩
      rw [sWhile_bad hn, sWhile_bad fun n => ?_]
      cases n with
      | zero => rfl
      | succ n => rw [hw n, hn n]
  have one : ∀ r, r ≠ SRes.bad → (∀ n, whileN t b (n + 1) ρ s = r) → sWhile t b ρ s = r := fun r hr hw => by
    rw [sWhile_eq (n := 1) (by rw [hw 0]; exact hr), hw 0]
  have two : (∀ n, whileN t b (n + 1) ρ s = .bad) → sWhile t b ρ s = .bad := fun hw => sWhile_bad fun n => by
    cases n with
    | zero => rfl
    | succ n => exact hw n
  cases q : t ρ s with
  | ok k s1 =>
    simp only [Res.st]
    cases k with
    | false => exact one _ (fun z => by cases z) fun n => by unfold whileN; rw [q] <;> rfl
    | true =>
      simp only
      cases q2 : b ρ s1 with
      | nx ρ2 s2 => exact go ρ2 s2 fun n => by simp only [whileN, q, Res.st, q2]
      | ct ρ2 s2 => exact go ρ2 s2 fun n => by simp only [whileN, q, Res.st, q2]
      | bk ρ2 s2 => exact one _ (fun z => by cases z) fun n => by simp only [whileN, q, Res.st, q2]
      | rt a s => exact one _ (fun z => by cases z) fun n => by simp only [whileN, q, Res.st, q2]
      | exc x ρ s => exact one _ (fun z => by cases z) fun n => by simp only [whileN, q, Res.st, q2]
      | bad => exact two fun n => by simp only [whileN, q, Res.st, q2]
  | exc _ _ => exact one _ (fun z => by cases z) fun n => by unfold whileN; rw [q] <;> rfl
  | bad => exact two fun n => by unfold whileN; rw [q] <;> rfl
theorem rs_while {t : MT} {body : List Stmt} {mb : MS} (hp : PassesOwn (model X.prog X.w) X.A X.env X.xe) (hc : RT T X W c t) (hb : RSs T X W body mb) : RS T X W (.While c body [] pos) (sWhile t mb) := by
  refine PS.imp (ps_while hp hc hb) fun D σ H ⟨mp, ρ, st, L, S, P⟩ => ?_
  have hx : ∃ n, whileN t mb n ρ st ≠ .bad := Classical.byContradiction fun z => by
    rw [sWhile_bad fun n => Classical.byContradiction fun y => z ⟨n, y⟩] at P
    exact P
  obtain ⟨n, hn⟩ := hx
  rw [sWhile_eq hn] at P
  refine ⟨fun m σ' H' => ∃ mp' ρ' st', Ext mp mp' H H' ∧ RelL X.K mp' H' ρ' σ' ∧ RelS X.K T mp' st' H' ∧ SPost X.K T mp' H' W D (whileN t mb m ρ' st'), ⟨n, mp, ρ, st, .refl, L, S, P⟩, ?_⟩
  rintro m σ' H' ⟨mp', ρ', st', ex, L', S', P'⟩
  cases m with
  | zero => exact P'.elim
  | succ m =>
    unfold whileN at P'
    refine ⟨mp', ρ', st', L', S', SPost.bnd P' L' fun k st1 mp1 x H1 e1 S1 r1 P1 => ?_⟩
    have r1 : k = x := r1
    subst r1
    cases k with
    | false => rw [if_neg Bool.false_ne_true]; exact SPost.nx P1 (L'.mono e1) S1
    | true =>
      rw [if_pos rfl]
      refine ⟨fun σ2 H2 => ∃ mp' ρ' st', Ext mp mp' H H2 ∧ RelL X.K mp' H2 ρ' σ2 ∧ RelS X.K T mp' st' H2 ∧ SPost X.K T mp' H2 W D (whileN t mb m ρ' st'), fun σ2 H2 h => ⟨m, by omega, h⟩, mp1, ρ', st1, L'.mono e1, S1, ?_⟩
      simp only at P1
      cases q2 : mb ρ' st1 with
      | nx ρ2 s2 => rw [q2] at P1; exact fun mp4 σ4 H4 e4 L4 S4 => ⟨mp4, ρ2, s2, (ex.trans e1).trans e4, L4, S4, SPost.from P1 e4⟩
      | ct ρ2 s2 => rw [q2] at P1; exact fun mp4 σ4 H4 e4 L4 S4 => ⟨mp4, ρ2, s2, (ex.trans e1).trans e4, L4, S4, SPost.from P1 e4⟩
      | bk ρ2 s2 => rw [q2] at P1; exact P1
      | rt a s => rw [q2] at P1; exact P1
      | exc x ρ s => rw [q2] at P1; exact P1
      | bad => rw [q2] at P1; exact P1
end
end MP

set_option Elab.async false
set_option linter.all false
set_option maxRecDepth 100000
set_option maxHeartbeats 2000000
/-! MP: comprehensions, dict displays, dict of a tuple. -/
namespace MP
open PySem PySem.Spec PyProof.Rows L2

/-! ### wiped slots -/
def wipeM (ρ : Loc) : List Nat → Loc
  | [] => ρ
  | v :: vs => (wipeM ρ vs).set v none
theorem RelL.wipe {K : PySem.W.Frag} {mp : List Addr} {H : Hp} {ρ : Loc} {σ : L2.St} (h : RelL K mp H ρ σ) : ∀ vs : List Nat, RelL K mp H (wipeM ρ vs) (wipe σ vs)
  | [] => h
  | v :: vs => (RelL.wipe h vs).unset
theorem wipe_at {σ : L2.St} {j : Nat} : ∀ {vs : List Nat}, (wipe σ vs)[j]? = if j ∈ vs ∧ j < σ.length then some none else σ[j]?
  | [] => by simp [L2.wipe]
  | v :: vs => by
    unfold L2.wipe
    by_cases h : v = j
    · subst h
      by_cases hl : v < σ.length
      · rw [List.getElem?_set_self (by rw [wipe_length]; exact hl), if_pos ⟨List.mem_cons_self, hl⟩]
      · rw [List.getElem?_eq_none (by rw [List.length_set, wipe_length]; omega), if_neg fun z => hl z.2, List.getElem?_eq_none (by omega)]
    · rw [List.getElem?_set_ne h, wipe_at (vs := vs)]
      have : (j ∈ v :: vs) ↔ j ∈ vs := ⟨fun z => (List.mem_cons.mp z).resolve_left fun e => h e.symm, List.mem_cons_of_mem _⟩
      simp only [this]
theorem wipe_same {σ σ2 : L2.St} {is vs : List Nat} (h : SameOut is (wipe σ vs) σ2) (hs : ∀ i ∈ is, i ∈ vs) : wipe σ2 vs = wipe σ vs := by
  have hl : σ2.length = σ.length := h.len.trans (wipe_length σ vs)
  refine List.ext_getElem? fun j => ?_
  rw [wipe_at, wipe_at, hl]
  by_cases hj : j ∈ vs ∧ j < σ.length
  · rw [if_pos hj, if_pos hj]
  · rw [if_neg hj, if_neg hj]
    by_cases hv : j ∈ vs
    · have hn : ¬ j < σ.length := fun z => hj ⟨hv, z⟩
      rw [List.getElem?_eq_none (by omega), List.getElem?_eq_none (by omega)]
    · rw [h.at_ j fun z => hv (hs j z), wipe_at, if_neg fun z => hv z.1]

/-! ### tests of a clause -/
abbrev WN : WX := fun _ _ _ _ => False
def RTs (T : Tb) (X : Cx) (W : WX) (es : List Expr) (m : MT) : Prop := PTs X es (tT X.K T W m)
def tYesM : MT := fun _ s => .ok true s
section
variable {T : Tb} {X : Cx} {W : WX} {tg a b c e : Expr} {ma mb mc me : ME} {pos : Pos}
theorem PTs.imp {es : List Expr} {t t' : TT} (h : PTs X es t) (i : ∀ σ H Q, t' σ H Q → t σ H Q) : PTs X es t' := ⟨fun p s σ H Q I q => h.run p s σ H Q I (i σ H Q q)⟩
theorem rts_nil : RTs T X W [] tYesM := PTs.imp pts_nil fun σ H Q ⟨mp, ρ, st, L, S, P⟩ => P mp true H .refl S rfl
theorem rts_one {t : MT} (h : RT T X W c t) : RTs T X W [c] t := pts_one h
end

/-! ### list comprehensions -/
theorem Ext.upd0 {mp mp' : List Addr} {H H' : Hp} {D : Addr} {o : HO} (e : Ext mp mp' H H') (h0 : H D = none) : Ext mp mp' H (upd H' D o) := by
  have ne : ∀ b u, H b = some u → b ≠ D := fun b u h z => by rw [z, h0] at h; cases h
  exact ⟨⟨e.pre, fun b o vs h => by rw [upd_ne (ne b _ h)]; exact e.tup b o vs h, fun b o vs h => by rw [upd_ne (ne b _ h)]; exact e.frl b o vs h⟩, fun b φ h => by rw [upd_ne (ne b _ h)]; exact e.ext b φ h,
    fun b ps h => by rw [upd_ne (ne b _ h)]; exact e.tbl b ps h, e.fresh, fun b o h n t => by rw [upd_ne (ne b _ h)]; exact e.keep b o h n t⟩
theorem Ext.before {mp mp' : List Addr} {H H' : Hp} {st' : Sto} {K : PySem.W.Frag} {T : Tb} (e : Ext mp mp' H H') (S : RelS K T mp' st' H') {p : Addr} (hp : H' p = none) : H p = none ∧ p ∉ mp := by
  have hm : p ∉ mp := fun hm => by
    obtain ⟨l, q⟩ := e.pre
    exact absurd (by rw [q]; exact List.mem_append_left _ hm) (S.none_out hp)
  refine ⟨?_, hm⟩
  cases z : H p with
  | none => rfl
  | some o =>
    by_cases ht : ∃ ps, o = .tbl ps
    · obtain ⟨ps, rfl⟩ := ht
      obtain ⟨_, y⟩ := e.tbl p ps z
      rw [hp] at y; cases y
    · have y := e.keep p o z hm fun ps y => ht ⟨ps, y⟩
      rw [hp] at y; cases y
@[inline] def Res.calm {α : Type} : Res α → Res α
  | .ok a s => .ok a s
  | _ => .bad
def SRes.one : SRes → Res Loc
  | .nx ρ s => .ok ρ s
  | _ => .bad
open Classical in
noncomputable def compL (live : List (Nat × List MV)) (g : MG) (t : MT) (e : ME) (ρ : Loc) : List MV → List MV → Sto → Res (List MV)
  | [], acc => fun s => if liveOk live s then .ok acc s else .bad
  | x :: xs, acc => fun s => if liveOk live s then (g x ρ s).one.bind fun ρ1 s1 => (t ρ1 s1).calm.bind fun b s2 => match b with
      | true => (e ρ1 s2).calm.bind fun y s3 => compL live g t e ρ xs (acc ++ [y]) s3
      | false => compL live g t e ρ xs acc s2
    else .bad
noncomputable def lComp (mi : MI) (vs : List Nat) (g : MG) (t : MT) (e : ME) : ML := fun ρ s => (mi ρ s).bind fun c s => if c.items.length ≤ sizeLine then compL c.live g t e (wipeM ρ vs) c.items [] s else .bad

section
variable {T : Tb} {X : Cx} {W : WX} {tg elt iter : Expr} {me : ME} {pos : Pos} {is : List Nat} {g : MG} {t : MT} {mi : MI} {ifs : List Expr} {scope : Scope} {own : List (Str × Nat)}
theorem calm_bnd {K : PySem.W.Frag} {α β γ δ : Type} {rep : List Addr → Hp → α → β → Prop} {rep' : List Addr → Hp → γ → δ → Prop} {mp mpB : List Addr} {H HB : Hp} {W W' : XK} {r : Res γ} {f : γ → Sto → Res α} {Q : β → Hp → Prop} {Qa : δ → Hp → Prop} (h : Post K T rep mpB HB W (r.calm.bind f) Q)
    (hk : ∀ a st1 mp1 x H1, Ext mp mp1 H H1 → RelS K T mp1 st1 H1 → rep' mp1 H1 a x → Post K T rep mpB HB W (f a st1) Q → Qa x H1) : Post K T rep' mp H W' r Qa := by
  cases r with
  | ok a st => exact fun m x G e r q => hk a st m x G e r q h
  | exc x st => exact False.elim h
  | bad => exact h
theorem one_bnd {K : PySem.W.Frag} {α β : Type} {rep : List Addr → Hp → α → β → Prop} {mp mpB : List Addr} {H HB : Hp} {W : XK} {W' : WX} {r : SRes} {f : Loc → Sto → Res α} {Q : β → Hp → Prop} {D : Ends} (h : Post K T rep mpB HB W (r.one.bind f) Q)
    (hk : ∀ ρ st1 mp1 σ1 H1, Ext mp mp1 H H1 → RelL K mp1 H1 ρ σ1 → RelS K T mp1 st1 H1 → Post K T rep mpB HB W (f ρ st1) Q → D.nx σ1 H1) : SPost K T mp H W' D r := by
  cases r with
  | nx ρ st => exact fun m σ G e L q => hk ρ st m σ G e L q h
  | rt _ _ => exact False.elim h
  | bk _ _ => exact False.elim h
  | ct _ _ => exact False.elim h
  | exc _ _ _ => exact False.elim h
  | bad => exact False.elim h
theorem lc_in (his : ∀ i ∈ is, i ∈ own.map (·.2)) {σ : L2.St} {H : Hp} {Q : VK} (h : tL X.K T W (lComp mi (own.map (·.2)) g t me) σ H Q) :
    tLc (tI X.K T W mi) (tGm X.K T WN is g) (tT X.K T WN t) (tE X.K T WN me) (own.map (·.2)) σ H Q := by
  obtain ⟨mp, ρ, st, L, S, P⟩ := h
  refine ⟨mp, ρ, st, L, S, Post.bnd0 P fun c st1 mp1 J H1 e1 S1 r1 P1 => fun D hD => ?_⟩
  split at P1
  · rename_i hsz
    obtain ⟨hD0, hDm⟩ := e1.before S1 hD
    have Lw := (L.wipe (own.map (·.2)))
    have e2 : Ext mp1 mp1 H1 (upd H1 D (.lst [])) := Ext.new0 hD
    refine ⟨fun i m H2 => m + i = c.items.length ∧ ∃ mp2 st2 acc vs, Ext mp1 mp2 H1 H2 ∧ RelS X.K T mp2 st2 H2 ∧ H2 D = some (.lst vs) ∧ D ∉ mp2 ∧ RepVs X.K mp2 H2 acc vs ∧ acc.length ≤ i ∧ Post X.K T (repL X.K H) mp H (fun c d H' => W c d σ H') (compL c.live g t me (wipeM ρ (own.map (·.2))) (c.items.drop i) acc st2) Q,
      ⟨c.items.length, rfl, mp1, st1, [], [], e2, S1.new0 hD, upd_same, S1.none_out hD, rfl, Nat.zero_le _, P1⟩, ?_⟩
    rintro i m H2 ⟨hmi, mp2, st2, acc, vs, ex, S2, hD2, hDm2, hv, hacc, P2⟩
    cases m with
    | zero =>
      have hi : i = c.items.length := by omega
      rw [List.drop_eq_nil_of_le (by omega)] at P2
      unfold compL at P2
      split at P2
      · rename_i lv
        exact .inl ⟨(r1 i mp2 st2 H2 ex S2 lv).1 hi, P2 mp2 _ H2 (e1.trans ex) S2 ⟨D, vs, rfl, hD0, hD2, hDm2, hv⟩⟩
      · exact P2.elim
    | succ m =>
      have hi : i < c.items.length := by omega
      rw [List.drop_eq_getElem_cons hi] at P2
      unfold compL at P2
      split at P2
      · rename_i lv
        obtain ⟨go, yl⟩ := (r1 i mp2 st2 H2 ex S2 lv).2 _ (List.getElem?_eq_getElem hi)
        have out : ∀ {mpa : List Addr} {Ha : Hp}, Ext mp2 mpa H2 Ha → Ha D = some (.lst vs) ∧ D ∉ mpa := fun {mpa Ha} ea =>
          ⟨ea.keep D _ hD2 hDm2 (fun ps z => nomatch z), fun hm => (ea.fresh D hm).elim hDm2 fun z => by rw [hD2] at z; cases z⟩
        refine .inr ⟨go, fun H3 => m + (i + 1) = c.items.length ∧ ∃ mp3 st3 acc vs, Ext mp1 mp3 H1 H3 ∧ RelS X.K T mp3 st3 H3 ∧ H3 D = some (.lst vs) ∧ D ∉ mp3 ∧ RepVs X.K mp3 H3 acc vs ∧ acc.length ≤ i + 1 ∧ Post X.K T (repL X.K H) mp H (fun c d H' => W c d σ H') (compL c.live g t me (wipeM ρ (own.map (·.2))) (c.items.drop (i + 1)) acc st3) Q,
          fun H3 h => ⟨m, by omega, h⟩, fun v H3 y => ?_⟩
        obtain ⟨ex2, S3, rv⟩ := yl v H3 y
        refine ⟨mp2, wipeM ρ (own.map (·.2)), st2, _, Lw.mono ((e1.trans ex).trans ex2), S3, rv, one_bnd P2 fun ρ4 st4 mp4 σ4 H4 e4 L4 S4 P4 => fun so => ⟨wipe_same so his, mp4, ρ4, st4, L4, S4, calm_bnd P4 fun b st5 mp5 b' H5 e5 S5 r5 P5 => ?_⟩⟩
        have r5 : b = b' := r5
        subst r5
        have ex5 := (ex2.trans e4).trans e5
        cases b with
        | false =>
          rw [if_neg Bool.false_ne_true]
          obtain ⟨q1, q2⟩ := out ex5
          exact ⟨by omega, mp5, st5, acc, vs, ex.trans ex5, S5, q1, q2, hv.mono ex5, by omega, P5⟩
        | true =>
          rw [if_pos rfl]
          refine ⟨mp5, ρ4, st5, L4.mono e5, S5, calm_bnd P5 fun y st6 mp6 yv H6 e6 S6 r6 P6 => ?_⟩
          have ex6 := ex5.trans e6
          obtain ⟨q1, q2⟩ := out ex6
          have mo : Mon mp6 mp6 H6 (upd H6 D (.lst (vs ++ [yv]))) := Mon.out q1 rfl
          have el := hv.length
          have S7 : RelS X.K T mp6 st6 (upd H6 D (.lst (vs ++ [yv]))) := S6.out q1 rfl q2
          refine ⟨vs, q1, by omega, by omega, mp6, st6, acc ++ [y], vs ++ [yv], (ex.trans ex6).upd0 hD, S7, upd_same, q2, ((hv.mono ex6).append (.single r6)).monoW mo, by rw [List.length_append, List.length_singleton]; omega, P6⟩
      · exact P2.elim
  · exact P1.elim

theorem rl_lc (hc : X.calm = true) (hN : X.N.Nodup) (his : ∀ i ∈ is, i ∈ own.map (·.2)) (hi : RI T X W tg iter mi) (ok : BlkOk X.N X.env.scope scope own)
    (hg : ∀ (s : Shared) (H : Hp) (C : Addr) (cl : List (Str × Addr)) (fp : List Addr), RG T (X.blk s H scope (compEnvC scope cl C X.env) fp) WN is tg g) (ht : ∀ (s : Shared) (H : Hp) (C : Addr) (cl : List (Str × Addr)) (fp : List Addr), RTs T (X.blk s H scope (compEnvC scope cl C X.env) fp) WN ifs t)
    (he : ∀ (s : Shared) (H : Hp) (C : Addr) (cl : List (Str × Addr)) (fp : List Addr), RE T (X.blk s H scope (compEnvC scope cl C X.env) fp) WN elt me) (hs : ∀ x, foldedSetIterable iter X.env x = pure x := by intro _; rfl) :
    RL T X W (.ListComp elt [⟨tg, iter, ifs, 0⟩] scope pos) (lComp mi (own.map (·.2)) g t me) := PE.imp (pe_lc (g := tGm X.K T WN is g) (tt := tT X.K T WN t) (te := tE X.K T WN me) hc hN hi ok hg ht he hs) fun _ _ _ h => lc_in his h
theorem ofL_in {K : PySem.W.Frag} {m : ML} {σ : L2.St} {H : Hp} {Q : VK} (h : tE K T W (eOfL m) σ H Q) : tL K T W m σ H Q := by
  obtain ⟨mp, ρ, st, L, S, P⟩ := h
  refine ⟨mp, ρ, st, L, S, Post.bnd0 P fun xs st1 mp1 v H1 e1 S1 r1 P0 => ?_⟩
  obtain ⟨D, vs, rfl, h0, hD, hm, g⟩ := r1
  have S2 := S1.add (c := .lst xs) hm ⟨vs, hD, g.monoW ⟨⟨[D], rfl⟩, fun _ _ _ z => z, fun _ _ _ z => z⟩⟩
  exact P0 _ _ H1 (e1.adopt h0) S2 ⟨D, by rw [← S1.len, List.getElem?_append_right (Nat.le_refl _), Nat.sub_self] <;> rfl, rfl⟩
theorem set_in {K : PySem.W.Frag} {i : Nat} {m : ME} {D : Ends} {σ : L2.St} {H : Hp} (h : tS K T W (sSet i m) D σ H) : tE K T W m σ H fun x H1 => gName i x σ H1 D.nx := by
  obtain ⟨mp, ρ, st, L, S, P⟩ := h
  exact ⟨mp, ρ, st, L, S, SPost.bnd P L fun x1 st1 mp1 x H1 e1 S1 r1 P1 => SPost.nx P1 ((L.mono e1).set r1) S1⟩
/-- name = [..], the name a local of the def -/
theorem rs_setLc (i : Nat) {y : Str} {py spos : Pos} (hc : X.calm = true) (hN : X.N.Nodup) (his : ∀ i ∈ is, i ∈ own.map (·.2)) (hsw : swapsWith (.ListComp elt [⟨tg, iter, ifs, 0⟩] scope pos) (some (.Name y py)) spos.line X.env = pure true) (hi : RI T X W tg iter mi) (ok : BlkOk X.N X.env.scope scope own)
    (hg : ∀ (s : Shared) (H : Hp) (C : Addr) (cl : List (Str × Addr)) (fp : List Addr), RG T (X.blk s H scope (compEnvC scope cl C X.env) fp) WN is tg g) (ht : ∀ (s : Shared) (H : Hp) (C : Addr) (cl : List (Str × Addr)) (fp : List Addr), RTs T (X.blk s H scope (compEnvC scope cl C X.env) fp) WN ifs t)
    (he : ∀ (s : Shared) (H : Hp) (C : Addr) (cl : List (Str × Addr)) (fp : List Addr), RE T (X.blk s H scope (compEnvC scope cl C X.env) fp) WN elt me) (hy : X.N[i]? = some y := by rfl) (hyl : X.env.scope.names.lookup y = some .local := by rfl) (hs : ∀ x, foldedSetIterable iter X.env x = pure x := by intro _; rfl) :
    RS T X W (.Assign [.Name y py] (.ListComp elt [⟨tg, iter, ifs, 0⟩] scope pos) spos) (sSet i (eOfL (lComp mi (own.map (·.2)) g t me))) :=
  PS.imp (ps_setLc (g := tGm X.K T WN is g) (tt := tT X.K T WN t) (te := tE X.K T WN me) hc hN hy hyl hsw hi ok hg ht he hs) fun D σ H h => lc_in his (ofL_in (set_in h))
end

/-! ### dict of a tuple of pairs -/
def dictM : MF := f1 fun x s => match x with
  | .ref n => match s[n]? with
    | some (.dic kvs) => .ok (.ref s.length) (s ++ [.dic kvs])
    | some (.lck kvs) => .ok (.ref s.length) (s ++ [.dic kvs])
    | some (.lst xs) => match asPairs xs with
      | some kvs => .ok (.ref s.length) (s ++ [.dic (mergeM [] kvs)])
      | none => .bad
    | _ => .bad
  | .tup xs => match asPairs xs with
    | some kvs => .ok (.ref s.length) (s ++ [.dic (mergeM [] kvs)])
    | none => .bad
  | _ => .bad
def dictR (K : PySem.W.Frag) : List V → Hp → VK → Prop := fun xs H Q => ((∃ (a : Addr) (kvs : List (Key × V)), xs = [V.ref a] ∧ Rd H a (.dK kvs) ∧ ∀ p, H p = none → Q (.ref p) (upd H p (.dK kvs))) ∨
    (∃ (a : Addr) (ps : List Addr) (kvs : List (Key × V)), xs = [V.ref a] ∧ SqL K H a (ps.map V.ref) ∧ Paired (fun p kv => SqT K H p [kV kv.1, kv.2]) ps kvs ∧ ∀ p, H p = none → Q (.ref p) (upd H p (.dK (mergeK [] kvs))))) ∨
    (∃ (a : Addr) (ps : List Addr) (kvs : List (Key × V)), xs = [V.ref a] ∧ TupAt K H a (ps.map V.ref) ∧ Paired (fun p kv => SqT K H p [kV kv.1, kv.2]) ps kvs ∧ ∀ p, H p = none → Q (.ref p) (upd H p (.dK (mergeK [] kvs))))
theorem rg_dict {K : PySem.W.Frag} {T : Tb} : RRn K T dictM (dictR K) := rg_f1 fun mp H st x v W Q S r P => by
  cases x with
  | ref n =>
    obtain ⟨p, hp, rfl⟩ := r
    simp only at P
    split at P
    · rename_i kvs e
      obtain ⟨kv', h1, h2⟩ := dicAt_ok S hp (show dicAt st n = some kvs by unfold dicAt; rw [e])
      exact .inl (.inl ⟨p, kv', rfl, h1, fun l hl => Post.cell P S hl ⟨kv', upd_same, h2.mono (Ext.new1 hl)⟩⟩)
    · rename_i kvs e
      obtain ⟨kv', h1, h2⟩ := dicAt_ok S hp (show dicAt st n = some kvs by unfold dicAt; rw [e])
      exact .inl (.inl ⟨p, kv', rfl, h1, fun l hl => Post.cell P S hl ⟨kv', upd_same, h2.mono (Ext.new1 hl)⟩⟩)
    · rename_i xs e
      obtain ⟨vs, h1, g⟩ := S.cell n _ p e hp
      cases q : asPairs xs with
      | none => rw [q] at P; exact P.elim
      | some kvs =>
        rw [q] at P
        obtain ⟨ps, kv', rfl, h2, h3⟩ := asPairs_ok g q
        exact .inl (.inr ⟨p, ps, kv', rfl, .of h1, h2, fun l hl => Post.cell P S hl ⟨_, upd_same, (pair_merge .nil h3).mono (Ext.new1 hl)⟩⟩)
    · exact P.elim
  | tup xs =>
    obtain ⟨p, vs, rfl, t, g⟩ := r
    simp only at P
    cases q : asPairs xs with
    | none => rw [q] at P; exact P.elim
    | some kvs =>
      rw [q] at P
      obtain ⟨ps, kv', rfl, h2, h3⟩ := asPairs_ok g q
      exact .inr ⟨p, ps, kv', rfl, t, h2, fun l hl => Post.cell P S hl ⟨_, upd_same, (pair_merge .nil h3).mono (Ext.new1 hl)⟩⟩
  | _ => exact P.elim
theorem ro_dict {X : Cx} (hc : X.calm = true) : CallR X (.type "dict") (dictR X.K) := .or (.or call_dictD (call_dictP hc)) (call_dictT hc)

/-! ### dict displays -/
def pairsM : List (ME × ME) → Loc → Sto → Res (List (MK × MV))
  | [], _, s => .ok [] s
  | (a, b) :: r, ρ, s => (a ρ s).bind fun k s => (b ρ s).bind fun v s => match k.mk with
    | some k => (pairsM r ρ s).bind fun ps s => .ok ((k, v) :: ps) s
    | none => .bad
def eDisp (ms : List (ME × ME)) : ME := fun ρ s => (pairsM ms ρ s).bind fun ps s => .ok (.ref s.length) (s ++ [.dic (mergeM [] ps)])
section
variable {T : Tb} {X : Cx} {W : WX} {pos : Pos}
theorem bndB {K : PySem.W.Frag} {α β γ δ : Type} {rep : List Addr → Hp → α → β → Prop} {rep' : List Addr → Hp → γ → δ → Prop} {mp mpB : List Addr} {H HB : Hp} {W : XK} {r : Res γ} {f : γ → Sto → Res α} {Q : β → Hp → Prop} {Qa : δ → Hp → Prop} (e : Ext mpB mp HB H) (h : Post K T rep mpB HB W (r.bind f) Q)
    (hk : ∀ a st1 mp1 x H1, Ext mp mp1 H H1 → RelS K T mp1 st1 H1 → rep' mp1 H1 a x → Post K T rep mpB HB W (f a st1) Q → Qa x H1) : Post K T rep' mp H W r Qa := by
  cases r with
  | ok a st => exact fun m x G e' r q => hk a st m x G e' r q h
  | exc x st => exact fun m G c d e' => (show Post K T rep mpB HB W (.exc x st) Q from h) m G c d (e.trans e')
  | bad => exact h
def RPs (T : Tb) (X : Cx) (W : WX) (pos : Pos) (keys : List (Option Expr)) (values : List Expr) (ms : List (ME × ME)) : Prop := PPs X pos keys values (ms.map fun p => (tE X.K T W p.1, tE X.K T W p.2)) ∧ ms.length = keys.length
theorem rps_nil : RPs T X W pos [] [] [] := ⟨pps_nil, rfl⟩
theorem rps_cons {k v : Expr} {ks : List (Option Expr)} {vs : List Expr} {mk mv : ME} {ms : List (ME × ME)} (hk : RE T X W k mk) (hv : RE T X W v mv) (hr : RPs T X W pos ks vs ms) : RPs T X W pos (some k :: ks) (v :: vs) ((mk, mv) :: ms) :=
  ⟨pps_cons hk hv hr.1, by rw [List.length_cons, List.length_cons, hr.2]⟩
theorem res_bind_assoc {α β γ : Type} (r : Res α) (f : α → Sto → Res β) (g : β → Sto → Res γ) : (r.bind f).bind g = r.bind fun a s => (f a s).bind g := by cases r <;> rfl
theorem pairs_in {K : PySem.W.Frag} {α β : Type} {rep : List Addr → Hp → α → β → Prop} {mpB : List Addr} {HB : Hp} {σ : L2.St} {Q : β → Hp → Prop} : ∀ (ms : List (ME × ME)) {ρ : Loc} {mp : List Addr} {H : Hp} {st : Sto} {f : List (MK × MV) → Sto → Res α} {Qm : List (V × V) → Hp → Prop}, RelL K mp H ρ σ → RelS K T mp st H → Ext mpB mp HB H →
    Post K T rep mpB HB (fun c d H' => W c d σ H') ((pairsM ms ρ st).bind f) Q →
    (∀ ps st1 mp1 (kvs : List (Key × V)) H1, Ext mp mp1 H H1 → RelS K T mp1 st1 H1 → ps.length = ms.length → PairRep K mp1 H1 MK.key ps kvs → Post K T rep mpB HB (fun c d H' => W c d σ H') (f ps st1) Q → Qm (kvs.map fun kv => (kV kv.1, kv.2)) H1) →
    tPairs (ms.map fun p => (tE K T W p.1, tE K T W p.2)) σ H Qm
  | [], ρ, mp, H, st, f, Qm, L, S, e, P, hk => hk [] st mp [] H .refl S rfl .nil P
  | (a, b) :: r, ρ, mp, H, st, f, Qm, L, S, e, P, hk => by
    have e0 : ((pairsM ((a, b) :: r) ρ st).bind f) = (a ρ st).bind fun k s => (b ρ s).bind fun v s => match k.mk with
        | some k => (pairsM r ρ s).bind fun ps s => f ((k, v) :: ps) s
        | none => .bad := by
      rw [pairsM, res_bind_assoc]
      congr 1; funext k s
      rw [res_bind_assoc]
      congr 1; funext v s
      cases k.mk with
      | none => rfl
      | some k => exact res_bind_assoc _ _ _
    rw [e0] at P
    refine ⟨mp, ρ, st, L, S, bndB e P fun k st1 mp1 x H1 e1 S1 r1 P1 => ⟨mp1, ρ, st1, L.mono e1, S1, bndB (e.trans e1) P1 fun v st2 mp2 y H2 e2 S2 r2 P2 => ?_⟩⟩
    cases q : k.mk with
    | none => rw [q] at P2; exact P2.elim
    | some k' =>
      rw [q] at P2
      refine pairs_in r (L.mono (e1.trans e2)) S2 ((e.trans e1).trans e2) P2 fun ps st3 mp3 kvs H3 e3 S3 hl hr P3 => ?_
      have ek := mk_kV r1 q
      subst ek
      have := hk ((k', v) :: ps) st3 mp3 ((k'.key, y) :: kvs) H3 ((e1.trans e2).trans e3) S3 (by rw [List.length_cons, List.length_cons, hl]) (.cons ⟨rfl, r2.mono e3⟩ hr) P3
      exact this
theorem re_disp {keys : List (Option Expr)} {values : List Expr} {ms : List (ME × ME)} (h : RPs T X W pos keys values ms) (hall : keys.all (·.isSome) = true := by rfl) (hl : keys.length = values.length := by rfl) (h0 : keys ≠ [] := by exact fun z => nomatch z) (h15 : keys.length ≤ 15 := by decide) :
    RE T X W (.Dict keys values pos) (eDisp ms) := by
  refine PE.imp (pe_disp h.1 hall hl h0 h15) fun σ H Q ⟨mp, ρ, st, L, S, P⟩ => fun p hp => ?_
  have e0 : Ext mp mp H (upd H p (.dK [])) := Ext.new0 hp
  refine pairs_in (mpB := mp) (HB := H) ms (L.mono e0) (S.new0 hp) e0 P fun ps st1 mp1 kvs H1 e1 S1 hlen hr P1 => ?_
  have hm0 : p ∉ mp := S.none_out hp
  have hD : H1 p = some (.dK []) := e1.keep p _ upd_same hm0 fun ps z => nomatch z
  have hm : p ∉ mp1 := fun hm => (e1.fresh p hm).elim hm0 fun z => by rw [upd_same] at z; cases z
  have hlk : kvs.length ≤ 15 := by rw [PairRep.length hr, hlen, h.2]; exact h15
  refine ⟨hD, kvs, rfl, hlk, ?_⟩
  have S2 : RelS X.K T mp1 st1 (upd H1 p (.dK (mergeK [] kvs))) := S1.out hD rfl hm
  have mo : Mon mp1 mp1 H1 (upd H1 p (.dK (mergeK [] kvs))) := Mon.out hD rfl
  have pr : PairRep X.K mp1 H1 MK.key (mergeM [] ps) (mergeK [] kvs) := pair_merge .nil hr
  have S3 := S2.add (c := .dic (mergeM [] ps)) hm ⟨_, upd_same, (pr.monoW mo).monoW ⟨⟨[p], rfl⟩, fun _ _ _ z => z, fun _ _ _ z => z⟩⟩
  exact P1 _ _ _ (((e0.trans e1).upd0 hp).adopt hp) S3 ⟨p, by rw [← S1.len, List.getElem?_append_right (Nat.le_refl _), Nat.sub_self] <;> rfl, rfl⟩
end
end MP

set_option Elab.async false
set_option linter.all false
set_option maxRecDepth 100000
set_option maxHeartbeats 2000000
/-! MP: generator expressions whose parts are any expressions. -/
namespace MP
open PySem PySem.Spec PyProof.Rows L2 GenW

theorem over_gl {A : Around} {elt target iter : Expr} {ifs : List Expr} {scope : Scope} {pos : Pos} {it acc : Value} {env : Env} : A.over (.compLoop (.GeneratorExp elt [⟨target, iter, ifs, 0⟩] scope pos) 0 it acc env) [] = A.deeper env := by
  first
    | rfl
    | (obtain ⟨hd, d, fr, gs, u⟩ := A; simp [Around.over, Around.deeper, marksOver, frameCount, unitsOf, envsOf, guardsOf, pushEnvs, pushGuards, Code.envs, Code.env?, Code.isFrame, Code.guards, Code.isGuard, Code.weight, Code.frames, Code.isCreation, Code.isCaller, Code.cUnits])
theorem over_gs {A : Around} {elt target iter : Expr} {ifs : List Expr} {scope : Scope} {pos : Pos} {it acc : Value} {env : Env} : A.over (.compStart (.GeneratorExp elt [⟨target, iter, ifs, 0⟩] scope pos) 0 it acc env) [] = A.deeper env := by
  first
    | rfl
    | (obtain ⟨hd, d, fr, gs, u⟩ := A; simp [Around.over, Around.deeper, marksOver, frameCount, unitsOf, envsOf, guardsOf, pushEnvs, pushGuards, Code.envs, Code.env?, Code.isFrame, Code.guards, Code.isGuard, Code.weight, Code.frames, Code.isCreation, Code.isCaller, Code.cUnits])

/-- the context of a generator expression's block: made at s, resumed in A -/
abbrev Gcx (X : Cx) (A : Around) (s : Shared) (H : Hp) (cenv : Env) (fp : List Addr) (pn : List (Addr × Obj)) : Cx :=
  { X with A := A, s_0 := s, H_0 := H, env := cenv, outer := X.stack, stack := cenv :: X.stack, ex := fp, fn := fun _ => false, calm := true, pn := pn, xe := fun _ _ => False }
/-- its environment -/
abbrev gEnv (X : Cx) (scope : Scope) (C : Addr) (code : Value) : Env := genEnv scope (cloFrom X.env.cells scope.names []) C code builtinsNs X.env

section
variable {X : Cx} {pins : List (Addr × Obj)} {σ : L2.St} {H : Hp} {s : Shared}
theorem gen_start {scope : Scope} {own : List (Str × Nat)} {fp : List Addr} {A : Around} {code it : Value} {h' : Heap} {g' : Array GenState} {t' : Nat} {d' : Drawn} {pn : List (Addr × Obj)} (I : Inv X pins σ H s) (ok : BlkOk X.N X.env.scope scope own) (hN : X.N.Nodup) (hcell : ∀ y ∈ scope.names, y.2 ≠ .cell)
    (hfp : ∀ b ∈ fp, FpOk X pins H b ∧ b < s.heap.objs.size) (hfr : A.frames = some (gEnv X scope s.heap.objs.size code :: X.stack)) (hh : A.handled = none)
    (hn : h'.Ns s.heap.objs.size (fun y => if y = ".0" then some it else none)) (kp : ∀ b o, s.heap.get? b = some o → h'.get? b = some o) (hg : AllBare g')
    (hpn : ∀ p ∈ pn, h'.get? p.1 = some p.2 ∧ H p.1 = none ∧ p.1 ≠ s.heap.objs.size ∧ p.1 ∉ frs X.stack ∧ ∀ v, p.2.data ≠ .cell v) :
    Inv (Gcx X A s H (gEnv X scope s.heap.objs.size code) fp pn) [] (wipe σ (own.map (·.2))) H { s with heap := h', gens := g', drawn := d', toks := t' } := by
  have hfree : ∀ y ∈ scope.names, y.2 = .free → ∃ c, X.env.cells.lookup y.1 = some c := fun y hy e => by
    rcases ok.free y hy e with k | k
    · exact I.ok.has _ (.inl k)
    · exact I.ok.has _ (.inr k)
  have cm : ∀ {y c}, (cloFrom X.env.cells scope.names []).lookup y = some c → X.env.cells.lookup y = some c ∧ c < s.heap.objs.size := fun {y c} e => by
    rcases cloFrom_mem (PySem.mem_of_lookup e) with hm | ⟨h1, rfl⟩
    · cases hm
    · obtain ⟨c, hc⟩ := hfree _ h1 rfl
      rw [hc]
      obtain ⟨w, z⟩ := I.cell _ _ hc
      exact ⟨rfl, z.lt⟩
  have look : ∀ {y}, scope.names.lookup y = some .free → ∃ c, (cloFrom X.env.cells scope.names []).lookup y = some c ∧ X.env.cells.lookup y = some c := fun {y} hl => by
    have hy : (y, NameKind.free) ∈ scope.names := PySem.mem_of_lookup hl
    obtain ⟨c', e'⟩ := mem_lookup (cloFrom_has (cells := X.env.cells) (acc := []) hy)
    exact ⟨c', e', (cm e').1⟩
  have nocell : ∀ y, scope.names.lookup y ≠ some .cell := fun y hy => hcell _ (PySem.mem_of_lookup hy) rfl
  have okB : (Gcx X A s H (gEnv X scope s.heap.objs.size code) fp pn).Ok := by
    refine ⟨I.ok.mod, ok.kind, I.ok.glob, rfl, Nat.le_refl _, fun y z c e1 e2 => I.ok.inj y z c (cm e1).1 (cm e2).1, fun y hy => ?_, fun y c z _ => (by cases z), fun _ => hh, hfr, .inr ⟨rfl, rfl⟩, fun b hb => ⟨Nat.ne_of_lt (hfp b hb).2, fun y c e z => (hfp b hb).1.2.2.2.2.1 y c (cm e).1 z⟩,
      I.bs, Nat.le_trans I.ok.bsz I.sz, fun b o e hb => ?_, fun b hb z => ?_, I.stack, I.stkFree⟩
    · have hy : scope.names.lookup y = some .cell ∨ scope.names.lookup y = some .free := hy
      rcases hy with hy | hy
      · exact absurd hy (nocell y)
      · obtain ⟨c, h1, _⟩ := look hy
        exact ⟨c, h1⟩
    · rcases (hfp b hb).1.2.2.2.1 with z | z
      · exact I.ok.noex b o e z
      · exact absurd (Nat.lt_of_lt_of_le (Heap.lt_size e) (Nat.le_trans I.ok.bsz z)) (Nat.lt_irrefl _)
    · rcases List.mem_cons.mp (I.stkSub b z) with z | z
      · exact (hfp b hb).1.2.1 z
      · exact (hfp b hb).1.2.2.1 z
  refine ⟨okB, rfl, hg, Un.kept kp, ⟨_, hn, fun i y av e1 e2 e3 => ?_⟩, fun y c e => ?_, I.hok.fresh (Nat.le_refl _), fun y c e => I.freeC y c (cm e).1, fun p hp => ?_, I.hok.kept kp, by rw [wipe_length]; exact I.len⟩
  · obtain ⟨e2, hne⟩ := wipe_some e2
    have e3 : Vis scope y := e3
    have hfr : scope.names.lookup y = some .free := by
      have no : ∀ k, scope.names.lookup y = some k → ¬ (k = .local ∨ k = .cell) := fun k hk hh => by
        rcases ok.own _ (PySem.mem_of_lookup hk) hh with e' | e'
        · obtain ⟨p, hp, hpy⟩ := List.mem_map.mp e'
          have e3 := ok.ix p hp
          have : p.1 = y := hpy
          rw [this] at e3
          exact hne (List.mem_map.mpr ⟨p, hp, nodup_ix hN e3 e1⟩)
        · exact e' (List.mem_of_getElem? e1)
      rcases e3 with e3 | e3 | e3
      · exact absurd (.inl rfl) (no _ e3)
      · exact absurd (.inr rfl) (no _ e3)
      · exact e3
    obtain ⟨m, hn, hl⟩ := I.loc
    have hvis : Vis X.env.scope y := (ok.free _ (PySem.mem_of_lookup hfr) rfl).elim (fun k => .inr (.inl k)) (fun k => .inr (.inr k))
    obtain ⟨w, r, q⟩ := hl i y av e1 e2 hvis
    refine ⟨w, r, .inr ⟨.inr hfr, ?_⟩⟩
    obtain ⟨c, h1, h2⟩ := look hfr
    rcases q with ⟨k, _⟩ | ⟨_, c', e', z⟩
    · have k : X.env.scope.names.lookup y = some .local := k
      rcases ok.free _ (PySem.mem_of_lookup hfr) rfl with k' | k' <;> rw [show X.env.scope.names.lookup y = _ from k'] at k <;> cases k
    · rw [h2] at e'; cases e'
      exact ⟨c, h1, z.keeps kp⟩
  · obtain ⟨w, z⟩ := I.cell y c (cm e).1
    exact ⟨w, z.keeps kp⟩
  · rw [List.append_nil] at hp
    exact hpn p hp
end

/-! ### the consumer -/
/-- what pulls: the addresses that are its own, what stands there, what it does with an item, with the end -/
structure Con (γ : Type) where
  SS : List Addr
  tag : γ → Heap → Prop
  C : γ → V → Hp → (γ → Hp → Prop) → Prop
  Fin : γ → Hp → Prop
  tagK : ∀ c h h', (∀ b ∈ SS, ∀ o, h.get? b = some o → h'.get? b = some o) → tag c h → tag c h'
/-- between an item and the next pull -/
structure Woke {γ : Type} (G : Con γ) (c : γ) (s s' : Shared) : Prop where
  os : s'.os = s.os
  bare : AllBare s'.gens
  keep : ∀ b o, b ∉ G.SS → s.heap.get? b = some o → s'.heap.get? b = some o
  own : ∀ b ∈ G.SS, ∃ o, s'.heap.get? b = some o ∧ ∀ v, o.data ≠ .cell v
  tag : G.tag c s'.heap
def GI (X : Cx) (SS : List Addr) (ip : List (Addr × Obj)) (σ : L2.St) (H : Hp) (s : Shared) : Prop := ∃ pins : List (Addr × Obj), pins.map (·.1) = SS ∧ Inv X (pins ++ ip) σ H s
structure GApart (X : Cx) (SS : List Addr) : Prop where
  new : ∀ b ∈ SS, X.s_0.heap.objs.size ≤ b
  loc : ∀ b ∈ SS, b ≠ X.env.locals
  cell : ∀ b ∈ SS, ∀ x c, X.env.cells.lookup x = some c → c ≠ b
  pn : ∀ b ∈ SS, ∀ p ∈ X.pn, p.1 ≠ b
  fp : ∀ b ∈ SS, b ∉ X.ex
theorem GI.woken {X : Cx} {γ : Type} {G : Con γ} {c : γ} {σ : L2.St} {H : Hp} {s s' : Shared} (hA : GApart X G.SS) (h : GI X G.SS [] σ H s) (z : Woke G c s s') : GI X G.SS [] σ H s' := by
  obtain ⟨pins, hp, I⟩ := h
  rw [List.append_nil] at I
  have mem : ∀ b ∈ G.SS, ∃ p ∈ pins, p.1 = b := fun b hb => by
    rw [← hp] at hb
    obtain ⟨p, h1, h2⟩ := List.mem_map.mp hb
    exact ⟨p, h1, h2⟩
  have pin : ∀ b ∈ G.SS, H b = none ∧ b ≠ X.env.locals ∧ b ∉ X.fs := fun b hb => by
    obtain ⟨p, h1, rfl⟩ := mem b hb
    obtain ⟨_, h2, h3, h4, _⟩ := I.pin p (List.mem_append_right _ h1)
    exact ⟨h2, h3, h4⟩
  have I0 : Inv X [] σ H s := I.pins_of fun p hp => by simp at hp
  have nt : ∀ b u, H b = some u → b ∉ G.SS := fun b u q hb => by rw [(pin b hb).1] at q; cases q
  obtain ⟨z1, z2, z3, z4, z5⟩ := z
  obtain ⟨hh, g, d, t, o⟩ := s'
  have ho : o = s.os := z1
  subst ho
  have J : Inv X [] σ H { s with heap := hh, gens := g, drawn := d, toks := t } := by
    refine I0.step (g' := g) (t' := t) (d' := d) (ch := G.SS) (fun b hb => ⟨.inr (hA.new b hb), hA.loc b hb, hA.cell b hb, fun p hp => hA.pn b hb p (by simpa using hp)⟩)
      (fun b ob _ _ hc q _ => z3 b ob hc q) (fun b ob _ _ hc q _ => ⟨ob.slots, z3 b ob hc q⟩) (fun _ _ _ _ n => n) (fun b ob hc q => ⟨ob, z3 b ob hc q⟩)
      (fun _ _ q => q) (fun _ _ _ q => q) (fun b ps q => ⟨#[], by rw [q]; simp⟩) (fun m hm => ?_) (fun b u q => ?_) z2
    · obtain ⟨ob, es, ep, ho, r⟩ := hm
      exact ⟨ob, es, ep, z3 _ ob (fun hb => hA.loc _ hb rfl) ho, r⟩
    · refine (I0.hok b u q).stay (fun c v hc y => z3 c v ?_ y) (fun _ y => y) fun _ _ y => y
      rcases hc with y | y
      · rw [y]; exact nt b u q
      · exact nt c _ y
  have sel : ∀ l : List Addr, (∀ b ∈ l, b ∈ G.SS) → ∃ ps : List (Addr × Obj), ps.map (·.1) = l ∧ ∀ p ∈ ps, p.1 ∈ G.SS ∧ hh.get? p.1 = some p.2 ∧ ∀ v, p.2.data ≠ .cell v := by
    intro l
    induction l with
    | nil => exact fun _ => ⟨[], rfl, fun p hp => by simp at hp⟩
    | cons b l ih =>
      intro hl
      obtain ⟨ps, e1, e2⟩ := ih fun b' hb' => hl b' (List.mem_cons_of_mem _ hb')
      obtain ⟨o, h1, h2⟩ := z4 b (hl b List.mem_cons_self)
      refine ⟨(b, o) :: ps, by rw [List.map_cons, e1], fun p hp => ?_⟩
      rcases List.mem_cons.mp hp with rfl | hp
      · exact ⟨hl _ List.mem_cons_self, h1, h2⟩
      · exact e2 p hp
  obtain ⟨ps, e1, e2⟩ := sel G.SS fun _ h => h
  refine ⟨ps, e1, ?_⟩
  rw [List.append_nil]
  refine J.pins_of fun p hp => ?_
  obtain ⟨q1, q2, q3⟩ := e2 p hp
  obtain ⟨h1, h2, h3⟩ := pin p.1 q1
  exact ⟨q2, h1, h2, h3, q3⟩

/-- how things stand, seen from where the generator was made (at s4, H4) -/
structure GBack (X : Cx) (s4 : Shared) (H4 : Hp) (fp : List Addr) (a : Addr) (g : Nat) (H : Hp) (s : Shared) : Prop where
  os : s.os = s4.os
  bare : AllBare s.gens
  un : Un (frs X.stack) fp H4 H s4.heap s.heap
  hok : HOk X.prog X.w H s.heap
  lim : s.heap.NoLimit
  gen : s.heap.IsGen a g
def GYp (X : Cx) {γ : Type} (G : Con γ) (s4 : Shared) (H4 : Hp) (fp : List Addr) (a : Addr) (g : Nat) : Protocol := fun n s₀ v s kap =>
  ∃ c y H Nx, RelV y v ∧ GBack X s4 H4 fp a g H s ∧ G.tag c s.heap ∧ G.C c y H Nx ∧ ∀ c' s', Nx c' H → Woke G c' s s' → kap (.send .none) s'
abbrev GRp (X : Cx) {γ : Type} (G : Con γ) (s4 : Shared) (H4 : Hp) (fp : List Addr) (a : Addr) (g : Nat) : GenEnd := fun n s₀ r s₁ =>
  r = .ok .next ∧ (∃ c H, GBack X s4 H4 fp a g H s₁ ∧ G.tag c s₁.heap ∧ G.Fin c H)
/-- the turns, in the abstract -/
def gTurns {γ : Type} (G : Con γ) (J : It) (g : TG) (tt : TT) (te : TE) (vs : List Nat) (σ : L2.St) (W : γ → Nat → Nat → Hp → Prop) : Prop := ∀ c i m H, W c i m H →
  (J.stop i H ∧ G.Fin c H) ∨ (J.go i H ∧ ∃ Nx : γ → Hp → Prop, (∀ c' H', Nx c' H' → ∃ m', m' < m ∧ W c' (i + 1) m' H') ∧ ∀ x H', J.yld i H x H' → g x (wipe σ vs) H' fun σ2 H2 => wipe σ2 vs = wipe σ vs ∧ tt σ2 H2 fun b H3 =>
    if b = true then te σ2 H3 fun y H4 => G.C c y H4 Nx else Nx c H3)

section
variable {X : Cx} {γ : Type} {G : Con γ} {s4 : Shared} {H4 : Hp} {fp : List Addr} {a : Addr} {gn : Nat} {B : Around} {cenv : Env} {pn : List (Addr × Obj)} {it : Addr} {tn : Nat → Heap → Prop} {J : It} {elt tg iter : Expr} {ifs : List Expr} {scope : Scope} {own : List (Str × Nat)} {pos : Pos} {g : TG} {tt : TT} {te : TE} {σ : L2.St} {W : γ → Nat → Nat → Hp → Prop}
theorem GI.inv {Y : Cx} {SS : List Addr} {ip : List (Addr × Obj)} {σ : L2.St} {H : Hp} {s : Shared} (h : GI Y SS ip σ H s) : ∃ pins, Inv Y pins σ H s := let ⟨p, _, I⟩ := h; ⟨_, I⟩
theorem GI.back {SS : List Addr} {ip : List (Addr × Obj)} {σ : L2.St} {H : Hp} {s : Shared} {A : Around} (h : GI (Gcx X A s4 H4 cenv fp pn) SS ip σ H s) (hp : ∃ p ∈ pn, p.1 = a ∧ ∀ h : Heap, h.get? a = some p.2 → h.IsGen a gn) : GBack X s4 H4 fp a gn H s := by
  obtain ⟨pins, _, I⟩ := h
  refine ⟨I.os, I.bare, I.base, I.hok, I.nolimit, ?_⟩
  obtain ⟨p, h1, h2, h3⟩ := hp
  have := (I.pin p (List.mem_append_left _ h1)).1
  rw [h2] at this
  exact h3 _ this
theorem seg_gl (hB : B.handled = none) (T : Turn X.prog X.w X.K tg J fp it tn) (hco : cenv.scope.isCoroutine = false) (hap : GApart (Gcx X (B.deeper cenv) s4 H4 cenv fp pn) G.SS) (hgen : ∃ p ∈ pn, p.1 = a ∧ ∀ h : Heap, h.get? a = some p.2 → h.IsGen a gn)
    (hpf : ∀ p ∈ pn, p.1 ∉ fp)
    (pg : PG (Gcx X (B.deeper cenv) s4 H4 cenv fp pn) tg g) (pt : PTs (Gcx X (B.deeper cenv) s4 H4 cenv fp pn) ifs tt) (pe : PE (Gcx X (B.deeper cenv) s4 H4 cenv fp pn) elt te) (turn : gTurns G J g tt te (own.map (·.2)) σ W) :
    ∀ (m n i : Nat) (s₀ s : Shared) (c : γ) (H : Hp), m < n → GI (Gcx X (B.deeper cenv) s4 H4 cenv fp pn) G.SS [] (wipe σ (own.map (·.2))) H s → tn i s.heap → (∀ b ∈ fp, H b = none) → G.tag c s.heap → W c i m H →
      Seg (model X.prog X.w) B (GRp X G s4 H4 fp a gn) (GYp X G s4 H4 fp a gn) n s₀ (.compLoop (.GeneratorExp elt [⟨tg, iter, ifs, 0⟩] scope pos) 0 (.ref it) .none cenv)
        ((model X.prog X.w).den (.compLoop (.GeneratorExp elt [⟨tg, iter, ifs, 0⟩] scope pos) 0 (.ref it) .none cenv)) [] s := by
  intro m
  induction m using Nat.strongRecOn with
  | ind m ih =>
    intro n i s₀ s c H hmn hI st hf ht hW
    show Seg _ B _ _ _ s₀ _ ((compTurn (.GeneratorExp elt [⟨tg, iter, ifs, 0⟩] scope pos) 0 (.ref it) .none cenv).onRaise (leaving cenv)) [] s
    rw [compTurn_gen, Sem.onRaise_eq_wrap]
    refine seg_bind_wrap (wpAny_standAt ?_)
    have stat : ∀ {ip : List (Addr × Obj)} {σ' : L2.St} {H' : Hp} {s' : Shared}, Inv (Gcx X (B.deeper cenv) s4 H4 cenv fp pn) ip σ' H' s' → (∀ p ∈ ip, p.1 ∉ fp) → (∀ b ∈ fp, H' b = none) → ∀ b ∈ fp, FpOk (Gcx X (B.deeper cenv) s4 H4 cenv fp pn) ip H' b := fun {ip σ' H' s'} I' hip hn b hb =>
      ⟨hn b hb, (I'.ok.exf b hb).1, I'.ok.exfs b hb, .inl hb, fun x c e => (I'.ok.exf b hb).2 x c e, fun p hp z => (List.mem_append.mp hp).elim (fun q => hpf p q (by rw [z]; exact hb)) fun q => hip p q (by rw [z]; exact hb)⟩
    obtain ⟨ps, eps, I⟩ := hI
    rw [List.append_nil] at I
    have hps : ∀ p ∈ ps, p.1 ∉ fp := fun p hp => hap.fp p.1 (by rw [← eps]; exact List.mem_map.mpr ⟨p, hp, rfl⟩)
    have tagP : ∀ {ip : List (Addr × Obj)} {σ' : L2.St} {H' : Hp} {s' : Shared}, Inv (Gcx X (B.deeper cenv) s4 H4 cenv fp pn) (ps ++ ip) σ' H' s' → G.tag c s'.heap := fun {ip σ' H' s'} I' => by
      refine G.tagK c s.heap _ (fun b hb o e => ?_) ht
      rw [← eps] at hb
      obtain ⟨p, hp, rfl⟩ := List.mem_map.mp hb
      have e1 := (I.pin p (List.mem_append_right _ hp)).1
      rw [e1] at e; cases e
      exact (I'.pin p (List.mem_append_right _ (List.mem_append_left _ hp))).1
    rcases turn c i m H hW with ⟨stop, qq⟩ | ⟨go, Nx, hNx, step⟩
    · have td := T.done (Gcx X (B.deeper cenv) s4 H4 cenv fp pn) rfl rfl rfl rfl i ps s _ H (fun _ _ => False) I (stat I hps hf) st stop
      refine seg_bind_wrap ?_
      rw [over_gl]
      refine thnF td fun r s6 ⟨hr, I6⟩ => ?_
      subst hr
      have I6' : Inv (Gcx X (B.deeper cenv) s4 H4 cenv fp pn) (ps ++ []) (wipe σ (own.map (·.2))) H s6 := by rw [List.append_nil]; exact I6
      exact seg_end (.ok .next) ⟨rfl, c, H, GI.back ⟨ps, eps, I6'⟩ hgen, tagP I6', qq⟩
    · have ti := T.item (Gcx X (B.deeper cenv) s4 H4 cenv fp pn) rfl rfl rfl rfl i ps s _ H (fun _ _ => False) I (stat I hps hf) st go
      refine seg_bind_wrap ?_
      rw [over_gl]
      refine thnF ti fun r s6 ⟨u, hr, h6⟩ => ?_
      subst hr
      refine seg_bind_wrap ?_
      rw [over_gl]
      refine thnF h6 fun _ s7 ⟨x, H7, I7, r7, y7, st7, n7⟩ => ?_
      have I7' := I7.pinned (stat I7 hps n7) (T.obj _ _ st7)
      refine seg_bind_wrap ?_
      rw [over_gl]
      refine thnF (pg.run _ s7 _ H7 x u _ I7' r7 (step x H7 y7)) fun _ s8 ⟨σ8, H8, I8, hw8, q8⟩ => ?_
      refine seg_bind_wrap ?_
      rw [over_gl]
      refine thnF (pt.run _ s8 σ8 H8 _ I8 q8) fun b s9 ⟨H9, I9, q9⟩ => ?_
      have hl8 : (wipe σ (own.map (·.2))).length = σ8.length := by rw [← hw8, wipe_length]
      have wk : ∀ {ip : List (Addr × Obj)} {H' : Hp} {s' : Shared}, Inv (Gcx X (B.deeper cenv) s4 H4 cenv fp pn) ip σ8 H' s' → Inv (Gcx X (B.deeper cenv) s4 H4 cenv fp pn) ip (wipe σ (own.map (·.2))) H' s' := fun {ip H' s'} I' =>
        I'.weak hl8 fun j v e => by
          rw [← hw8] at e
          exact (wipe_some e).1
      have pin' : ∀ {σ' : L2.St} {H' : Hp} {s' : Shared}, Inv (Gcx X (B.deeper cenv) s4 H4 cenv fp pn) (ps ++ pinsAt fp s7.heap) σ' H' s' → ∀ b ∈ fp, ∀ o, s7.heap.get? b = some o → s'.heap.get? b = some o ∧ H' b = none := fun {σ' H' s'} I' b hb o e =>
        let z := I'.pin (b, o) (List.mem_append_right _ (List.mem_append_right _ (mem_pinsAt hb e)))
        ⟨z.1, z.2.1⟩
      cases b with
      | false =>
        simp only [Bool.false_eq_true, if_false] at q9 ⊢
        obtain ⟨m', hm, w'⟩ := hNx c H9 q9
        have I9' := wk I9
        have J9 : Inv (Gcx X (B.deeper cenv) s4 H4 cenv fp pn) ps (wipe σ (own.map (·.2))) H9 s9 := I9'.pins_of fun p hp => I9'.pin p (List.mem_append_right _ (List.mem_append_left _ hp))
        refine seg_again rfl (ih m' hm n (i + 1) s₀ s9 c H9 (by omega) ⟨ps, eps, by rw [List.append_nil]; exact J9⟩ (T.keep _ _ _ st7 fun b hb o e => (pin' I9 b hb o e).1) (fun b hb => ?_) (tagP I9) w')
        obtain ⟨o, e, _⟩ := T.obj _ _ st7 b hb
        exact (pin' I9 b hb o e).2
      | true =>
        simp only [if_true] at q9 ⊢
        have hy : ∀ v, yieldOut cenv v = yieldValue v := fun v => by simp only [yieldOut, hco, Bool.false_eq_true, if_false]
        simp only [hy]
        rw [Sem.bind_eq_wrap', Sem.bind_eq_wrap', Sem.wrap_wrap, Sem.wrap_wrap]
        refine seg_wrap ?_
        rw [over_gl]
        refine thnF (pe.run _ s9 σ8 H9 _ I9 q9) fun v s10 ⟨y, H10, I10, r10, q10⟩ => ?_
        have I10' := wk I10
        have J10 : Inv (Gcx X (B.deeper cenv) s4 H4 cenv fp pn) ps (wipe σ (own.map (·.2))) H10 s10 := I10'.pins_of fun p hp => I10'.pin p (List.mem_append_right _ (List.mem_append_left _ hp))
        have G10 : GI (Gcx X (B.deeper cenv) s4 H4 cenv fp pn) G.SS [] (wipe σ (own.map (·.2))) H10 s10 := ⟨ps, eps, by rw [List.append_nil]; exact J10⟩
        obtain ⟨n, rfl⟩ : ∃ k, n = k + 1 := ⟨n - 1, by omega⟩
        refine seg_at (seg_yield rfl rfl rfl ⟨c, y, H10, Nx, r10, GI.back G10 hgen, tagP I10, q10, fun c' s'' hnx hw => ?_⟩)
        obtain ⟨m', hm, w'⟩ := hNx c' H10 hnx
        have st10 : tn (i + 1) s10.heap := T.keep _ _ _ st7 fun b hb o e => (pin' I10 b hb o e).1
        refine seg_again rfl (ih m' hm n (i + 1) s'' s'' c' H10 (by omega) (G10.woken hap hw) (T.keep _ _ _ st10 fun b hb o e => hw.keep b o (fun hm => hap.fp b hm hb) e) (fun b hb => ?_) hw.tag w')
        obtain ⟨o, e, _⟩ := T.obj _ _ st7 b hb
        exact (pin' I10 b hb o e).2
theorem seg_gs (hB : B.handled = none) (T : Turn X.prog X.w X.K tg J fp it tn) (hco : cenv.scope.isCoroutine = false) (hap : GApart (Gcx X (B.deeper cenv) s4 H4 cenv fp pn) G.SS) (hgen : ∃ p ∈ pn, p.1 = a ∧ ∀ h : Heap, h.get? a = some p.2 → h.IsGen a gn)
    (hpf : ∀ p ∈ pn, p.1 ∉ fp)
    (pg : PG (Gcx X (B.deeper cenv) s4 H4 cenv fp pn) tg g) (pt : PTs (Gcx X (B.deeper cenv) s4 H4 cenv fp pn) ifs tt) (pe : PE (Gcx X (B.deeper cenv) s4 H4 cenv fp pn) elt te) (turn : gTurns G J g tt te (own.map (·.2)) σ W)
    {m n : Nat} {s₀ s : Shared} {c : γ} {H : Hp} (hmn : m < n) (hI : GI (Gcx X (B.deeper cenv) s4 H4 cenv fp pn) G.SS [] (wipe σ (own.map (·.2))) H s) (st : tn 0 s.heap) (hf : ∀ b ∈ fp, H b = none) (ht : G.tag c s.heap) (hW : W c 0 m H) :
    Seg (model X.prog X.w) B (GRp X G s4 H4 fp a gn) (GYp X G s4 H4 fp a gn) n s₀ (.compStart (.GeneratorExp elt [⟨tg, iter, ifs, 0⟩] scope pos) 0 (.ref it) .none cenv)
      ((model X.prog X.w).den (.compStart (.GeneratorExp elt [⟨tg, iter, ifs, 0⟩] scope pos) 0 (.ref it) .none cenv)) [] s := by
  have loop := seg_gl (iter := iter) (scope := scope) (pos := pos) hB T hco hap hgen hpf pg pt pe turn m n 0 s₀ s c H hmn hI st hf ht hW
  show Seg _ B _ _ _ s₀ _ ((compStart (.GeneratorExp elt [⟨tg, iter, ifs, 0⟩] scope pos) 0 (.ref it) .none cenv).onRaise (leaving cenv)) [] s
  unfold compStart
  rw [Sem.onRaise_eq_wrap]
  show Seg _ B _ _ _ s₀ _ ((ask >>= _).wrap _ _ _ _) [] s
  refine seg_bind_wrap (wpAny_askSetting ?_)
  split
  · exact seg_again rfl loop
  · first
      | exact seg_bind_wrap (wpAny_rule (seg_bind_wrap (wpAny_standAt (seg_bind_wrap (T.self _ 0 _ _ _ st (seg_again rfl loop))))))
      | (refine seg_bind_wrap (wpAny_rule ?_); show Seg _ B _ _ _ s₀ _ ((standAt iter.pos >>= _).wrap _ _ _ _) [] s; exact seg_bind_wrap (wpAny_standAt (seg_bind_wrap (T.self _ 0 _ _ _ st (seg_again rfl loop)))))

/-- ready to be pulled, n times at most -/
def Ready (X : Cx) {γ : Type} (G : Con γ) (s4 : Shared) (H4 : Hp) (fp : List Addr) (a : Addr) (gn : Nat) (B : Around) (n : Nat) (s : Shared) : Prop :=
  s.heap.IsGen a gn ∧ s.heap.NoLimit ∧ ∃ gs, s.gens[gn]? = some gs ∧ gs.Goes (model X.prog X.w) B (GRp X G s4 H4 fp a gn) (GYp X G s4 H4 fp a gn) n (.send .none) (s.setGen gn .running)
theorem pull {A : Around} {n : Nat} {s : Shared} {Q : Option Value → Shared → Prop} {E : Value → Shared → Prop} (hh : A.handled = none) (hd : A.depth < recursionLimit) (rd : Ready X G s4 H4 fp a gn A.in1 n s) (haS : a ∉ G.SS) (hcS : cStatics ∉ G.SS)
    (hs : ∀ v c y H Nx s1, RelV y v → GBack X s4 H4 fp a gn H s1 → G.tag c s1.heap → G.C c y H Nx →
      (∀ c' s2, Nx c' H → s2.os = s1.os → s2.gens = s1.gens → (∀ b o, b ∉ G.SS → s1.heap.get? b = some o → s2.heap.get? b = some o) → (∀ b ∈ G.SS, ∃ o, s2.heap.get? b = some o ∧ ∀ v, o.data ≠ .cell v) → G.tag c' s2.heap → ∃ n', n' < n ∧ Ready X G s4 H4 fp a gn A.in1 n' s2) → Q (some v) s1)
    (hn : ∀ c H s1, GBack X s4 H4 fp a gn H s1 → G.tag c s1.heap → G.Fin c H → Q none s1) : wpAny (model X.prog X.w) A (pyNext (.ref a)) Q E s := by
  obtain ⟨hg, hl, gs, hgs, hgo⟩ := rd
  have hgl : gn < s.gens.size := (Array.getElem?_eq_some_iff.mp hgs).1
  refine wpAny_gsz (n := gn + 1) hgl (wpAny_pyNext_genexpQ (P := fun n s₀ s₁ => ∃ c H, GBack X s4 H4 fp a gn H s₁ ∧ G.tag c s₁.heap ∧ G.Fin c H) hh hl hd hg hgs hgo (fun v s₁ gs' hb hv => ?_) fun s₁ hp h' hk => ?_)
  · intro hsz
    obtain ⟨c, y, H, Nx, rv, bk, ht, hC, hkap⟩ := hv
    have hsz1 : gn < s₁.gens.size := by
      have q : (s₁.setGen gn gs').gens.size = s₁.gens.size := setGen_size _ _ _
      have hsz' : gn + 1 ≤ (s₁.setGen gn gs').gens.size := hsz
      omega
    have bare' : AllBare (s₁.setGen gn gs').gens := allBare_setGen bk.bare hb
    refine hs v c y H Nx (s₁.setGen gn gs') rv ⟨bk.os, bare', bk.un, bk.hok, bk.lim, bk.gen⟩ ht hC fun c' s2 hnx ho hgq hkeep hown htag => ?_
    have hlim2 : s2.heap.NoLimit := by
      obtain ⟨mc, hns, hnn⟩ := bk.lim
      exact ⟨mc, hns.at' fun o e => hkeep cStatics o hcS e, hnn⟩
    have hgen2 : s2.heap.IsGen a gn := by
      obtain ⟨o, nm, qn, ho, r⟩ := bk.gen
      exact ⟨o, nm, qn, hkeep a o haS ho, r⟩
    have hat : s2.gens[gn]? = some gs' := by rw [hgq]; exact setGen_at hsz1
    have hw : Woke G c' s₁ (s2.setGen gn .running) := ⟨ho, allBare_setGen (by rw [hgq]; exact bare') rfl, hkeep, hown, htag⟩
    cases n with
    | zero => exact False.elim (hkap c' _ hnx hw)
    | succ n => exact ⟨n, Nat.lt_succ_self _, hgen2, hlim2, gs', hat, hkap c' _ hnx hw⟩
  · intro _
    obtain ⟨c, H, bk, ht, hF⟩ := hp
    refine hn c H _ ⟨bk.os, allBare_setGen bk.bare rfl, bk.un.trans (Un.kept hk), bk.hok.kept hk, bk.lim.keeps hk, bk.gen.keeps hk⟩ (G.tagK c _ _ (fun b _ o e => hk b o e) ht) hF
end

/-- all stays but that tables grow -/
structure CExt (H H' : Hp) : Prop where
  ext : LamX.ExtN H H'
  tbl : ∀ b ps, H b = some (.tbl ps) → ∃ ps', H' b = some (.tbl ps')
theorem CExt.refl (H : Hp) : CExt H H := ⟨.refl H, fun _ ps h => ⟨ps, h⟩⟩
/-- what stands when a generator has just been made -/
structure NewG (X : Cx) (pins : List (Addr × Obj)) (σ : L2.St) (s4 : Shared) (H4 : Hp) (fp : List Addr) (a gn : Nat) (s5 : Shared) : Prop where
  inv : Inv X pins σ H4 s4
  fpok : ∀ b ∈ fp, FpOk X pins H4 b ∧ b < s4.heap.objs.size
  os : s5.os = s4.os
  bare : AllBare s5.gens
  keep : ∀ b o, s4.heap.get? b = some o → s5.heap.get? b = some o
  lt : a < s5.heap.objs.size
  ge : s4.heap.objs.size ≤ a
  gen : s5.heap.IsGen a gn
theorem NewG.now {X : Cx} {pins : List (Addr × Obj)} {σ : L2.St} {s4 : Shared} {H4 : Hp} {fp : List Addr} {a gn : Nat} {s5 : Shared} (N : NewG X pins σ s4 H4 fp a gn s5) : Inv X pins σ H4 s5 :=
  N.inv.call' (ch := []) N.os (Un.kept N.keep) (N.inv.hok.kept N.keep) N.bare fun b z => by simp at z
theorem NewG.after {X : Cx} {pins : List (Addr × Obj)} {σ : L2.St} {s4 : Shared} {H4 H : Hp} {fp : List Addr} {a gn : Nat} {s5 s : Shared} (N : NewG X pins σ s4 H4 fp a gn s5) (b : GBack X s4 H4 fp a gn H s) : Inv X pins σ H s :=
  N.inv.call' (ch := fp) b.os b.un b.hok b.bare fun b hb => ⟨(N.fpok b hb).1.2.2.2.1, (N.fpok b hb).1.2.1, (N.fpok b hb).1.2.2.2.2.1, (N.fpok b hb).1.2.2.2.2.2⟩
theorem NewG.static {X : Cx} {pins : List (Addr × Obj)} {σ : L2.St} {s4 : Shared} {H4 : Hp} {fp : List Addr} {a gn : Nat} {s5 : Shared} (N : NewG X pins σ s4 H4 fp a gn s5) : cStatics < s5.heap.objs.size := by
  obtain ⟨_, hns, _⟩ := N.now.nolimit
  exact hns.lt

section
variable {X : Cx} {pins : List (Addr × Obj)} {σ : L2.St} {H : Hp} {s : Shared} {elt tg iter : Expr} {ifs : List Expr} {scope : Scope} {own : List (Str × Nat)} {pos : Pos} {g : TG} {tt : TT} {te : TE}
theorem gen_make {k : Nat} {c P : Addr} {Tl : List (Addr × Str)} {wi : TI} {R : It → Hp → Prop} {Q : Value → Shared → Prop} (hr : Room (k + 1) X.A) (hN : X.N.Nodup) (TB : LamX.TabB X.base X.mg c P) (hcode : X.env.code = .ref c) (hm : (P, X.env.qual ++ "<genexpr>") ∈ Tl) (hu : ∀ p ∈ Tl, p.1 = P → p.2 = X.env.qual ++ "<genexpr>")
    (ok : BlkOk X.N X.env.scope scope own) (hcell : ∀ y ∈ scope.names, y.2 ≠ .cell) (hdot : scope.names.lookup (".0" : Str) = some NameKind.local) (hco : scope.isCoroutine = false) (hi : PI X tg iter wi) (hs : ∀ x, genFold iter X.env x = pure x)
    (hg : ∀ (B : Around) (s : Shared) (H : Hp) (C : Addr) (code : Value) (fp : List Addr) (pn : List (Addr × Obj)), Room k (B.deeper (gEnv X scope C code)) → PG (Gcx X (B.deeper (gEnv X scope C code)) s H (gEnv X scope C code) fp pn) tg g)
    (ht : ∀ (B : Around) (s : Shared) (H : Hp) (C : Addr) (code : Value) (fp : List Addr) (pn : List (Addr × Obj)), Room k (B.deeper (gEnv X scope C code)) → PTs (Gcx X (B.deeper (gEnv X scope C code)) s H (gEnv X scope C code) fp pn) ifs tt)
    (he : ∀ (B : Around) (s : Shared) (H : Hp) (C : Addr) (code : Value) (fp : List Addr) (pn : List (Addr × Obj)), Room k (B.deeper (gEnv X scope C code)) → PE (Gcx X (B.deeper (gEnv X scope C code)) s H (gEnv X scope C code) fp pn) elt te)
    (I : Inv X pins σ H s) (h : wi σ H fun J H1 => LamX.Tabs Tl H1 ∧ ∀ H2, CExt H1 H2 → LamX.Tabs Tl H2 → R J H2)
    (hQ : ∀ (s4 : Shared) (H4 : Hp) (fp : List Addr) (a gn : Nat) (J : It) (s5 : Shared), NewG X pins σ s4 H4 fp a gn s5 → R J H4 →
      (∀ {γ : Type} (G : Con γ) (W : γ → Nat → Nat → Hp → Prop) (B : Around) (m n : Nat) (c : γ) (s2 : Shared), gTurns G J g tt te (own.map (·.2)) σ W → W c 0 m H4 → m < n → Room k (B.deeper X.env) → B.frames = some X.stack → (∀ b ∈ G.SS, s5.heap.objs.size ≤ b) →
        s2.os = s5.os → s2.gens = s5.gens → (∀ b o, s5.heap.get? b = some o → s2.heap.get? b = some o) → (∀ b ∈ G.SS, ∃ o, s2.heap.get? b = some o ∧ ∀ v, o.data ≠ .cell v) → G.tag c s2.heap → Ready X G s4 H4 fp a gn B n s2) → Q (.ref a) s5) :
    wpAny (model X.prog X.w) X.A (eval (.GeneratorExp elt [⟨tg, iter, ifs, 0⟩] scope pos) X.env) Q X.xe s := by
  have hfree : ∀ y ∈ scope.names, y.2 = .free → ∃ c, X.env.cells.lookup y.1 = some c := fun y hy e => by
    rcases ok.free y hy e with k | k
    · exact I.ok.has _ (.inl k)
    · exact I.ok.has _ (.inr k)
  refine wpAny_GeneratorExp_make hco (closure_ok hfree) hcell hdot ok.kind (by have := hr.dp; omega) (thn (hi.run pins s σ H _ I h) fun xv s1 hx => thn hx fun itv s2 h2 => ?_) hs
  obtain ⟨it, fp, tn, J, H2, e, I2, T, st2, f2, hT, q⟩ := h2
  subst e
  refine ⟨I2.nolimit, ?_⟩
  obtain ⟨ps, hP, htr, ha⟩ := hT _ hm
  have hPs : s2.heap.get? P = some { cls := .none, data := .fields ps } := I2.hok P _ hP
  have cd : PySem.W.CodeHd s2.heap c P := TB.code.keeps fun b u e => I2.bk b u e
  have cont : ∀ (code : Value) (H3 : Hp) (s3 : Shared), Inv X pins σ H3 s3 → CExt H2 H3 → LamX.Tabs Tl H3 → (∀ b ∈ fp, FpOk X pins H3 b) → (∀ b o, b ≠ P → s2.heap.get? b = some o → s3.heap.get? b = some o) →
      wpAny (model X.prog X.w) X.A (builtinsFor X.env.globals X.env.builtins) (fun bi s₄ => ∀ h' : Heap, h'.Ns s₄.heap.objs.size (fun y => if y = ".0" then some (.ref it) else none) → Heap.SameBut s₄.heap.objs.size (s₄.heap.push { cls := .type "frame", data := .dict #[] }) h' →
          Q (.ref h'.objs.size) { s₄ with
            gens := s₄.gens.push (.fresh (.compStart (.GeneratorExp elt [⟨tg, iter, ifs, 0⟩] scope pos) 0 (.ref it) .none (genEnv scope (cloFrom X.env.cells scope.names []) s₄.heap.objs.size code bi X.env))),
            toks := s₄.toks + 1 + 1 + 1,
            heap := h'.push { cls := .type "generator", data := .fields #[.int s₄.gens.size 0, .str "<genexpr>" (s₄.toks + 1), .str (X.env.qual ++ "<genexpr>") (s₄.toks + 1 + 1)] } }) X.xe s3 := by
    intro code H3 s3 I3 hE hT3 f3 k3
    obtain ⟨bm, ob, e1, e2, e3, e4, e5, e6, e7, e8⟩ := TB.bm
    refine wpAny_builtinsFor (m := X.mg) (by rw [I3.ok.glob]; exact I3.mod.glob.keeps I3.bk) e1 e2 (I3.bk _ _ e5) e6 e7 e8 ?_
    intro h' hn' hs'
    have hsz : h'.objs.size = s3.heap.objs.size + 1 := by rw [hs'.1, Heap.size_push]
    have keep' : ∀ b o, s3.heap.get? b = some o → h'.get? b = some o := fun b o e => hs'.extBut b o (Nat.ne_of_lt (Heap.lt_size e)) (Heap.get?_push_of_some _ e)
    have hgo : ∀ h : Heap, h.get? h'.objs.size = some ({ cls := .type "generator", data := .fields #[.int s3.gens.size 0, .str "<genexpr>" (s3.toks + 1), .str (X.env.qual ++ "<genexpr>") (s3.toks + 1 + 1)] } : Obj) → h.IsGen h'.objs.size s3.gens.size := fun h e => ⟨_, _, _, e, rfl, rfl, rfl⟩
    have hpush := Heap.get?_push_size h' (o := { cls := .type "generator", data := .fields #[.int s3.gens.size 0, .str "<genexpr>" (s3.toks + 1), .str (X.env.qual ++ "<genexpr>") (s3.toks + 1 + 1)] }) rfl
    have nPfp : ∀ b ∈ fp, b ≠ P := fun b hb z => by
      have := (f2 b hb).1
      rw [z, hP] at this; cases this
    have flt : ∀ b ∈ fp, b < s3.heap.objs.size := fun b hb => by
      obtain ⟨o, e, _⟩ := T.obj _ _ st2 b hb
      exact Heap.lt_size (k3 b o (nPfp b hb) e)
    have N : NewG X pins σ s3 H3 fp h'.objs.size s3.gens.size { s3 with
            gens := s3.gens.push (.fresh (.compStart (.GeneratorExp elt [⟨tg, iter, ifs, 0⟩] scope pos) 0 (.ref it) .none (gEnv X scope s3.heap.objs.size code))),
            toks := s3.toks + 1 + 1 + 1,
            heap := h'.push { cls := .type "generator", data := .fields #[.int s3.gens.size 0, .str "<genexpr>" (s3.toks + 1), .str (X.env.qual ++ "<genexpr>") (s3.toks + 1 + 1)] } } :=
      ⟨I3, fun b hb => ⟨f3 b hb, flt b hb⟩, rfl, AllBare.push I3.bare rfl, fun b o e => Heap.get?_push_of_some _ (keep' b o e), by show h'.objs.size < (h'.push _).objs.size; rw [Heap.size_push]; exact Nat.lt_succ_self _, by show s3.heap.objs.size ≤ h'.objs.size; omega, hgo _ hpush⟩
    refine hQ s3 H3 fp h'.objs.size s3.gens.size J _ N (q H3 hE hT3) fun {γ} G W B m n cc s6 turn hW hmn hrB hfr hSS hos hgs hkp hown htag => ?_
    have hsz5 : (h'.push { cls := .type "generator", data := .fields #[.int s3.gens.size 0, .str "<genexpr>" (s3.toks + 1), .str (X.env.qual ++ "<genexpr>") (s3.toks + 1 + 1)] }).objs.size = s3.heap.objs.size + 2 := by rw [Heap.size_push, hsz]
    have hSS' : ∀ b ∈ G.SS, s3.heap.objs.size + 2 ≤ b := fun b hb => by rw [← hsz5]; exact hSS b hb
    have nofr : ∀ f, s3.heap.objs.size ≤ f → f ∉ frs X.stack := fun f hf z => by
      rcases List.mem_cons.mp (I3.stkSub _ z) with e | e
      · have h1 := I3.lt
        rw [← e] at h1
        exact Nat.lt_irrefl _ (Nat.lt_of_lt_of_le h1 hf)
      · exact I3.nofs hf e
    have kp6 : ∀ b o, s3.heap.get? b = some o → s6.heap.get? b = some o := fun b o e => hkp b o (Heap.get?_push_of_some _ (keep' b o e))
    have hga : s6.heap.get? h'.objs.size = some { cls := .type "generator", data := .fields #[.int s3.gens.size 0, .str "<genexpr>" (s3.toks + 1), .str (X.env.qual ++ "<genexpr>") (s3.toks + 1 + 1)] } := hkp _ _ hpush
    have hbare6 : AllBare (s6.setGen s3.gens.size .running).gens := allBare_setGen (by rw [hgs]; exact AllBare.push I3.bare rfl) rfl
    have hroom : Room k (B.deeper (gEnv X scope s3.heap.objs.size code)) := ⟨hrB.hd, hrB.dp, hrB.un⟩
    have I6 : Inv (Gcx X (B.deeper (gEnv X scope s3.heap.objs.size code)) s3 H3 (gEnv X scope s3.heap.objs.size code) fp [(h'.objs.size, { cls := .type "generator", data := .fields #[.int s3.gens.size 0, .str "<genexpr>" (s3.toks + 1), .str (X.env.qual ++ "<genexpr>") (s3.toks + 1 + 1)] })]) [] (wipe σ (own.map (·.2))) H3
        { s3 with heap := s6.heap, gens := (s6.setGen s3.gens.size .running).gens, drawn := s6.drawn, toks := s6.toks } := by
      refine gen_start (it := .ref it) I3 ok hN hcell (fun b hb => ⟨f3 b hb, flt b hb⟩) (Around.frames_deeper hfr) hrB.hd (hn'.keeps fun b o e => hkp b o (Heap.get?_push_of_some _ e)) kp6 hbare6 fun p hp => ?_
      rw [List.mem_singleton.mp hp]
      exact ⟨hga, I3.hok.fresh (by show s3.heap.objs.size ≤ h'.objs.size; omega), (by show h'.objs.size ≠ _; omega), nofr _ (by show s3.heap.objs.size ≤ h'.objs.size; omega), fun v z => by cases z⟩
    have e6 : ({ s3 with heap := s6.heap, gens := (s6.setGen s3.gens.size .running).gens, drawn := s6.drawn, toks := s6.toks } : Shared) = s6.setGen s3.gens.size .running := GxR.sh_eta s3 (s6.setGen s3.gens.size .running) hos
    rw [e6] at I6
    have sel : ∀ l : List Addr, (∀ b ∈ l, b ∈ G.SS) → ∃ ps : List (Addr × Obj), ps.map (·.1) = l ∧ ∀ p ∈ ps, p.1 ∈ G.SS ∧ s6.heap.get? p.1 = some p.2 ∧ ∀ v, p.2.data ≠ .cell v := by
      intro l
      induction l with
      | nil => exact fun _ => ⟨[], rfl, fun p hp => by simp at hp⟩
      | cons b l ih =>
        intro hl
        obtain ⟨ps, e1, e2⟩ := ih fun b' hb' => hl b' (List.mem_cons_of_mem _ hb')
        obtain ⟨o, h1, h2⟩ := hown b (hl b List.mem_cons_self)
        refine ⟨(b, o) :: ps, by rw [List.map_cons, e1], fun p hp => ?_⟩
        rcases List.mem_cons.mp hp with rfl | hp
        · exact ⟨hl _ List.mem_cons_self, h1, h2⟩
        · exact e2 p hp
    obtain ⟨pp, ep1, ep2⟩ := sel G.SS fun _ h => h
    have hGI : GI (Gcx X (B.deeper (gEnv X scope s3.heap.objs.size code)) s3 H3 (gEnv X scope s3.heap.objs.size code) fp [(h'.objs.size, { cls := .type "generator", data := .fields #[.int s3.gens.size 0, .str "<genexpr>" (s3.toks + 1), .str (X.env.qual ++ "<genexpr>") (s3.toks + 1 + 1)] })]) G.SS [] (wipe σ (own.map (·.2))) H3 (s6.setGen s3.gens.size .running) := by
      refine ⟨pp, ep1, ?_⟩
      rw [List.append_nil]
      refine I6.pins_of fun p hp => ?_
      obtain ⟨q1, q2, q3⟩ := ep2 p hp
      have := hSS' p.1 q1
      exact ⟨q2, I3.hok.fresh (by omega), Nat.ne_of_gt (Nat.lt_of_lt_of_le (Nat.lt_succ_of_lt (Nat.lt_succ_self _)) this), nofr _ (by omega), q3⟩
    have hap : GApart (Gcx X (B.deeper (gEnv X scope s3.heap.objs.size code)) s3 H3 (gEnv X scope s3.heap.objs.size code) fp [(h'.objs.size, { cls := .type "generator", data := .fields #[.int s3.gens.size 0, .str "<genexpr>" (s3.toks + 1), .str (X.env.qual ++ "<genexpr>") (s3.toks + 1 + 1)] })]) G.SS := by
      refine ⟨fun b hb => (by have := hSS' b hb; show s3.heap.objs.size ≤ b; omega), fun b hb => Nat.ne_of_gt (Nat.lt_of_lt_of_le (Nat.lt_succ_of_lt (Nat.lt_succ_self _)) (hSS' b hb)), fun b hb x c' e z => ?_, fun b hb p hp z => ?_, fun b hb z => ?_⟩
      · have := hSS' b hb
        have e : (cloFrom X.env.cells scope.names []).lookup x = some c' := e
        rcases cloFrom_mem (PySem.mem_of_lookup e) with hm' | ⟨h1, h2⟩
        · cases hm'
        · obtain ⟨c1, hc1⟩ := hfree _ h1 rfl
          rw [hc1] at h2
          have h2 : c' = c1 := h2
          obtain ⟨w', z'⟩ := I3.cell x c1 hc1
          have hlt := z'.lt
          rw [← h2, z] at hlt
          exact absurd (Nat.lt_of_lt_of_le hlt (Nat.le_trans (Nat.le_add_right _ 2) this)) (Nat.lt_irrefl _)
      · have := hSS' b hb
        rw [List.mem_singleton.mp hp] at z
        have z : h'.objs.size = b := z
        rw [← z] at this
        omega
      · have h1 := hSS' b hb
        have z : b ∈ fp := z
        exact absurd (Nat.lt_of_lt_of_le (flt b z) (Nat.le_trans (Nat.le_add_right _ 2) h1)) (Nat.lt_irrefl _)
    refine ⟨hgo _ hga, I3.nolimit.keeps kp6, .fresh (.compStart (.GeneratorExp elt [⟨tg, iter, ifs, 0⟩] scope pos) 0 (.ref it) .none (gEnv X scope s3.heap.objs.size code)), by rw [hgs]; exact Array.getElem?_push_size .., ?_⟩
    refine ⟨rfl, ?_⟩
    refine seg_gs (own := own) (B := B) (show B.handled = none from hrB.hd) T hco hap ⟨(h'.objs.size, { cls := .type "generator", data := .fields #[.int s3.gens.size 0, .str "<genexpr>" (s3.toks + 1), .str (X.env.qual ++ "<genexpr>") (s3.toks + 1 + 1)] }), List.mem_singleton.mpr rfl, rfl, hgo⟩ (fun p hp z => ?_) (hg B s3 H3 _ code fp _ hroom) (ht B s3 H3 _ code fp _ hroom) (he B s3 H3 _ code fp _ hroom) turn hmn hGI (T.keep _ _ _ st2 fun b hb o e => kp6 b o (k3 b o (nPfp b hb) e)) (fun b hb => (f3 b hb).1) htag hW
    rw [List.mem_singleton.mp hp] at z
    have h1 : h'.objs.size < s3.heap.objs.size := flt _ z
    omega
  cases hf : codeAmong pos ps.toList with
  | none =>
    refine wpAny_genexprCodeX hcode (cd.code hPs htr) (cd.tab hPs) hf fun c' h' tk hx hge hlt hco' hrec htab' _ => ?_
    obtain ⟨c2, oc, vs, t, e2, hoc, hd, hv⟩ := hrec
    cases e2
    have nC : H2 c' = none := I2.hok.fresh hge
    have I3 := LamX.inv_table (t' := tk) (more := #[rawInt pos.line, rawInt pos.col, .ref c']) (h' := h') I2 hP (fun b o hb e => hx b o hb e) htab'.2 hge ⟨oc, vs, t, hoc, hd, hv⟩
    have hE : CExt H2 (upd (upd H2 P (.tbl (ps ++ #[rawInt pos.line, rawInt pos.col, .ref c']))) c' (LamX.CodeO c' (X.env.qual ++ "<genexpr>"))) := ⟨fun b o e n => by
      rw [upd_ne (ne_of_none e nC), upd_ne (fun z => n ps (Option.some.inj (e.symm.trans (by rw [z]; exact hP))))]
      exact e, fun b qs e => by
      by_cases hb : b = P
      · exact ⟨_, by rw [hb, upd_ne (ne_of_none hP nC), upd_same]⟩
      · exact ⟨qs, by rw [upd_ne (ne_of_none e nC), upd_ne hb]; exact e⟩⟩
    have eL : (ps ++ #[rawInt pos.line, rawInt pos.col, Value.ref c']).toList = ps.toList ++ [rawInt pos.line, rawInt pos.col, .ref c'] := by simp
    refine cont _ _ _ I3 hE (fun p hp => ?_) (fun b hb => ?_) fun b o hb e => hx b o hb e
    · by_cases hb : p.1 = P
      · rw [hu p hp hb, hb]
        refine ⟨_, by rw [upd_ne (ne_of_none hP nC), upd_same], by rw [eL]; exact PySem.TriplesOk_snoc _ _ _ _ htr, fun p' cv hcv => ?_⟩
        rw [eL] at hcv
        rcases LamX.among_app _ htr hcv with z | z
        · obtain ⟨c0, e1, e2⟩ := ha p' cv z
          exact ⟨c0, e1, hE.ext _ _ e2 LamX.codeO_ne⟩
        · exact ⟨c', z, upd_same⟩
      · obtain ⟨ps', a1, a2, a3⟩ := hT p hp
        refine ⟨ps', by rw [upd_ne (ne_of_none a1 nC), upd_ne hb]; exact a1, a2, fun p' cv hcv => ?_⟩
        obtain ⟨c0, e1, e2⟩ := a3 p' cv hcv
        exact ⟨c0, e1, hE.ext _ _ e2 LamX.codeO_ne⟩
    · refine ⟨?_, (f2 b hb).2⟩
      obtain ⟨o, e, _⟩ := T.obj _ _ st2 b hb
      have h1 : b ≠ c' := fun z => by
        have := Heap.lt_size e
        rw [z] at this
        exact Nat.lt_irrefl _ (Nat.lt_of_lt_of_le this hge)
      have h2 : b ≠ P := fun z => by
        have := (f2 b hb).1
        rw [z, hP] at this; cases this
      rw [upd_ne h1, upd_ne h2]
      exact (f2 b hb).1
  | some cv =>
    refine wpAny_genexprCode_hit hcode (cd.code hPs htr) hf ?_
    exact cont cv H2 s2 I2 (.refl _) hT f2 fun _ _ _ e => e
end
end MP

set_option Elab.async false
set_option linter.all false
set_option maxRecDepth 100000
set_option maxHeartbeats 2000000
/-! MP: all, any, tuple of generator expressions. -/
namespace MP
open PySem PySem.Spec PyProof.Rows L2 GenW

section
variable {X : Cx} {pins : List (Addr × Obj)} {σ : L2.St} {H : Hp} {s : Shared}
theorem tru_st {A : Around} {E : Value → Shared → Prop} {x : V} {v : Value} {k : Bool} {Q : Bool → Shared → Prop} (I : Inv X pins σ H s) (rx : RelV x v) (e : TruV X.K x H k) (q : ∀ tk, Q k { s with toks := tk }) : wpAny (model X.prog X.w) A (truthy v) Q E s := by
  have hl := line63
  have hs : sizeLine = 16777216 := sizeLine_eq
  cases x with
  | non =>
    cases rx
    have e' : k = false := e
    subst e'
    exact truthy_none (q s.toks)
  | bl b =>
    cases rx
    have e' : k = b := e
    subst e'
    exact wpAny_truthy_bool (q s.toks)
  | int i =>
    obtain ⟨t, rfl⟩ := rx
    have e' : k = (i != 0) := e
    subst e'
    exact PySem.P.truthy_int (q s.toks)
  | str y =>
    obtain ⟨t, rfl⟩ := rx
    obtain ⟨hy, e'⟩ : y.length ≤ sizeLine ∧ k = ((y.length : Int) != 0) := e
    subst e'
    exact PySem.P.truthy_str (by omega) (q _)
  | byt y =>
    obtain ⟨t, rfl⟩ := rx
    obtain ⟨hy, e'⟩ : y.size ≤ sizeLine ∧ k = ((y.size : Int) != 0) := e
    subst e'
    exact PySem.W.truthy_bytes (by omega) (q _)
  | ref p =>
    cases rx
    have e' : (∃ xs, SqL X.K H p xs ∧ k = !xs.isEmpty) ∨ (∃ xs, SqT X.K H p xs ∧ k = !xs.isEmpty) ∨ ∃ kvs, H p = some (.dK kvs) ∧ k = !kvs.isEmpty := e
    rcases e' with ⟨xs, hx, e'⟩ | ⟨xs, hx, e'⟩ | ⟨kvs, hx, e'⟩
    · subst e'
      obtain ⟨its, r, pl, hz⟩ := I.list hx
      have hlen := r.length
      exact wpAny_truthy_list pl.isList (by simp only [List.size_toArray]; omega) (by rw [isEmpty_of r]; exact q _)
    · subst e'
      obtain ⟨its, r, pl, hz⟩ := I.tuple hx
      have hlen := r.length
      exact truthy_tuple pl (by simp only [List.size_toArray]; omega) (by rw [isEmpty_of r]; exact q _)
    · subst e'
      obtain ⟨hz, hS, vs, r, m⟩ : kvs.length ≤ sizeLine ∧ (p == sysModules) = false ∧ ∃ vs, KV kvs vs ∧ s.heap.DictOf (mixKind X.prog X.w) p vs := I.hok p _ hx
      have hlen : kvs.length = vs.length := Paired.length r
      exact wpAny_truthy_dict hS m (by omega) (by rw [isEmpty_kv r]; exact q _)
  | _ => exact (show False from e).elim
end

/-! ### the fold -/
open Classical in
noncomputable def genF {γ : Type} (live : List (Nat × List MV)) (g : MG) (t : MT) (e : ME) (ρ : Loc) (step : γ → MV → Sto → Option (γ ⊕ MV)) (fin : γ → Sto → Res MV) : List MV → γ → Sto → Res MV
  | [], c => fun s => if liveOk live s then fin c s else .bad
  | x :: xs, c => fun s => if liveOk live s then (g x ρ s).one.bind fun ρ1 s1 => (t ρ1 s1).calm.bind fun b s2 => match b with
      | true => (e ρ1 s2).calm.bind fun y s3 => match step c y s3 with
        | some (.inl c') => genF live g t e ρ step fin xs c' s3
        | some (.inr r) => .ok r s3
        | none => .bad
      | false => genF live g t e ρ step fin xs c s2
    else .bad
noncomputable def eGen {γ : Type} (step : γ → MV → Sto → Option (γ ⊕ MV)) (fin : γ → Sto → Res MV) (c0 : γ) (mi : MI) (vs : List Nat) (g : MG) (t : MT) (e : ME) : ME := fun ρ s => (mi ρ s).bind fun c s => genF c.live g t e (wipeM ρ vs) step fin c.items c0 s

section
variable {K : PySem.W.Frag} {T : Tb} {mp mp' : List Addr} {H H' : Hp} {st : Sto}
theorem CExt.ext_ {mp : List Addr} (e : CExt H H') : Ext mp mp H H' :=
  ⟨⟨⟨[], by simp⟩, fun b o vs h => e.ext b _ h (fun _ z => nomatch z), fun b o vs h => e.ext b _ h (fun _ z => nomatch z)⟩, fun b φ h => e.ext b _ h (fun _ z => nomatch z), fun b ps h => e.tbl b ps h, fun _ h => .inl h, fun b o h _ n => e.ext b o h n⟩
theorem RelS.cext (S : RelS K T mp st H) (e : CExt H H') (ht : LamX.Tabs T.tabs H') : RelS K T mp st H' := by
  refine ⟨S.len, S.nd, fun n c a h1 h2 => ?_, ht⟩
  obtain ⟨o, ho, hc⟩ := S.there h2
  refine (S.cell n c a h1 h2).keepW e.ext_.toMon ?_
  rw [ho]
  exact e.ext a o ho fun ps z => by rw [z] at hc; cases hc
end

section
variable {X : Cx} {T : Tb} {W : WX} {γ δ : Type} {g : MG} {t : MT} {me : ME} {mi : MI} {is : List Nat} {vs : List Nat} {step : γ → MV → Sto → Option (γ ⊕ MV)} {fin : γ → Sto → Res MV} {c0 : γ} {σ : L2.St} {H : Hp} {Q : VK}
/-- the turns of a fold -/
theorem fold_turns (G : Con δ) (rel : γ → δ → List Addr → Hp → Prop) (hmono : ∀ c d mp mp' H H', Ext mp mp' H H' → rel c d mp H → rel c d mp' H') (his : ∀ i ∈ is, i ∈ vs) {mpB : List Addr} {HB : Hp} {WB : XK}
    (hC : ∀ mp H st c d y v (Nx : δ → Hp → Prop), RelS X.K T mp st H → Ext mpB mp HB H → rel c d mp H → RepV X.K mp H y v → (∀ c', step c y st = some (.inl c') → ∀ d', rel c' d' mp H → Nx d' H) → (∀ r, step c y st = some (.inr r) → Post X.K T (RepV X.K) mpB HB WB (.ok r st) Q) → step c y st ≠ none → G.C d v H Nx)
    (hF : ∀ mp H st c d, RelS X.K T mp st H → Ext mpB mp HB H → rel c d mp H → Post X.K T (RepV X.K) mpB HB WB (fin c st) Q → G.Fin d H)
    {ρ : Loc} {cs : Src} {mp1 : List Addr} {st1 : Sto} {H1 H2 : Hp} {J : It} {d0 : δ} (L : RelL X.K mpB HB ρ σ) (e1 : Ext mpB mp1 HB H1) (S1 : RelS X.K T mp1 st1 H1) (r1 : IterRep X.K T mp1 H1 cs J) (ce : CExt H1 H2) (htab : LamX.Tabs T.tabs H2) (hrel : ∀ mp H, rel c0 d0 mp H) (P : Post X.K T (RepV X.K) mpB HB WB (genF cs.live g t me (wipeM ρ vs) step fin cs.items c0 st1) Q) :
    ∃ Wv m, gTurns G J (tGm X.K T WN is g) (tT X.K T WN t) (tE X.K T WN me) vs σ Wv ∧ Wv d0 0 m H2 := by
  refine ⟨fun d i m H3 => m + i = cs.items.length ∧ ∃ mp3 st3 c, Ext mp1 mp3 H1 H3 ∧ RelS X.K T mp3 st3 H3 ∧ rel c d mp3 H3 ∧ Post X.K T (RepV X.K) mpB HB WB (genF cs.live g t me (wipeM ρ vs) step fin (cs.items.drop i) c st3) Q,
    cs.items.length, ?_, rfl, mp1, st1, c0, ce.ext_, S1.cext ce htab, hrel _ _, P⟩
  rintro d i m H3 ⟨hmi, mp3, st3, c, ex, S3, hr, P3⟩
  cases m with
  | zero =>
    have hi : i = cs.items.length := by omega
    rw [List.drop_eq_nil_of_le (by omega)] at P3
    unfold genF at P3
    split at P3
    · rename_i lv
      exact .inl ⟨(r1 i mp3 st3 H3 ex S3 lv).1 hi, hF mp3 H3 st3 c d S3 (e1.trans ex) hr P3⟩
    · exact P3.elim
  | succ m =>
    have hi : i < cs.items.length := by omega
    rw [List.drop_eq_getElem_cons hi] at P3
    unfold genF at P3
    split at P3
    · rename_i lv
      obtain ⟨go, yl⟩ := (r1 i mp3 st3 H3 ex S3 lv).2 _ (List.getElem?_eq_getElem hi)
      refine .inr ⟨go, fun d' H4 => m + (i + 1) = cs.items.length ∧ ∃ mp3 st3 c, Ext mp1 mp3 H1 H4 ∧ RelS X.K T mp3 st3 H4 ∧ rel c d' mp3 H4 ∧ Post X.K T (RepV X.K) mpB HB WB (genF cs.live g t me (wipeM ρ vs) step fin (cs.items.drop (i + 1)) c st3) Q,
        fun d' H4 h => ⟨m, by omega, h⟩, fun x H4 y => ?_⟩
      obtain ⟨ex2, S4, rv⟩ := yl x H4 y
      refine ⟨mp3, wipeM ρ vs, st3, _, (L.wipe vs).mono ((e1.trans ex).trans ex2), S4, rv, one_bnd P3 fun ρ4 st4 mp4 σ4 H5 e4 L4 S5 P4 => fun so => ⟨wipe_same so his, mp4, ρ4, st4, L4, S5, calm_bnd P4 fun b st5 mp5 b' H6 e5 S6 r5 P5 => ?_⟩⟩
      have r5 : b = b' := r5
      subst r5
      have ex5 := (ex2.trans e4).trans e5
      cases b with
      | false =>
        rw [if_neg Bool.false_ne_true]
        exact ⟨by omega, mp5, st5, c, ex.trans ex5, S6, hmono _ _ _ _ _ _ ex5 hr, P5⟩
      | true =>
        rw [if_pos rfl]
        refine ⟨mp5, ρ4, st5, L4.mono e5, S6, calm_bnd P5 fun y st6 mp6 yv H7 e6 S7 r6 P6 => ?_⟩
        have ex6 := ex5.trans e6
        refine hC mp6 H7 st6 c d y yv _ S7 ((e1.trans ex).trans ex6) (hmono _ _ _ _ _ _ ex6 hr) r6 (fun c' es d' hd' => ⟨by omega, mp6, st6, c', ex.trans ex6, S7, hd', ?_⟩) (fun r es => ?_) fun es => ?_
        · rw [es] at P6; exact P6
        · rw [es] at P6; exact P6
        · rw [es] at P6; exact P6.elim
    · exact P3.elim
end

/-! ### all, any -/
def conAA (K : PySem.W.Frag) (stop : Bool) (Q : VK) : Con Unit where
  SS := []
  tag := fun _ _ => True
  C := fun _ y H Nx => ∃ b, TruV K y H b ∧ (b ≠ stop → Nx () H) ∧ (b = stop → Q (.bl stop) H)
  Fin := fun _ H => Q (.bl (!stop)) H
  tagK := fun _ _ _ _ _ => True.intro
section
variable {X : Cx} {pins : List (Addr × Obj)} {σ : L2.St} {s4 s5 : Shared} {H4 : Hp} {fp : List Addr} {a gn : Nat} {Q : VK} {R : Result → Shared → Prop}
theorem all_loop (hh : X.A.handled = none) (hd : X.A.depth < recursionLimit) (N : NewG X pins σ s4 H4 fp a gn s5) (hR : ∀ b H s', Inv X pins σ H s' → Q (.bl b) H → R (.ok (.ret (.bool b))) s') :
    ∀ (n : Nat) (s : Shared), Ready X (conAA X.K false Q) s4 H4 fp a gn X.A.in1.in1 n s → codeAny (model X.prog X.w) X.A (.builtin "all.loop" ⟨[.ref a], []⟩) R s := by
  intro n
  induction n using Nat.strongRecOn with
  | ind n ih =>
    intro s rd
    refine codeAny_builtin F.entry_all_loop ?_
    rw [Around.under_plainId F.plain_all_loop _]
    show wpAny _ X.A.in1 (pyNext (.ref a) >>= _) _ _ s
    refine wpAny_bind (pull (A := X.A.in1) hh hd rd (by simp [conAA]) (by simp [conAA]) (fun v c y H Nx s1 rv bk _ hC hk => ?_) fun c H s1 bk _ hF => ?_)
    · obtain ⟨b, tv, h1, h2⟩ := hC
      have I1 := N.after bk
      refine wpAny_bind (wpAny_holding (tru_st I1 rv tv fun tk => ?_))
      refine wpAny_bind (wpAny_letGo ?_)
      cases b with
      | true =>
        simp only [if_true]
        obtain ⟨n', hn', rd'⟩ := hk () { s1 with toks := tk } (h1 (by simp)) rfl rfl (fun _ _ _ e => e) (fun b hb => by simp [conAA] at hb) True.intro
        exact wpAny_pure ⟨plainId_quiet F.plain_all_loop _, ih n' hn' _ rd'⟩
      | false =>
        simp only [Bool.false_eq_true, if_false]
        refine wpAny_bind (wpAny_rule (wpAny_pure ?_))
        exact hR false H _ (I1.tok tk) (h2 rfl)
    · refine wpAny_bind (wpAny_rule (wpAny_pure ?_))
      exact hR true H s1 (N.after bk) hF
theorem any_loop (hh : X.A.handled = none) (hd : X.A.depth < recursionLimit) (N : NewG X pins σ s4 H4 fp a gn s5) (hR : ∀ b H s', Inv X pins σ H s' → Q (.bl b) H → R (.ok (.ret (.bool b))) s') :
    ∀ (n : Nat) (s : Shared), Ready X (conAA X.K true Q) s4 H4 fp a gn X.A.in1.in1 n s → codeAny (model X.prog X.w) X.A (.builtin "any.loop" ⟨[.ref a], []⟩) R s := by
  intro n
  induction n using Nat.strongRecOn with
  | ind n ih =>
    intro s rd
    refine codeAny_builtin F.entry_any_loop ?_
    rw [Around.under_plainId F.plain_any_loop _]
    show wpAny _ X.A.in1 (pyNext (.ref a) >>= _) _ _ s
    refine wpAny_bind (pull (A := X.A.in1) hh hd rd (by simp [conAA]) (by simp [conAA]) (fun v c y H Nx s1 rv bk _ hC hk => ?_) fun c H s1 bk _ hF => ?_)
    · obtain ⟨b, tv, h1, h2⟩ := hC
      have I1 := N.after bk
      refine wpAny_bind (wpAny_holding (tru_st I1 rv tv fun tk => ?_))
      refine wpAny_bind (wpAny_letGo ?_)
      cases b with
      | false =>
        simp only [Bool.false_eq_true, if_false]
        obtain ⟨n', hn', rd'⟩ := hk () { s1 with toks := tk } (h1 (by simp)) rfl rfl (fun _ _ _ e => e) (fun b hb => by simp [conAA] at hb) True.intro
        exact wpAny_pure ⟨plainId_quiet F.plain_any_loop _, ih n' hn' _ rd'⟩
      | true =>
        simp only [if_true]
        refine wpAny_bind (wpAny_rule (wpAny_pure ?_))
        exact hR true H _ (I1.tok tk) (h2 rfl)
    · refine wpAny_bind (wpAny_rule (wpAny_pure ?_))
      exact hR false H s1 (N.after bk) hF
end

/-! ### the rules -/
structure GenHere (T : Tb) (X : Cx) (k : Nat) (c P : Addr) : Prop where
  room : Room (k + 1) X.A
  nd : X.N.Nodup
  tb : LamX.TabB X.base X.mg c P
  code : X.env.code = .ref c
  mem : (P, X.env.qual ++ "<genexpr>") ∈ T.tabs
  uniq : ∀ p ∈ T.tabs, p.1 = P → p.2 = X.env.qual ++ "<genexpr>"
structure GenSc (N : List Str) (sc scope : Scope) (own : List (Str × Nat)) : Prop where
  ok : BlkOk N sc scope own
  cell : ∀ y ∈ scope.names, y.2 ≠ .cell
  dot : scope.names.lookup (".0" : Str) = some NameKind.local
  co : scope.isCoroutine = false
def genSB (N : List Str) (sc scope : Scope) (own : List (Str × Nat)) : Bool :=
  blkC N sc scope own && (scope.names.all fun y => !decide (y.2 = .cell)) && decide (scope.names.lookup (".0" : Str) = some NameKind.local) && !scope.isCoroutine
theorem genSc_by {N : List Str} {sc scope : Scope} {own : List (Str × Nat)} (h : genSB N sc scope own = true) : GenSc N sc scope own := by
  unfold genSB at h
  simp only [Bool.and_eq_true, Bool.not_eq_true', decide_eq_true_eq, List.all_eq_true, decide_eq_false_iff_not] at h
  exact ⟨blkOk_by h.1.1.1, h.1.1.2, h.1.2, h.2⟩
def stepAA (stop : Bool) : Unit → MV → Sto → Option (Unit ⊕ MV) := fun _ y s => match truth s y with
  | some b => if b = stop then some (.inr (.bl stop)) else some (.inl ())
  | none => none
def finAA (stop : Bool) : Unit → Sto → Res MV := fun _ s => .ok (.bl (!stop)) s
section
variable {X : Cx} {T : Tb} {W : WX} {elt tg iter : Expr} {ifs : List Expr} {scope : Scope} {own : List (Str × Nat)} {gpos pos p : Pos} {is : List Nat} {g : MG} {t : MT} {me : ME} {mi : MI} {k : Nat} {c P : Addr}
theorem aa_turns {stop : Bool} {σ : L2.St} {H : Hp} {Q : VK} (his : ∀ i ∈ is, i ∈ own.map (·.2)) (h : tE X.K T W (eGen (stepAA stop) (finAA stop) () mi (own.map (·.2)) g t me) σ H Q) :
    tI X.K T W mi σ H fun J H1 => LamX.Tabs T.tabs H1 ∧ ∀ H2, CExt H1 H2 → LamX.Tabs T.tabs H2 → ∃ Wv m, gTurns (conAA X.K stop Q) J (tGm X.K T WN is g) (tT X.K T WN t) (tE X.K T WN me) (own.map (·.2)) σ Wv ∧ Wv () 0 m H2 := by
  obtain ⟨mp, ρ, st, L, S, P⟩ := h
  refine ⟨mp, ρ, st, L, S, Post.bnd0 P fun cs st1 mp1 J H1 e1 S1 r1 P1 => ⟨S1.tabs, fun H2 ce ht => ?_⟩⟩
  refine fold_turns (conAA X.K stop Q) (fun _ _ _ _ => True) (fun _ _ _ _ _ _ _ h => h) his (fun mp3 H3 st3 c d y v Nx S3 e3 _ rv h1 h2 h3 => ?_) (fun mp3 H3 st3 c d S3 e3 _ P3 => ?_) L e1 S1 r1 ce ht (fun _ _ => True.intro) P1
  · cases q : truth st3 y with
    | none => exact absurd (by unfold stepAA; rw [q]) h3
    | some b =>
      refine ⟨b, truth_ok S3 rv q, fun hb => h1 () (by unfold stepAA; rw [q]; simp only [if_neg hb]) () True.intro, fun hb => ?_⟩
      exact h2 (.bl stop) (by unfold stepAA; rw [q]; simp only [if_pos hb]) mp3 _ H3 e3 S3 rfl
  · exact P3 mp3 _ H3 e3 S3 rfl
theorem re_gen1 {b : String} {nm : Str} {con : VK → Con Unit} {m : ME}
    (G : GenHere T X k c P) (hg0 : Gl X nm) (hm : X.mg nm = none) (hb : bootBuiltins nm = some (.builtin b)) (S : GenSc X.N X.env.scope scope own) (his : ∀ i ∈ is, i ∈ own.map (·.2)) (hi : RI T X W tg iter mi)
    (hg : ∀ (B : Around) (s : Shared) (H : Hp) (C : Addr) (code : Value) (fp : List Addr) (pn : List (Addr × Obj)), Room k (B.deeper (gEnv X scope C code)) → RG T (Gcx X (B.deeper (gEnv X scope C code)) s H (gEnv X scope C code) fp pn) WN is tg g)
    (ht : ∀ (B : Around) (s : Shared) (H : Hp) (C : Addr) (code : Value) (fp : List Addr) (pn : List (Addr × Obj)), Room k (B.deeper (gEnv X scope C code)) → RTs T (Gcx X (B.deeper (gEnv X scope C code)) s H (gEnv X scope C code) fp pn) WN ifs t)
    (he : ∀ (B : Around) (s : Shared) (H : Hp) (C : Addr) (code : Value) (fp : List Addr) (pn : List (Addr × Obj)), Room k (B.deeper (gEnv X scope C code)) → RE T (Gcx X (B.deeper (gEnv X scope C code)) s H (gEnv X scope C code) fp pn) WN elt me)
    (hturn : ∀ σ H Q, tE X.K T W m σ H Q → tI X.K T W mi σ H fun J H1 => LamX.Tabs T.tabs H1 ∧ ∀ H2, CExt H1 H2 → LamX.Tabs T.tabs H2 → ∃ Wv m, gTurns (con Q) J (tGm X.K T WN is g) (tT X.K T WN t) (tE X.K T WN me) (own.map (·.2)) σ Wv ∧ Wv () 0 m H2)
    (hcon : ∀ {pins : List (Addr × Obj)} {σ : L2.St} {s4 s5 : Shared} {H4 : Hp} {fp : List Addr} {a gn n : Nat} {Q : VK}, NewG X pins σ s4 H4 fp a gn s5 → Ready X (con Q) s4 H4 fp a gn X.A.in1.in1 n s5 → wpAny (model X.prog X.w) X.A (call (.builtin b) [.ref a]) (EP X pins σ Q) X.xe s5)
    (hSS : ∀ Q, (con Q).SS = [] ∧ ∀ h, (con Q).tag () h)
    (hn0 : nm ≠ "__name__" := by decide) (hdb : (nm == ("__debug__" : Str)) = false := by decide)
    (hs : ∀ x, genFold iter X.env x = pure x := by intro _; rfl)
    (hst : starEach [.GeneratorExp elt [⟨tg, iter, ifs, 0⟩] scope gpos] X.env = (false, eval (.GeneratorExp elt [⟨tg, iter, ifs, 0⟩] scope gpos) X.env) :: starEach [] X.env := by rfl) :
    RE T X W (.Call (.Name nm p) [.GeneratorExp elt [⟨tg, iter, ifs, 0⟩] scope gpos] [] pos) m := by
  refine ⟨fun pins s σ H Q I h => ?_⟩
  refine wpAny_Call_Name_kw (ld_blt I hg0 hm hb ?_ hn0 hdb)
  refine PyProof.Rows.callWith_builtin1 ?_ hst (by rfl)
  rw [hst]
  show wpAny _ _ (spliced ((false, eval (.GeneratorExp elt [⟨tg, iter, ifs, 0⟩] scope gpos) X.env) :: backTo pos (starEach [] X.env))) _ _ s
  refine Calls.spliced_cons (gen_make (g := tGm X.K T WN is g) (tt := tT X.K T WN t) (te := tE X.K T WN me) (own := own) G.room G.nd G.tb G.code G.mem G.uniq S.ok S.cell S.dot S.co hi hs hg ht he I (hturn σ H Q h) fun s4 H4 fp a gn J s5 N hR hrd => ?_)
  refine Calls.spliced_nil ?_
  obtain ⟨Wv, m0, ht0, hw0⟩ := hR
  refine hcon N (hrd (con Q) Wv X.A.in1.in1 m0 (m0 + 1) () s5 ht0 hw0 (Nat.lt_succ_self _) ⟨G.room.hd, by have := G.room.dp; show X.A.depth + 1 + 3 * k + 5 < _; omega, by have := G.room.un; show X.A.units + 1 + 1 + 3 + 16 * k + 200 < _; omega⟩ I.ok.frames
    (fun b hb => by rw [(hSS Q).1] at hb; simp at hb) rfl rfl (fun _ _ e => e) (fun b hb => by rw [(hSS Q).1] at hb; simp at hb) ((hSS Q).2 _))
theorem call_all_gen {pins : List (Addr × Obj)} {σ : L2.St} {s4 s5 : Shared} {H4 : Hp} {fp : List Addr} {a gn n : Nat} {Q : VK} (hh : X.A.handled = none) (hd : X.A.depth < recursionLimit) (N : NewG X pins σ s4 H4 fp a gn s5) (rd : Ready X (conAA X.K false Q) s4 H4 fp a gn X.A.in1.in1 n s5) :
    wpAny (model X.prog X.w) X.A (call (.builtin "all") [.ref a]) (EP X pins σ Q) X.xe s5 := by
  refine call_function_tree F.kind_all F.plain_all F.entry_all (F.args_all1 _) ?_
  unfold Builtin.«all»
  refine wpAny_bind (m := oneArg "all" _) (wpAny_pure ?_)
  refine wpAny_bind (wpAny_pyIter_gen N.gen ?_)
  exact wpAny_pure ⟨plainId_quiet F.plain_all_loop _, all_loop hh hd N (fun b H s' I q => ⟨.bl b, H, I, rfl, q⟩) n s5 rd⟩
theorem call_any_gen {pins : List (Addr × Obj)} {σ : L2.St} {s4 s5 : Shared} {H4 : Hp} {fp : List Addr} {a gn n : Nat} {Q : VK} (hh : X.A.handled = none) (hd : X.A.depth < recursionLimit) (N : NewG X pins σ s4 H4 fp a gn s5) (rd : Ready X (conAA X.K true Q) s4 H4 fp a gn X.A.in1.in1 n s5) :
    wpAny (model X.prog X.w) X.A (call (.builtin "any") [.ref a]) (EP X pins σ Q) X.xe s5 := by
  refine call_function_tree F.kind_any F.plain_any F.entry_any (F.args_any1 _) ?_
  unfold Builtin.«any»
  refine wpAny_bind (m := oneArg "any" _) (wpAny_pure ?_)
  refine wpAny_bind (wpAny_pyIter_gen N.gen ?_)
  exact wpAny_pure ⟨plainId_quiet F.plain_any_loop _, any_loop hh hd N (fun b H s' I q => ⟨.bl b, H, I, rfl, q⟩) n s5 rd⟩
theorem re_all (G : GenHere T X k c P) (hg0 : Gl X "all") (hm : X.mg "all" = none) (S : GenSc X.N X.env.scope scope own) (his : ∀ i ∈ is, i ∈ own.map (·.2)) (hi : RI T X W tg iter mi)
    (hg : ∀ (B : Around) (s : Shared) (H : Hp) (C : Addr) (code : Value) (fp : List Addr) (pn : List (Addr × Obj)), Room k (B.deeper (gEnv X scope C code)) → RG T (Gcx X (B.deeper (gEnv X scope C code)) s H (gEnv X scope C code) fp pn) WN is tg g)
    (ht : ∀ (B : Around) (s : Shared) (H : Hp) (C : Addr) (code : Value) (fp : List Addr) (pn : List (Addr × Obj)), Room k (B.deeper (gEnv X scope C code)) → RTs T (Gcx X (B.deeper (gEnv X scope C code)) s H (gEnv X scope C code) fp pn) WN ifs t)
    (he : ∀ (B : Around) (s : Shared) (H : Hp) (C : Addr) (code : Value) (fp : List Addr) (pn : List (Addr × Obj)), Room k (B.deeper (gEnv X scope C code)) → RE T (Gcx X (B.deeper (gEnv X scope C code)) s H (gEnv X scope C code) fp pn) WN elt me)
    (hs : ∀ x, genFold iter X.env x = pure x := by intro _; rfl)
    (hst : starEach [.GeneratorExp elt [⟨tg, iter, ifs, 0⟩] scope gpos] X.env = (false, eval (.GeneratorExp elt [⟨tg, iter, ifs, 0⟩] scope gpos) X.env) :: starEach [] X.env := by rfl) :
    RE T X W (.Call (.Name "all" p) [.GeneratorExp elt [⟨tg, iter, ifs, 0⟩] scope gpos] [] pos) (eGen (stepAA false) (finAA false) () mi (own.map (·.2)) g t me) :=
  re_gen1 (con := conAA X.K false) G hg0 hm boot_all S his hi hg ht he (fun _ _ _ h => aa_turns his h) (fun N rd => call_all_gen G.room.hd (by have := G.room.dp; omega) N rd) (fun _ => ⟨rfl, fun _ => True.intro⟩) (hs := hs) (hst := hst)
theorem re_any (G : GenHere T X k c P) (hg0 : Gl X "any") (hm : X.mg "any" = none) (S : GenSc X.N X.env.scope scope own) (his : ∀ i ∈ is, i ∈ own.map (·.2)) (hi : RI T X W tg iter mi)
    (hg : ∀ (B : Around) (s : Shared) (H : Hp) (C : Addr) (code : Value) (fp : List Addr) (pn : List (Addr × Obj)), Room k (B.deeper (gEnv X scope C code)) → RG T (Gcx X (B.deeper (gEnv X scope C code)) s H (gEnv X scope C code) fp pn) WN is tg g)
    (ht : ∀ (B : Around) (s : Shared) (H : Hp) (C : Addr) (code : Value) (fp : List Addr) (pn : List (Addr × Obj)), Room k (B.deeper (gEnv X scope C code)) → RTs T (Gcx X (B.deeper (gEnv X scope C code)) s H (gEnv X scope C code) fp pn) WN ifs t)
    (he : ∀ (B : Around) (s : Shared) (H : Hp) (C : Addr) (code : Value) (fp : List Addr) (pn : List (Addr × Obj)), Room k (B.deeper (gEnv X scope C code)) → RE T (Gcx X (B.deeper (gEnv X scope C code)) s H (gEnv X scope C code) fp pn) WN elt me)
    (hs : ∀ x, genFold iter X.env x = pure x := by intro _; rfl)
    (hst : starEach [.GeneratorExp elt [⟨tg, iter, ifs, 0⟩] scope gpos] X.env = (false, eval (.GeneratorExp elt [⟨tg, iter, ifs, 0⟩] scope gpos) X.env) :: starEach [] X.env := by rfl) :
    RE T X W (.Call (.Name "any" p) [.GeneratorExp elt [⟨tg, iter, ifs, 0⟩] scope gpos] [] pos) (eGen (stepAA true) (finAA true) () mi (own.map (·.2)) g t me) :=
  re_gen1 (con := conAA X.K true) G hg0 hm boot_any S his hi hg ht he (fun _ _ _ h => aa_turns his h) (fun N rd => call_any_gen G.room.hd (by have := G.room.dp; omega) N rd) (fun _ => ⟨rfl, fun _ => True.intro⟩) (hs := hs) (hst := hst)
end
end MP

set_option Elab.async false
set_option linter.all false
set_option maxRecDepth 100000
set_option maxHeartbeats 2000000
/-! MP: a lambda handed to _law_told. -/
namespace MP
open PySem PySem.Spec PyProof.Rows L2 LamX

section
variable {X : Cx} {pins : List (Addr × Obj)} {σ : L2.St} {H : Hp} {s : Shared}
/-- a lambda is made; seen from the tables, too -/
theorem lam_new {Tl : List (Addr × Str)} {c P : Addr} {params : Arguments} {body : Expr} {scope : Scope} {pos : Pos} {E : Value → Shared → Prop} {Q : Value → Shared → Prop} (I : Inv X pins σ H s) (TB : LamX.TabB X.base X.mg c P) (hcode : X.env.code = .ref c)
    (hm : (P, X.env.qual ++ "<lambda>") ∈ Tl) (hu : ∀ p ∈ Tl, p.1 = P → p.2 = X.env.qual ++ "<lambda>") (hT : Tabs Tl H) (hdef : defaultsOf params X.env = ([], [])) (hfree : ∀ y ∈ scope.names, y.2 = .free → ∃ c, X.env.cells.lookup y.1 = some c)
    (h : ∀ (f c' : Addr) (pm ctv : Value) (H1 : Hp) (s' : Shared), Inv X pins σ H1 s' → CExt H H1 → Tabs Tl H1 →
      s'.heap.get? f = some (PySem.W.kla_obj "<lambda>" (X.env.qual ++ "<lambda>") params body scope (cloFrom X.env.cells scope.names []) pm c' ctv) → H1 f = none → f ∉ frs X.stack → H1 c' = some (CodeO c' (X.env.qual ++ "<lambda>")) → Q (.ref f) s') :
    wpAny (model X.prog X.w) X.A (eval (.Lambda params body scope pos) X.env) Q E s := by
  obtain ⟨ps, hP, ht, ha⟩ := hT _ hm
  refine PySem.W.kla_eval hdef ?_
  have bP : s.heap.BuiltinsAt X.mg P := TB.bm.keeps I.bk
  have hP' : s.heap.get? P = some { cls := .none, data := .fields ps } := I.hok P _ hP
  have nofr : ∀ f, s.heap.objs.size ≤ f → f ∉ frs X.stack := fun f hf z => by
    rcases List.mem_cons.mp (I.stkSub _ z) with e | e
    · have h1 := I.lt
      rw [← e] at h1
      exact Nat.lt_irrefl _ (Nat.lt_of_lt_of_le h1 hf)
    · exact I.nofs hf e
  cases hc : codeAmong pos ps.toList with
  | none =>
    refine PySem.W.kla_makeFunction (mg := X.mg) (c := c) (P := P) (ps := ps) (closure_ok hfree) I.ok.glob (I.mod.glob.keeps I.bk) hcode (TB.code.keeps I.bk) hP' ht hc TB.gP bP fun c' ctv h' tk hx hge hlt hrec htb => ?_
    obtain ⟨c2, oc, vs, t, e2, hoc, hd, hv⟩ := hrec
    cases e2
    have hsz : s.heap.objs.size ≤ h'.objs.size := Nat.le_trans hge (Nat.le_of_lt hlt)
    have nC : H c' = none := I.hok.fresh hge
    have I1 := inv_table (t' := tk) (more := #[rawInt pos.line, rawInt pos.col, .ref c']) (h' := h'.push (PySem.W.kla_obj "<lambda>" (X.env.qual ++ "<lambda>") params body scope (cloFrom X.env.cells scope.names []) ((X.mg "__name__").getD .none) c' ctv)) I hP
      (fun b o hb e => Heap.get?_push_of_some _ (hx b o hb e)) (Heap.get?_push_of_some _ htb) hge ⟨oc, vs, t, Heap.get?_push_of_some _ hoc, hd, hv⟩
    have hE : CExt H (upd (upd H P (.tbl (ps ++ #[rawInt pos.line, rawInt pos.col, .ref c']))) c' (CodeO c' (X.env.qual ++ "<lambda>"))) := ⟨fun b o e n => by
      rw [upd_ne (ne_of_none e nC), upd_ne (fun z => n ps (Option.some.inj (e.symm.trans (by rw [z]; exact hP))))]
      exact e, fun b qs e => by
      by_cases hb : b = P
      · exact ⟨_, by rw [hb, upd_ne (ne_of_none hP nC), upd_same]⟩
      · exact ⟨qs, by rw [upd_ne (ne_of_none e nC), upd_ne hb]; exact e⟩⟩
    have eL : (ps ++ #[rawInt pos.line, rawInt pos.col, .ref c']).toList = ps.toList ++ [rawInt pos.line, rawInt pos.col, .ref c'] := by simp
    refine h h'.objs.size c' ((X.mg "__name__").getD .none) ctv _ _ I1 hE (fun p hp => ?_) (Heap.get?_push_size _ rfl) ?_ (nofr _ hsz) upd_same
    · by_cases hb : p.1 = P
      · rw [hu p hp hb, hb]
        refine ⟨_, by rw [upd_ne (ne_of_none hP nC), upd_same], by rw [eL]; exact PySem.TriplesOk_snoc _ _ _ _ ht, fun p' cv hcv => ?_⟩
        rw [eL] at hcv
        rcases among_app _ ht hcv with z | z
        · obtain ⟨c0, e1, e2⟩ := ha p' cv z
          exact ⟨c0, e1, hE.ext _ _ e2 codeO_ne⟩
        · exact ⟨c', z, upd_same⟩
      · obtain ⟨ps', a1, a2, a3⟩ := hT p hp
        refine ⟨ps', by rw [upd_ne (ne_of_none a1 nC), upd_ne hb]; exact a1, a2, fun p' cv hcv => ?_⟩
        obtain ⟨c0, e1, e2⟩ := a3 p' cv hcv
        exact ⟨c0, e1, hE.ext _ _ e2 codeO_ne⟩
    · have n1 : h'.objs.size ≠ c' := Nat.ne_of_gt hlt
      have n2 : h'.objs.size ≠ P := Nat.ne_of_gt (Nat.lt_of_lt_of_le (Heap.lt_size hP') hsz)
      rw [upd_ne n1, upd_ne n2]
      exact I.hok.fresh hsz
  | some cv =>
    obtain ⟨c', e, hco⟩ := ha pos cv hc
    subst e
    refine PySem.W.kla_makeFunctionHit (mg := X.mg) (c := c) (P := P) (ps := ps) (closure_ok hfree) I.ok.glob (I.mod.glob.keeps I.bk) hcode (TB.code.keeps I.bk) hP' ht hc bP fun ctv h' tk hx hsz => ?_
    have I1 : Inv X pins σ H { s with heap := h'.push (PySem.W.kla_obj "<lambda>" (X.env.qual ++ "<lambda>") params body scope (cloFrom X.env.cells scope.names []) ((X.mg "__name__").getD .none) c' ctv), toks := tk } := I.kept fun b o e => Heap.get?_push_of_some _ (hx b o e)
    exact h h'.objs.size c' ((X.mg "__name__").getD .none) ctv H _ I1 (CExt.refl H) hT (Heap.get?_push_size _ rfl) (I.hok.fresh hsz) (nofr _ hsz) hco
end
def tLam3 (Tl : List (Addr × Str)) (TT : (XK → Hp → VK → Prop) → Hp → VK → Prop) (t : XK → TE) : TE := fun σ H Q => Tabs Tl H ∧ ∀ H1, CExt H H1 → Tabs Tl H1 → TT (fun E H' Q' => t E σ H' Q') H1 Q
structure LamHere (T : Tb) (X : Cx) (k : Nat) (c P : Addr) : Prop where
  room : Room (k + 2) X.A
  tb : LamX.TabB X.base X.mg c P
  code : X.env.code = .ref c
  mem : (P, X.env.qual ++ "<lambda>") ∈ T.tabs
  uniq : ∀ p ∈ T.tabs, p.1 = P → p.2 = X.env.qual ++ "<lambda>"
section
variable {X : Cx} {T : Tb} {k : Nat} {c P : Addr}
/-- x(lambda: body) -/
theorem pe_lam3 {TT : (XK → Hp → VK → Prop) → Hp → VK → Prop} {x a : Str} {g : Addr} {fd : FuncData} {pg : Arguments} {bg : List Stmt} {sg : Scope} {Ng : List Str}
    {params : Arguments} {body : Expr} {scope : Scope} {t : XK → TE} {p lpos pos : Pos} (G : LamHere T X k c P) (hg : Gl X x) (hm : X.mg x = some (.ref g)) (F : FunD X.K x x pg bg sg [] [] g fd) (hb : L2.Binds X.K fd [a] []) (Sg : FnScope Ng [a] sg) (hNg : Ng[0]? = some a) (hva : Vis sg a)
    (hG : ∀ cdg : Value, GivesTo X Ng x sg g cdg bg a (X.env.qual ++ "<lambda>") TT)
    (L : LamS X.env.scope scope) (hdef : defaultsOf params X.env = ([], []))
    (hbind : ∀ (q : Str) (cl : List (Str × Addr)) (pm cv ctv : Value), bindArgs (PySem.W.kla_fn "<lambda>" q params body scope cl pm cv ctv) ⟨[], []⟩ = pure [])
    (hbody : ∀ (A : Around) (outer : List Env) (s : Shared) (H : Hp) (E : XK) (f c' : Addr), Room k (A.deeper (lamEnv X scope s.heap.objs.size f c')) → PE (lamCx X A outer s H E scope f c') body (t E))
    (hdb : (x == ("__debug__" : Str)) = false := by decide) (hd : (a == ("__debug__" : Str)) = false := by decide) (hcd : (a == ("__classdict__" : Str)) = false := by decide) :
    PE X (.Call (.Name x p) [.Lambda params body scope lpos] [] pos) (tLam3 T.tabs TT t) := by
  obtain ⟨oc, od, dV, kV, doc, pm, an, cdv, ct, osl, rfl, lk, hcg, _, _⟩ := F.ex
  refine ⟨fun pins s σ H Q I h => ?_⟩
  obtain ⟨hT, h⟩ := h
  refine wpAny_Call_Name_kw (ld_glob I hg hm ?_ hdb)
  refine PySem.W.callWith_K (h₀ := X.base) I.ok.mod.kin F.kp ?_ (by rfl) (by rfl)
  show wpAny _ _ (spliced ((false, eval (.Lambda params body scope lpos) X.env) :: backTo pos (starEach [] X.env))) _ _ s
  refine Calls.spliced_cons (lam_new I G.tb G.code G.mem G.uniq hT hdef (L.has I.ok) fun f c' pm' ctv H1 s' I1 eN T1 hf hfn hfr hco => ?_)
  refine Calls.spliced_nil ⟨I1.kIn, ?_⟩
  have rc : codeAny (model X.prog X.w) X.A (.call (.ref g) ⟨[.ref f], []⟩) (CR C8.CX0 X.stack X.prog X.w H1 s' Q C8.E0) s' := by
    refine run_ofS (N := Ng) (ps := [a]) (us := [.ref f]) (vs := [.ref f]) lk hcg Sg G.room I1.env0 (hb s' [.ref f] I1.kIn rfl) (.cons rfl .nil) rfl fun hr' => ?_
    obtain ⟨t', ht', hq'⟩ := hG cdv f c' s' H1 Q (fun E H' Q' => t E σ H' Q') (fun W pn xe E p1 p2 tk hW => pe_act (i := 0) I1 L hf hfn hfr (hbind _ _ _ _ _) tk hW hr' (fun A outer s H hr2 => hbody A outer s H E f c' hr2) hNg hva hd hcd) hco (h H1 eN T1)
    exact ⟨t', ht'.nox, hq'⟩
  refine wpAny_call (codeAny_mono rc fun r s2 hq => ?_)
  cases r with
  | error e => exact (show False from hq).elim
  | ok fl =>
    cases fl with
    | ret u => exact I1.after hq
    | next => exact False.elim hq
    | brk => exact False.elim hq
    | cont => exact False.elim hq
end

/-! ### _law_told -/
/-- the classes that _law_told asks for, and what they make of an exception -/
structure ToldC (K : PySem.W.Frag) (tt c1 c2 c3 c4 : Addr) (cls : Value) (d : Option Addr) (r : String) : Prop where
  ex : ∃ D b1 b2 b3 b4, cls = .ref D ∧ d = none ∧ ExcC K D ∧ PySem.W.exmOne K (.ref D) (.ref tt) = some true ∧ PySem.W.kitOne K (.ref D) (.ref c1) = some b1 ∧ PySem.W.kitOne K (.ref D) (.ref c2) = some b2 ∧ PySem.W.kitOne K (.ref D) (.ref c3) = some b3 ∧ PySem.W.kitOne K (.ref D) (.ref c4) = some b4 ∧
    r = if b1 = true then "program" else if b2 = true then "question" else if b3 = true then "run" else if b4 = true then "there" else "other"
def TTold3 (K : PySem.W.Frag) (T : Tb) (tt c1 c2 c3 c4 : Addr) (rd : MF) : (XK → Hp → VK → Prop) → Hp → VK → Prop := fun tl H Q =>
  ∀ Q' : VK, (∀ v H1, spM K T 1 rd [v] H1 (fun x H2 => newT H2 [.int 0, x] Q) (fun _ _ _ => False) → Q' v H1) → tl (fun cls d H' => ∃ r, ToldC K tt c1 c2 c3 c4 cls d r ∧ newT H' [.int 1, .str (sf r)] Q) H Q'
section
variable {Y : Cx} {a D cA : Addr} {oe : Obj} {pn : List (Addr × Obj)} {x nm : Str} {p1 p2 p3 p4 p5 p6 p7 pos : Pos} {j1 j2 kk : Nat} {r : String}
/-- isinstance(e, C), as a test -/
theorem pt_isE (C : ExcC Y.K D) (hz : Zc (.ref D) none oe) (hf : ∃ vs, oe.data = .fields vs) (hgi : Gl Y "isinstance") (hmi : Y.mg "isinstance" = none) (hN : Y.N[1]? = some x) (hv : Vis Y.env.scope x) (hd : (x == ("__debug__" : Str)) = false) (hcd : (x == ("__classdict__" : Str)) = false)
    (hg : Gl Y nm) (hm : Y.mg nm = some (.ref cA)) (hdn : (nm == ("__debug__" : Str)) = false) (hs : starEach [.Name x p1, .Name nm p2] Y.env = (false, eval (.Name x p1) Y.env) :: starEach [.Name nm p2] Y.env := by rfl) (hs2 : starEach [.Name nm p2] Y.env = (false, eval (.Name nm p2) Y.env) :: starEach [] Y.env := by rfl) (hb : bootBuiltins "isinstance" = some (.builtin "isinstance")) :
    PT (Y.suite a ((a, oe) :: pn)) (.Call (.Name "isinstance" p3) [.Name x p1, .Name nm p2] [] p4) (fun σ H Q => σ[1]? = some (some (.ref a)) ∧ ∃ b, PySem.W.kitOne Y.K (.ref D) (.ref cA) = some b ∧ Q b H) := by
  have e := pe_callB (X := Y.suite a ((a, oe) :: pn)) (p := p3) (pos := p4) (call_isE C hz hf) hgi hmi hb (pa_cons (pe_var (pos := p1) hN hv hd hcd) (pa_cons (pe_glob (pos := p2) (v := .ref cA) hg hm rfl hdn) pa_nil hs2) hs) (hpl := by rfl) (he := hs)
  refine PT.imp (pt_truth e fun _ => rfl) fun σ H Q ⟨h1, b, h2, h3⟩ => ?_
  exact ⟨.ref a, h1, .ref cA, .ref cA, b, rfl, fun u ru => ru, h2, b, rfl, h3⟩
/-- return (1, 'text') -/
theorem ps_ret1 {X : Cx} (hs : starEach [.Constant (.int 1) j1 p1, .Constant (.str (sf r)) j2 p2] X.env = (false, eval (.Constant (.int 1) j1 p1) X.env) :: starEach [.Constant (.str (sf r)) j2 p2] X.env := by rfl) (hs2 : starEach [.Constant (.str (sf r)) j2 p2] X.env = (false, eval (.Constant (.str (sf r)) j2 p2) X.env) :: starEach [] X.env := by rfl) :
    PS X (.Return (some (.Tuple [.Constant (.int 1) j1 p1, .Constant (.str (sf r)) j2 p2] kk p3)) pos) (fun D σ H => newT H [.int 1, .str (sf r)] D.rt) :=
  PS.imp (ps_ret (pe_tupF (pa_cons pe_int (pa_cons pe_str pa_nil hs2) hs))) fun D σ H h => ⟨by show 2 ≤ sizeLine; decide, h⟩
end

/-- the names that the suite and the body of _law_told look up, in a context of its scope -/
structure ToldN (mg : Str → Option Value) (sg : Scope) (Ng : List Str) (tt c1 c2 c3 c4 rd : Addr) : Prop where
  nd : Ng.Nodup
  n0 : Ng[0]? = some ("call" : Str)
  n1 : Ng[1]? = some ("e" : Str)
  l0 : sg.names.lookup ("call" : Str) = some .local
  l1 : sg.names.lookup ("e" : Str) = some .local
  g : ∀ x ∈ (["TypeTroubles", "BadProgram", "BadQuestion", "BadRun", "NotThere", "_law_read", "isinstance"] : List Str), sg.names.lookup x = some .globalImplicit
  mt : mg "TypeTroubles" = some (.ref tt)
  m1 : mg "BadProgram" = some (.ref c1)
  m2 : mg "BadQuestion" = some (.ref c2)
  m3 : mg "BadRun" = some (.ref c3)
  m4 : mg "NotThere" = some (.ref c4)
  mr : mg "_law_read" = some (.ref rd)
  mi : mg "isinstance" = none
section
variable {Y : Cx} {a : Addr} {oe : Obj} {pn : List (Addr × Obj)} {tt c1 c2 c3 c4 rd : Addr} {Ng : List Str}
theorem told_suite {i1 i2 i3 i4 i5 i6 i7 i8 i9 i10 i11 i12 i13 i14 i15 i16 i17 i18 i19 i20 i21 i22 i23 i24 i25 i26 i27 i28 i29 i30 i31 i32 i33 i34 i35 i36 i37 : Pos} {j1 j2 j3 j4 j5 j6 j7 j8 j9 k1 k2 k3 k4 : Nat} (hK : Y.N = Ng) (hN : ToldN Y.mg Y.env.scope Ng tt c1 c2 c3 c4 rd) (hlen : Ng.length = 2) {cls : Value} {d : Option Addr} (hz : Zc cls d oe) (hf : ∃ vs, oe.data = .fields vs) :
    PSs (Y.suite a ((a, oe) :: pn)) [
      .If (.Call (.Name "isinstance" i1) [.Name "e" i2, .Name "BadProgram" i3] [] i4) [.Return (some (.Tuple [.Constant (.int 1) j1 i5, .Constant (.str (sf "program")) j2 i6] k1 i7)) i8] [] i9,
      .If (.Call (.Name "isinstance" i10) [.Name "e" i11, .Name "BadQuestion" i12] [] i13) [.Return (some (.Tuple [.Constant (.int 1) j3 i14, .Constant (.str (sf "question")) j4 i15] k2 i16)) i17] [] i18,
      .If (.Call (.Name "isinstance" i19) [.Name "e" i20, .Name "BadRun" i21] [] i22) [.Return (some (.Tuple [.Constant (.int 1) j5 i23, .Constant (.str (sf "run")) j6 i24] k3 i25)) i26] [] i27,
      .Return (some (.Tuple [.Constant (.int 1) j7 i28, .IfExp (.Call (.Name "isinstance" i29) [.Name "e" i30, .Name "NotThere" i31] [] i32) (.Constant (.str (sf "there")) j8 i33) (.Constant (.str (sf "other")) j9 i34) i35] k4 i36)) i37]
    (fun D σ H => (∃ σ' : L2.St, σ = σ'.set 1 (some (.ref a))) ∧ ∃ r, ToldC Y.K tt c1 c2 c3 c4 cls d r ∧ newT H [.int 1, .str (sf r)] D.rt) := by
  refine ⟨fun p s σ H Q I q => ?_⟩
  obtain ⟨hset, r, ⟨D, b1, b2, b3, b4, rfl, rfl, C, _, e1, e2, e3, e4, er⟩, hq⟩ := q
  have h1 : σ[1]? = some (some (.ref a)) := by
    have hl : σ.length = 2 := by rw [← hlen, ← hK]; exact I.len
    obtain ⟨σ', rfl⟩ := hset
    rw [List.length_set] at hl
    exact List.getElem?_set_self (by omega)
  have hN1 : Y.N[1]? = some ("e" : Str) := by rw [hK]; exact hN.n1
  have hv : Vis Y.env.scope "e" := .inl hN.l1
  have gi : Gl Y "isinstance" := hN.g _ (by simp)
  have t1 := pt_isE (a := a) (pn := pn) (p1 := i2) (p2 := i3) (p3 := i1) (p4 := i4) C hz hf gi hN.mi hN1 hv (by decide) (by decide) (nm := "BadProgram") (hN.g _ (by simp)) hN.m1 (by decide) rfl rfl PyProof.Rows.boot_isinstance
  have t2 := pt_isE (a := a) (pn := pn) (p1 := i11) (p2 := i12) (p3 := i10) (p4 := i13) C hz hf gi hN.mi hN1 hv (by decide) (by decide) (nm := "BadQuestion") (hN.g _ (by simp)) hN.m2 (by decide) rfl rfl PyProof.Rows.boot_isinstance
  have t3 := pt_isE (a := a) (pn := pn) (p1 := i20) (p2 := i21) (p3 := i19) (p4 := i22) C hz hf gi hN.mi hN1 hv (by decide) (by decide) (nm := "BadRun") (hN.g _ (by simp)) hN.m3 (by decide) rfl rfl PyProof.Rows.boot_isinstance
  have t4 := pt_isE (a := a) (pn := pn) (p1 := i30) (p2 := i31) (p3 := i29) (p4 := i32) C hz hf gi hN.mi hN1 hv (by decide) (by decide) (nm := "NotThere") (hN.g _ (by simp)) hN.m4 (by decide) rfl rfl PyProof.Rows.boot_isinstance
  refine (pss_cons (ps_if t1 (pss_one ps_ret1) pss_nil) (pss_cons (ps_if t2 (pss_one ps_ret1) pss_nil) (pss_cons (ps_if t3 (pss_one ps_ret1) pss_nil) (pss_one (ps_ret (pe_tupF (pa_cons pe_int (pa_cons (pe_ifExp t4 pe_str pe_str) pa_nil)))))))).run p s σ H Q I ?_
  refine ⟨h1, b1, e1, ?_⟩
  cases b1 with
  | true => rw [if_pos rfl]; rw [er] at hq; exact hq
  | false =>
    rw [if_neg Bool.false_ne_true]
    refine ⟨h1, b2, e2, ?_⟩
    cases b2 with
    | true => rw [if_pos rfl]; rw [er] at hq; exact hq
    | false =>
      rw [if_neg Bool.false_ne_true]
      refine ⟨h1, b3, e3, ?_⟩
      cases b3 with
      | true => rw [if_pos rfl]; rw [er] at hq; exact hq
      | false =>
        rw [if_neg Bool.false_ne_true]
        refine ⟨h1, b4, e4, ?_⟩
        cases b4 with
        | true => rw [if_pos rfl]; rw [er] at hq; exact ⟨by show 2 ≤ sizeLine; decide, hq⟩
        | false => rw [if_neg Bool.false_ne_true]; rw [er] at hq; exact ⟨by show 2 ≤ sizeLine; decide, hq⟩
end

theorem Post.imp {K : PySem.W.Frag} {T : Tb} {α β : Type} {rep : List Addr → Hp → α → β → Prop} {mp : List Addr} {H : Hp} {W W' : XK} {r : Res α} {Q Q' : β → Hp → Prop} (h : Post K T rep mp H W r Q) (h1 : ∀ v H, Q v H → Q' v H) (h2 : ∀ c d H, W c d H → W' c d H) : Post K T rep mp H W' r Q' := by
  cases r with
  | ok a st => exact fun m v G e s r => h1 _ _ (h m v G e s r)
  | exc x st => exact fun m G c d e s r => h2 _ _ _ (h m G c d e s r)
  | bad => exact h
theorem spM.imp {K : PySem.W.Frag} {T : Tb} {n : Nat} {m : MF} {vs : List V} {H : Hp} {Q Q' : VK} {E E' : XK} (h : spM K T n m vs H Q E) (h1 : ∀ v H, Q v H → Q' v H) (h2 : ∀ c d H, E c d H → E' c d H) : spM K T n m vs H Q' E' := by
  obtain ⟨hl, mp, xs, st, S, r, P⟩ := h
  exact ⟨hl, mp, xs, st, S, r, P.imp h1 h2⟩
def toldM : String → Option String
  | "BadProgram" => some "program"
  | "BadQuestion" => some "question"
  | "BadRun" => some "run"
  | "NotThere" => some "there"
  | _ => none
def eTold (rd : MF) (mb : ME) : ME := fun ρ s => match mb ρ s with
  | .ok v s1 => (rd [v] s1).calm.bind fun r s2 => .ok (.tup [.int 0, r]) s2
  | .exc x s1 => match toldM x.cls, x.fs with
    | some r, [] => .ok (.tup [.int 1, .str r]) s1
    | _, _ => .bad
  | .bad => .bad
section
variable {X : Cx} {T : Tb} {W : WX} {k j : Nat} {c P g rdA tt c1 c2 c3 c4 : Addr} {fdr : FuncData} {psr : List Str} {rd : MF} {sg : Scope} {Ng : List Str} {q : Str}
theorem told_gives3 {b₀ : Stmt} {suite : List Stmt} {j0 k0 : Nat} {q1 q2 q3 q4 q5 q6 q7 q8 q9 q10 : Pos} {cdg : Value} (hNs : ToldN X.mg sg Ng tt c1 c2 c3 c4 rdA) (hlen : Ng.length = 2)
    (F : FnOk X.prog X.w X.K X.mg X.base (L2.CX X.prog X.w) j rdA fdr psr (spM X.K T 1 rd)) (hb : L2.Binds X.K fdr psr []) (hk : PySem.W.keepIn X.K (.ref rdA) = true) (hr : ∀ s : Shared, Room j (X.A.deeper (envOfC "_law_told" sg s.heap.objs.size g cdg)))
    (hsu : ∀ (Y : Cx) (a : Addr) (oe : Obj) (cls : Value) (d : Option Addr) (pn : List (Addr × Obj)), Y.N = Ng → Y.mg = X.mg → Y.env.scope = sg → Y.K = X.K → Zc cls d oe → (∃ vs, oe.data = .fields vs) → PSs (Y.suite a ((a, oe) :: pn)) (b₀ :: suite) (fun D σ H => (∃ σ' : L2.St, σ = σ'.set 1 (some (.ref a))) ∧ ∃ r, ToldC X.K tt c1 c2 c3 c4 cls d r ∧ newT H [.int 1, .str (sf r)] D.rt)) :
    GivesTo X Ng "_law_told" sg g cdg [.Try [.Return (some (.Tuple [.Constant (.int 0) j0 q1, .Call (.Name "_law_read" q2) [.Call (.Name "call" q3) [] [] q4] [] q5] k0 q6)) q7] [.ExceptHandler (some (.Name "TypeTroubles" q8)) (some "e") (b₀ :: suite) q9] [] [] q10] "call" q
      (TTold3 X.K T tt c1 c2 c3 c4 rd) := by
  intro f c' s H Q tl act hc h
  refine ⟨_, pss_one (ps_try_as (X := (cxOf C8.CX0 X.prog X.w X.K X.mg X.base Ng "_law_told" sg g cdg X.A X.stack s H C8.E0).nox) (i := 1) (c := .ref tt)
      (tb := fun W D σ H => ∃ Ech : XK, (∀ cls d σ' H', Ech cls d H' → W cls d σ' H') ∧ σ[0]? = some (some (.ref f)) ∧ H c' = some (CodeO c' q) ∧ ∀ Q' : VK, (∀ v H1, spM X.K T 1 rd [v] H1 (fun x H2 => newT H2 [.int 0, x] D.rt) (fun _ _ _ => False) → Q' v H1) → tl Ech H Q')
      rfl rfl hNs.nd hNs.n1 hNs.l1 ⟨hNs.g _ (by simp), by decide, .inl hNs.mt⟩ LamX.takes0 (fun W pn xe tk _ => ?_) (fun a oe cls d pn hz hf => hsu _ a oe cls d pn rfl rfl rfl rfl hz hf)), ?_⟩
  · refine ⟨fun pins s' σ H' D I h' => ?_⟩
    obtain ⟨Ech, hW, h1, h2, h3⟩ := h'
    have hp := act W pn xe Ech q3 q4 tk hW
    have hcall := pe_callS (E := WE W) (p := q2) (pos := q5) (X := (cxOf C8.CX0 X.prog X.w X.K X.mg X.base Ng "_law_told" sg g cdg X.A X.stack s H C8.E0).tr pn xe) F (hr s) (hNs.g "_law_read" (by simp)) hNs.mr hk hb (fun σ => passAt tk σ) (pa_cons hp pa_nil)
    have hq := pss_one (ps_ret (pos := q7) (pe_tupF (x1 := k0) (pos := q6) (pa_cons (pe_int (i := 0) (j := j0) (pos := q1)) (pa_cons hcall pa_nil))))
    refine hq.run pins s' σ H' D I ⟨h1, h2, h3 _ fun v H1 hsp => ?_⟩
    exact hsp.imp (fun x H2 hx => ⟨by show 2 ≤ sizeLine; decide, hx⟩) fun _ _ _ z => z.elim
  · refine ⟨fun cls d H' => ∃ r, ToldC X.K tt c1 c2 c3 c4 cls d r ∧ newT H' [.int 1, .str (sf r)] Q, fun cls d σ' H' ⟨r, hr', hq⟩ => ?_, ?_, hc, h⟩
    · obtain ⟨D, b1, b2, b3, b4, e1, e2, e3, e4, e5⟩ := hr'.ex
      subst e1
      exact ⟨true, e4, fun _ a _ => ⟨⟨σ', rfl⟩, r, hr', hq⟩, fun z => by cases z⟩
    · simp [L2.start]
/-- _law_told(lambda: e) -/
theorem re_told {mb : ME} {fd : FuncData} {pg : Arguments} {params : Arguments} {body : Expr} {scope : Scope} {b₀ : Stmt} {suite : List Stmt} {j0 k0 : Nat} {q1 q2 q3 q4 q5 q6 q7 q8 q9 q10 p lpos pos : Pos} (G : LamHere T X k c P) (hNs : ToldN X.mg sg Ng tt c1 c2 c3 c4 rdA) (hlen : Ng.length = 2)
    (hC : ∀ c r, toldM c = some r → ToldC X.K tt c1 c2 c3 c4 (.ref (T.cls c)) none r)
    (F : FnOk X.prog X.w X.K X.mg X.base (L2.CX X.prog X.w) j rdA fdr psr (spM X.K T 1 rd)) (hj : j ≤ k + 1) (hbr : L2.Binds X.K fdr psr []) (hkr : PySem.W.keepIn X.K (.ref rdA) = true)
    (hsu : ∀ (Y : Cx) (a : Addr) (oe : Obj) (cls : Value) (d : Option Addr) (pn : List (Addr × Obj)), Y.N = Ng → Y.mg = X.mg → Y.env.scope = sg → Y.K = X.K → Zc cls d oe → (∃ vs, oe.data = .fields vs) → PSs (Y.suite a ((a, oe) :: pn)) (b₀ :: suite) (fun D σ H => (∃ σ' : L2.St, σ = σ'.set 1 (some (.ref a))) ∧ ∃ r, ToldC X.K tt c1 c2 c3 c4 cls d r ∧ newT H [.int 1, .str (sf r)] D.rt))
    (hg : Gl X "_law_told") (hm : X.mg "_law_told" = some (.ref g)) (Fg : FunD X.K "_law_told" "_law_told" pg [.Try [.Return (some (.Tuple [.Constant (.int 0) j0 q1, .Call (.Name "_law_read" q2) [.Call (.Name "call" q3) [] [] q4] [] q5] k0 q6)) q7] [.ExceptHandler (some (.Name "TypeTroubles" q8)) (some "e") (b₀ :: suite) q9] [] [] q10] sg [] [] g fd)
    (hb : L2.Binds X.K fd ["call"] []) (Sg : FnScope Ng ["call"] sg) (L : LamS X.env.scope scope) (hdef : defaultsOf params X.env = ([], []) := by rfl)
    (hbody : ∀ (A : Around) (outer : List Env) (s : Shared) (H : Hp) (E : XK) (f c' : Addr), Room k (A.deeper (lamEnv X scope s.heap.objs.size f c')) → RE T (lamCx X A outer s H E scope f c') (fun cls d _ H' => E cls d H') body mb)
    (hbind : ∀ (q : Str) (cl : List (Str × Addr)) (pm cv ctv : Value), bindArgs (PySem.W.kla_fn "<lambda>" q params body scope cl pm cv ctv) ⟨[], []⟩ = pure [] := by intro _ _ _ _ _; rfl) :
    RE T X W (.Call (.Name "_law_told" p) [.Lambda params body scope lpos] [] pos) (eTold rd mb) := by
  refine PE.imp (pe_lam3 (t := fun E => tE X.K T (fun cls d _ H' => E cls d H') mb) G hg hm Fg hb Sg hNs.n0 (.inl hNs.l0) (fun cdg => told_gives3 (T := T) (tt := tt) (c1 := c1) (c2 := c2) (c3 := c3) (c4 := c4) (rd := rd) hNs hlen F hbr hkr (fun s => (G.room.deeper _).mono hj) hsu) L hdef hbind (fun A outer s H E f c' hr => hbody A outer s H E f c' hr)) fun σ H Q ⟨mp, ρ, st, L, S, P⟩ => ⟨S.tabs, fun H1 ce htab Q' hQ' => ?_⟩
  refine ⟨mp, ρ, st, L.mono ce.ext_, S.cext ce htab, ?_⟩
  unfold eTold at P
  cases e : mb ρ st with
  | ok v s1 =>
    rw [e] at P
    intro mp1 v' H2 e1 S1 r1
    refine hQ' v' H2 ⟨rfl, mp1, [v], s1, S1, .single r1, ?_⟩
    refine calm_bnd P fun x st2 mp2 xv H3 e3 S3 r3 P3 => ?_
    intro p o hd hp
    exact P3 mp2 _ _ (((ce.ext_.trans e1).trans e3).trans (Ext.new0 hp)) (S3.new0 hp) ⟨p, [.int 0, xv], rfl, .inl ⟨o, upd_same, hd⟩, _, _, rfl, rfl, _, _, rfl, r3.mono (Ext.new0 hp), rfl⟩
  | exc x s1 =>
    rw [e] at P
    intro mp1 H2 cls d e1 S1 r1
    obtain ⟨ecls, hfs⟩ := r1
    dsimp only at P
    split at P
    · rename_i r hr hf
      have hd : d = none := by
        rcases hfs with ⟨_, hd⟩ | ⟨h3, _⟩
        · exact hd
        · exact absurd hf h3
      subst hd ecls
      refine ⟨r, hC x.cls r hr, fun p o hd hp => ?_⟩
      exact P mp1 _ _ ((ce.ext_.trans e1).trans (Ext.new0 hp)) (S1.new0 hp) ⟨p, [.int 1, .str (sf r)], rfl, .inl ⟨o, upd_same, hd⟩, _, _, rfl, rfl, _, _, rfl, rfl, rfl⟩
    · exact P.elim
  | bad => rw [e] at P; exact P.elim
end
end MP

set_option Elab.async false
set_option linter.all false
set_option maxRecDepth 100000
set_option maxHeartbeats 2000000
/-! MP: a law's defs. -/
namespace MP
open PySem PySem.Spec PyProof.Rows L2

/-- the def x keeps the promise m -/
def FO (P : Program) (w : World) (K : PySem.W.Frag) (mg : Str → Option Value) (base : Heap) (T : Tb) (k : Nat) (x : Str) (ps : List Str) (m : MF) : Prop :=
  ∃ fd, FnOk P w K mg base (L2.CX P w) k (He.ga K x) fd ps (spM K T ps.length m) ∧ L2.Binds K fd ps [] ∧ PySem.W.keepIn K (.ref (He.ga K x)) = true ∧ mg x = some (.ref (He.ga K x)) ∧ ∃ oc od osl, K.lookup (He.ga K x) = some ⟨oc, od, .func fd, osl⟩
section
variable {P : Program} {w : World} {K : PySem.W.Frag} {mg : Str → Option Value} {base : Heap} {T : Tb} {k j : Nat} {x : Str} {ps : List Str} {m : MF}
theorem FO.mono (F : FO P w K mg base T j x ps m) (h : j ≤ k) : FO P w K mg base T k x ps m := by
  obtain ⟨fd, F, b, kp, hm, lk⟩ := F
  exact ⟨fd, F.mono h, b, kp, hm, lk⟩
/-- a def by its body -/
theorem fo_mk {qual : Str} {params : Arguments} {body : List Stmt} {scope : Scope} {fd : FuncData} {N : List Str} {b : MS} (F : FunD K x qual params body scope [] [] (He.ga K x) fd) (S : FnScope N ps scope) (hm : mg x = some (.ref (He.ga K x)))
    (hb : ∀ (kV doc pm : Value) (an : Option Addr) (cdv ct : Value) (us : List Value), us.length = ps.length → bindArgs (PySem.W.fnOf x qual params body scope .none kV doc pm an cdv ct) ⟨us, []⟩ = pure (ps.zip us))
    (hbody : ∀ (cdv : Value) (A : Around) (outer : List Env) (s : Shared) (H : Hp) (E : XK), cdv = .ref (He.codeOf K (x, none)) → Room k (A.deeper (envOfC qual scope s.heap.objs.size (He.ga K x) cdv)) →
      RSs T (cxOf (L2.CX P w) P w K mg base N qual scope (He.ga K x) cdv A outer s H E) (fun cls d _ H' => E cls d H') body b) : FO P w K mg base T (k + 1) x ps (runB N.length b) := by
  have hlk : ∃ oc od osl, K.lookup (He.ga K x) = some (⟨oc, od, .func fd, osl⟩ : Obj) := by
    obtain ⟨oc, od, dV, kV, doc, pm, an, cdv, ct, osl, e, lk, _⟩ := F.ex
    exact ⟨oc, od, osl, lk⟩
  refine ⟨fd, ?_, F.bindsN hb, F.kp, hm, hlk⟩
  obtain ⟨oc, od, dV, kV, doc, pm, an, cdv, ct, osl, rfl, lk, hcd, _, _⟩ := F.ex
  refine fn_of lk hcd S (fun vs H Q E h => h.1) fun A outer s H vs Q E hr h => ⟨_, hbody cdv A outer s H E ?_ hr, ?_⟩
  · obtain ⟨c, rfl⟩ := He.codeIn_ref hcd
    have lk' : K.lookup (He.fAd K (x, none)) = _ := lk
    rw [He.codeOf_eq lk' rfl]
  obtain ⟨_, mp, xs, st, S', r, Pq⟩ := h
  refine ⟨mp, _, st, relL_start r, S', ?_⟩
  unfold runB at Pq
  show SPost K T mp H _ _ _
  cases e : b (xs.map some ++ List.replicate (N.length - xs.length) none) st with
  | nx ρ' st' => rw [e] at Pq; exact fun mp' σ' H' e' L' S2 => fin_post S' Pq e' S2 (show RepV K mp' H' .non .non from rfl)
  | rt a st' => rw [e] at Pq; exact fun mp' v H' e' S2 r' => fin_post S' Pq e' S2 r'
  | bk ρ' st' => rw [e] at Pq; exact Pq.elim
  | ct ρ' st' => rw [e] at Pq; exact Pq.elim
  | exc x ρ' st' => rw [e] at Pq; exact fun mp' σ' H' cls d e' L' S2 r' => finX_post S' Pq e' S2 r'
  | bad => rw [e] at Pq; exact Pq.elim
theorem fo_bad {qual : Str} {params : Arguments} {body : List Stmt} {scope : Scope} {fd : FuncData} (F : FunD K x qual params body scope [] [] (He.ga K x) fd) (hm : mg x = some (.ref (He.ga K x)))
    (hb : ∀ (kV doc pm : Value) (an : Option Addr) (cdv ct : Value) (us : List Value), us.length = ps.length → bindArgs (PySem.W.fnOf x qual params body scope .none kV doc pm an cdv ct) ⟨us, []⟩ = pure (ps.zip us)) : FO P w K mg base T k x ps (fun _ _ => .bad) :=
  ⟨fd, fn_bad, F.bindsN hb, F.kp, hm, by
    obtain ⟨oc, od, dV, kV, doc, pm, an, cdv, ct, osl, e, lk, _⟩ := F.ex
    exact ⟨oc, od, osl, lk⟩⟩
end
section
variable {T : Tb} {X : Cx} {W : WX} {a : Expr} {es : List Expr} {mr : MA} {pos p : Pos} {x : Str} {ps : List Str} {m : MF} {k : Nat}
theorem re_fo (F : FO X.prog X.w X.K X.mg X.base T k x ps m) (hr : Room k X.A) (tk : Takes X W) (ha : RA T X W (a :: es) mr) (hg : Gl X x := by rfl) (hn : (a :: es).length = ps.length := by rfl) (hdb : (x == ("__debug__" : Str)) = false := by decide) (he : starEach (a :: es) X.env = (false, eval a X.env) :: starEach es X.env := by rfl)
    (hpl : (backTo pos (starEach es X.env)).any (·.1) = false := by rfl) : RE T X W (.Call (.Name x p) (a :: es) [] pos) (eCall m mr) := by
  obtain ⟨fd, F, b, kp, hm, _⟩ := F
  exact re_call F hr hg hm kp b tk ha hn hdb he hpl
/-- raise C('text') -/
theorem rs_raiseC {c : String} {z : Str} {j : Nat} {p2 pos2 : Pos} (hc : X.calm = true) (tk : Takes X W) (hx : x = sf c) (hcl : T.cls c = He.ga X.K x) (F : (He.Fa.exc x).ok X.K = true) (hm : X.mg x = some (.ref (He.ga X.K x))) (hg : Gl X x := by rfl) (hdb : (x == ("__debug__" : Str)) = false := by decide) :
    RS T X W (.Raise (some (.Call (.Name x p) [.Constant (.str z) j p2] [] pos)) none pos2) (sRaise ⟨c, []⟩) := by
  obtain ⟨h1, h2, h3, h4⟩ := He.exc_ok F
  exact rs_raise hc tk (pmk_own PySem.F.excBase_ValueError h1 hm h2 (raises_own h3 h4) hg hdb) fun σ H Q h => by rw [hcl] at h; exact h
end

theorem hu64 {k : Nat} {A : Around} (hr : Room k A) : A.units + 64 < cLine := by have := hr.un; omega
/-! ### minus -/
def gNeg : MV → Sto → Res MV := fun x s => match x with
  | .int i => .ok (.int (-i)) s
  | _ => .bad
theorem rg_neg {K : PySem.W.Frag} {T : Tb} : RR1 K T gNeg (rU fun i => .int (-i)) := by
  intro mp H st a x W Q S r P
  cases a with
  | int i => cases r; exact ⟨i, rfl, Post.here P S rfl⟩
  | _ => exact P.elim
theorem re_neg {T : Tb} {X : Cx} {W : WX} {a : Expr} {ma : ME} {pos : Pos} (ha : RE T X W a ma) : RE T X W (.UnaryOp .USub a pos) (eUn gNeg ma) := re_un un_neg rg_neg ha

/-! ### in, as a test -/
theorem PT.or {X : Cx} {e : Expr} {t t' : TT} (h : PT X e t) (h' : PT X e t') : PT X e (fun σ H Q => t σ H Q ∨ t' σ H Q) := ⟨fun p s σ H Q I q => q.elim (h.run p s σ H Q I) (h'.run p s σ H Q I)⟩
theorem tT_or {K : PySem.W.Frag} {T : Tb} {W : WX} {ma mb : ME} {g g' : MV → MV → Sto → Res MV} {σ : L2.St} {H : Hp} {Q : Bool → Hp → Prop} (h : tT K T W (tB2 (eOp (gOr g g') ma mb)) σ H Q) : tT K T W (tB2 (eOp g ma mb)) σ H Q ∨ tT K T W (tB2 (eOp g' ma mb)) σ H Q := by
  obtain ⟨mp, ρ, st, L, S, P⟩ := h
  have key : eOp (gOr g g') ma mb ρ st = eOp g ma mb ρ st ∨ eOp (gOr g g') ma mb ρ st = eOp g' ma mb ρ st := by
    unfold eOp
    cases ma ρ st with
    | ok x s =>
      show ((mb ρ s).bind fun y s => gOr g g' x y s) = ((mb ρ s).bind fun y s => g x y s) ∨ ((mb ρ s).bind fun y s => gOr g g' x y s) = ((mb ρ s).bind fun y s => g' x y s)
      cases mb ρ s with
      | ok y s =>
        show gOr g g' x y s = g x y s ∨ gOr g g' x y s = g' x y s
        exact gOr_cases g g' x y s
      | exc _ _ => exact .inl rfl
      | bad => exact .inl rfl
    | exc _ _ => exact .inl rfl
    | bad => exact .inl rfl
  have e : ∀ m m' : ME, m ρ st = m' ρ st → tB2 m ρ st = tB2 m' ρ st := fun m m' h => by unfold tB2; rw [h]
  rcases key with q | q
  · rw [e _ _ q] at P; exact .inl ⟨mp, ρ, st, L, S, P⟩
  · rw [e _ _ q] at P; exact .inr ⟨mp, ρ, st, L, S, P⟩
section
variable {T : Tb} {X : Cx} {W : WX} {a b : Expr} {ma mb : ME} {pos : Pos}
theorem rt_in {k : Nat} (hr : Room k X.A) (ha : RE T X W a ma) (hb : RE T X W b mb) (hm : behindInMarks .In b = false := by rfl) : RT T X W (.Compare a [.In] [b] pos) (tB2 (eOp (gIn false) ma mb)) := by
  have h1 : RT T X W (.Compare a [.In] [b] pos) (tB2 (eOp (gInS false) ma mb)) := rt_cmp op_in_seq (rg_inS false) ha hb hm
  have h2 : RT T X W (.Compare a [.In] [b] pos) (tB2 (eOp (gInD false) ma mb)) := PT.imp (pt_cmp (pc_din (hu_of hr) ha hb) hm) fun σ H Q h => test_in (fun _ _ _ => op_in (rg_inD false)) h
  exact PT.imp (PT.or h1 h2) fun σ H Q h => tT_or h
theorem rt_notin {k : Nat} (hr : Room k X.A) (ha : RE T X W a ma) (hb : RE T X W b mb) (hm : behindInMarks .NotIn b = false := by rfl) : RT T X W (.Compare a [.NotIn] [b] pos) (tB2 (eOp (gIn true) ma mb)) := by
  have h1 : RT T X W (.Compare a [.NotIn] [b] pos) (tB2 (eOp (gInS true) ma mb)) := rt_cmp op_notIn_seq (rg_inS true) ha hb hm
  have h2 : RT T X W (.Compare a [.NotIn] [b] pos) (tB2 (eOp (gInD true) ma mb)) := PT.imp (pt_cmp (pc_dnotin (hu_of hr) ha hb) hm) fun σ H Q h => test_in (fun _ _ _ => op_in (rg_inD true)) h
  exact PT.imp (PT.or h1 h2) fun σ H Q h => tT_or h
end
/-! ### tables -/
theorem nodup_fst {α β : Type} {l : List (α × β)} (h : (l.map (·.1)).Nodup) {a : α} {b b' : β} (h1 : (a, b) ∈ l) (h2 : (a, b') ∈ l) : b' = b := by
  induction l with
  | nil => simp at h1
  | cons p l ih =>
    rw [List.map_cons, List.nodup_cons] at h
    rcases List.mem_cons.mp h1 with e1 | e1 <;> rcases List.mem_cons.mp h2 with e2 | e2
    · rw [← e1] at e2; cases e2; rfl
    · exact absurd (List.mem_map.mpr ⟨_, e2, by rw [← e1]⟩) h.1
    · exact absurd (List.mem_map.mpr ⟨_, e1, by rw [← e2]⟩) h.1
    · exact ih h.2 e1 e2
theorem gen_here {T : Tb} {X : Cx} {k : Nat} {c P : Addr} (hr : Room (k + 1) X.A) (nd : X.N.Nodup) (tb : LamX.TabB X.base X.mg c P) (hc : X.env.code = .ref c) (hm : (P, X.env.qual ++ "<genexpr>") ∈ T.tabs) (hu : (T.tabs.map (·.1)).Nodup) : GenHere T X k c P :=
  ⟨hr, nd, tb, hc, hm, fun p hp e => by obtain ⟨a, b⟩ := p; subst e; exact nodup_fst hu hm hp⟩
theorem lam_here {T : Tb} {X : Cx} {k : Nat} {c P : Addr} (hr : Room (k + 2) X.A) (tb : LamX.TabB X.base X.mg c P) (hc : X.env.code = .ref c) (hm : (P, X.env.qual ++ "<lambda>") ∈ T.tabs) (hu : (T.tabs.map (·.1)).Nodup) : LamHere T X k c P :=
  ⟨hr, tb, hc, hm, fun p hp e => by obtain ⟨a, b⟩ := p; subst e; exact nodup_fst hu hm hp⟩

/-! ### _law_told -/
def excCB (K : PySem.W.Frag) (D : Addr) : Bool :=
  He.eqO (PySem.W.findIn K (.ref D) "__getattribute__") (some (some (.builtin "BaseException.__getattribute__"))) && He.eqO (PySem.W.findIn K (.ref D) "__getattr__") (some none) && decide (PySem.W.subIn K (.ref D) (.type "BaseException") = some true) && PySem.W.hasDictIn K D &&
    He.eqO (PySem.W.findIn K (.ref D) "__class__") (some (some (.builtin "object.__class__"))) && He.eqO (PySem.W.specialIn K (.builtin "object.__class__") "__get__") (some (some (.builtin "getset_descriptor.__get__"))) &&
    decide (PySem.W.takesIn K (.builtin "object.__class__") = some true) && decide (PySem.W.mroIn K D (.type "object") = some true)
theorem excC_of {K : PySem.W.Frag} {D : Addr} (h : excCB K D = true) : ExcC K D := by
  unfold excCB at h
  simp only [Bool.and_eq_true, decide_eq_true_eq] at h
  obtain ⟨⟨⟨⟨⟨⟨⟨h1, h2⟩, h3⟩, h4⟩, h5⟩, h6⟩, h7⟩, h8⟩ := h
  exact ⟨He.eqO_ok h1, He.eqO_ok h2, h3, h4, He.eqO_ok h5, He.eqO_ok h6, h7, h8⟩
def toldOneB (K : PySem.W.Frag) (c : Str) : Bool :=
  excCB K (He.ga K c) && decide (PySem.W.exmOne K (.ref (He.ga K c)) (.ref (He.ga K "TypeTroubles")) = some true) && (["BadProgram", "BadQuestion", "BadRun", "NotThere"] : List Str).all fun c' => decide (PySem.W.kitOne K (.ref (He.ga K c)) (.ref (He.ga K c')) = some (decide (c = c')))
def toldOkB (K : PySem.W.Frag) : Bool := (["BadProgram", "BadQuestion", "BadRun", "NotThere"] : List Str).all (toldOneB K)
theorem toldC_of {K : PySem.W.Frag} (h : toldOkB K = true) : ∀ c r, toldM c = some r → ToldC K (He.ga K "TypeTroubles") (He.ga K "BadProgram") (He.ga K "BadQuestion") (He.ga K "BadRun") (He.ga K "NotThere") (.ref (He.ga K (sf c))) none r := by
  have one : ∀ c : Str, c ∈ (["BadProgram", "BadQuestion", "BadRun", "NotThere"] : List Str) → ExcC K (He.ga K c) ∧ PySem.W.exmOne K (.ref (He.ga K c)) (.ref (He.ga K "TypeTroubles")) = some true ∧ ∀ c' ∈ (["BadProgram", "BadQuestion", "BadRun", "NotThere"] : List Str), PySem.W.kitOne K (.ref (He.ga K c)) (.ref (He.ga K c')) = some (decide (c = c')) := fun c hc => by
    have z := List.all_eq_true.mp h c hc
    unfold toldOneB at z
    simp only [Bool.and_eq_true, decide_eq_true_eq] at z
    exact ⟨excC_of z.1.1, z.1.2, fun c' hc' => by simpa using List.all_eq_true.mp z.2 c' hc'⟩
  intro c r hr
  unfold toldM at hr
  split at hr
  · cases hr
    obtain ⟨h1, h2, h3⟩ := one "BadProgram" (by simp)
    exact ⟨_, _, _, _, _, rfl, rfl, h1, h2, h3 _ (by simp), h3 _ (by simp), h3 _ (by simp), h3 _ (by simp), by decide +kernel⟩
  · cases hr
    obtain ⟨h1, h2, h3⟩ := one "BadQuestion" (by simp)
    exact ⟨_, _, _, _, _, rfl, rfl, h1, h2, h3 _ (by simp), h3 _ (by simp), h3 _ (by simp), h3 _ (by simp), by decide +kernel⟩
  · cases hr
    obtain ⟨h1, h2, h3⟩ := one "BadRun" (by simp)
    exact ⟨_, _, _, _, _, rfl, rfl, h1, h2, h3 _ (by simp), h3 _ (by simp), h3 _ (by simp), h3 _ (by simp), by decide +kernel⟩
  · cases hr
    obtain ⟨h1, h2, h3⟩ := one "NotThere" (by simp)
    exact ⟨_, _, _, _, _, rfl, rfl, h1, h2, h3 _ (by simp), h3 _ (by simp), h3 _ (by simp), h3 _ (by simp), by decide +kernel⟩
  · cases hr
/-- what a law has of _law_told -/
structure ToldHere (K : PySem.W.Frag) (mg : Str → Option Value) (pg : Arguments) (body : List Stmt) (sg : Scope) : Prop where
  n : ToldN mg sg ([("call" : Str), "e"] : List Str) (He.ga K "TypeTroubles") (He.ga K "BadProgram") (He.ga K "BadQuestion") (He.ga K "BadRun") (He.ga K "NotThere") (He.ga K "_law_read")
  c : toldOkB K = true
  f : ∃ fd, FunD K "_law_told" "_law_told" pg body sg [] [] (He.ga K "_law_told") fd
  m : mg "_law_told" = some (.ref (He.ga K "_law_told"))
  b : ∀ (kV doc pm : Value) (an : Option Addr) (cdv ct : Value) (us : List Value), us.length = ([("call" : Str)] : List Str).length → bindArgs (PySem.W.fnOf "_law_told" "_law_told" pg body sg .none kV doc pm an cdv ct) ⟨us, []⟩ = pure ([("call" : Str)].zip us)
  s : FnScope ([("call" : Str), "e"] : List Str) [("call" : Str)] sg
theorem re_toldF {T : Tb} {X : Cx} {W : WX} {k : Nat} {c P : Addr} {mb : ME} {rd : MF} {sg : Scope} {pg params : Arguments} {body : Expr} {scope : Scope} {b₀ : Stmt} {suite : List Stmt} {j0 k0 : Nat} {q1 q2 q3 q4 q5 q6 q7 q8 q9 q10 p lpos pos : Pos} (G : LamHere T X k c P)
    (hT : ToldHere X.K X.mg pg [.Try [.Return (some (.Tuple [.Constant (.int 0) j0 q1, .Call (.Name "_law_read" q2) [.Call (.Name "call" q3) [] [] q4] [] q5] k0 q6)) q7] [.ExceptHandler (some (.Name "TypeTroubles" q8)) (some "e") (b₀ :: suite) q9] [] [] q10] sg) (hcls : T.cls = fun c => He.ga X.K (sf c))
    (hsu : ∀ (Y : Cx) (a : Addr) (oe : Obj) (cls : Value) (d : Option Addr) (pn : List (Addr × Obj)), Y.N = ([("call" : Str), "e"] : List Str) → Y.mg = X.mg → Y.env.scope = sg → Y.K = X.K → Zc cls d oe → (∃ vs, oe.data = .fields vs) → PSs (Y.suite a ((a, oe) :: pn)) (b₀ :: suite) (fun D σ H => (∃ σ' : L2.St, σ = σ'.set 1 (some (.ref a))) ∧ ∃ r, ToldC X.K (He.ga X.K "TypeTroubles") (He.ga X.K "BadProgram") (He.ga X.K "BadQuestion") (He.ga X.K "BadRun") (He.ga X.K "NotThere") cls d r ∧ newT H [.int 1, .str (sf r)] D.rt))
    (F : FO X.prog X.w X.K X.mg X.base T k "_law_read" ([("told" : Str)] : List Str) rd) (L : LamX.LamS X.env.scope scope)
    (hbody : ∀ (A : Around) (outer : List Env) (s : Shared) (H : Hp) (E : XK) (f c' : Addr), Room k (A.deeper (LamX.lamEnv X scope s.heap.objs.size f c')) → RE T (LamX.lamCx X A outer s H E scope f c') (fun cls d _ H' => E cls d H') body mb)
    (hg : Gl X "_law_told" := by rfl) (hdef : defaultsOf params X.env = ([], []) := by rfl)
    (hbind : ∀ (q : Str) (cl : List (Str × Addr)) (pm cv ctv : Value), bindArgs (PySem.W.kla_fn "<lambda>" q params body scope cl pm cv ctv) ⟨[], []⟩ = pure [] := by intro _ _ _ _ _; rfl) :
    RE T X W (.Call (.Name "_law_told" p) [.Lambda params body scope lpos] [] pos) (eTold rd mb) := by
  obtain ⟨fdr, F, br, kr, _, _⟩ := F
  obtain ⟨fd, Fg⟩ := hT.f
  refine re_told G hT.n rfl (fun c r hr => ?_) F (Nat.le_succ k) br kr hsu hg hT.m Fg (Fg.bindsN hT.b) hT.s L hdef hbody hbind
  rw [hcls]
  exact toldC_of hT.c c r hr
end MP

set_option Elab.async false
set_option linter.all false
set_option maxRecDepth 100000
set_option maxHeartbeats 2000000
/-! MP: a law's end. -/
namespace MP
open PySem PySem.Spec PyProof.Rows L2

theorem cx_false {P : Program} {w : World} {outer : List Env} {H : Hp} {s : Shared} {e : Value} {s' : Shared} (h : L2.CX P w outer H s (fun _ _ _ => False) e s') : False := by
  obtain ⟨_, _, _, _, _, _, _, _, _, _, _, _, z⟩ := h
  exact z
/-- the script's list, frozen from now on -/
theorem fn_frz {P : Program} {w : World} {K : PySem.W.Frag} {mg : Str → Option Value} {base : Heap} {k : Nat} {f : Addr} {fd : FuncData} {x : Str} {sp : Sp} (F : FnOk P w K mg base (L2.CX P w) k f fd [x] sp) :
    FnOk P w K mg base (L2.CX P w) k f fd [x] (fun vs H Q E => (E = fun _ _ _ => False) ∧ ∃ a xs, vs = [.ref a] ∧ SqL K H a xs ∧ ∀ H' : Hp, LisAt K H' a xs → (∀ b, b ≠ a → H' b = H b) → sp vs H' Q E) := by
  refine ⟨fun vs H Q E ⟨_, a, xs, e, _, _⟩ => by rw [e] <;> rfl, fun A outer s H args us vs Q E hr e0 hb rv ⟨hE, a, xs, ev, hS, hsp⟩ => ?_⟩
  subst hE
  rcases hS with (h | ⟨o, h⟩) | h
  · obtain ⟨hz, its, n, rx, e⟩ := e0.hok a _ h
    have hH : HOk P w (upd H a (.frz { cls := .type "list", data := .seq its.toArray n } (.lst xs))) s.heap := by
      intro b u hu
      by_cases hb : b = a
      · rw [hb, upd_same] at hu
        cases hu
        rw [hb]
        exact ⟨e, hz, its, n, rx, e⟩
      · rw [upd_ne hb] at hu
        refine (e0.hok b u hu).stay (fun c v _ q => q) (fun c q => ?_) fun c ys q => ?_
        · rw [upd_ne (fun z => by rw [z, h] at q; cases q)]; exact q
        · rw [upd_ne (fun z => by rw [z, h] at q; cases q)]; exact q
    have e1 : Env0 P w K mg base A outer s (upd H a (.frz { cls := .type "list", data := .seq its.toArray n } (.lst xs))) := ⟨e0.frames, e0.mod, fun b o eb => ⟨(e0.bs b o eb).1, by
      have hn := (e0.bs b o eb).2
      rw [upd_ne (fun z => by rw [z, h] at hn; cases hn)]; exact hn⟩, e0.bsz, e0.funs, fun b hb => by
      have hn := e0.frf b hb
      rw [upd_ne (fun z => by rw [z, h] at hn; cases hn)]; exact hn, hH, e0.bare⟩
    refine codeAny_mono (F.run A outer s _ args us vs Q _ hr e1 hb rv (hsp _ (.inl ⟨_, upd_same⟩) fun b hb => upd_ne hb)) fun r s' hq => ?_
    cases r with
    | error e => exact (cx_false hq).elim
    | ok fl =>
      cases fl with
      | next => exact False.elim hq
      | brk => exact False.elim hq
      | cont => exact False.elim hq
      | ret u =>
        obtain ⟨v, H2, os, bare, un, hok2, r2, q⟩ := hq
        have nn : ∀ b, H b = none → upd H a (.frz { cls := .type "list", data := .seq its.toArray n } (.lst xs)) b = none := fun b hn => by rw [upd_ne (fun z => by rw [z, h] at hn; cases hn)]; exact hn
        have ss : ∀ b u, H b = some u → (∀ ys, u ≠ .lst ys) → upd H a (.frz { cls := .type "list", data := .seq its.toArray n } (.lst xs)) b = some u := fun b u hu hn => by
          rw [upd_ne (fun z => by rw [z, h] at hu; cases hu; exact hn _ rfl)]; exact hu
        exact ⟨v, H2, os, bare, ⟨fun b ob e1 e2 e3 e4 => un.keep b ob e1 (nn b e2) e3 e4, fun b ob e1 e2 e3 e4 => un.slot b ob e1 (nn b e2) e3 e4, fun b ob e1 e2 e3 => un.free b ob e1 (nn b e2) e3, un.there,
          fun b ys e => un.tups b ys (ss b _ e fun _ z => nomatch z), fun b o u e => un.frzs b o u (ss b _ e fun _ z => nomatch z), fun b ps e => un.tbls b ps (ss b _ e fun _ z => nomatch z)⟩, hok2, r2, q⟩
  · exact F.run A outer s H args us vs Q _ hr e0 hb rv (hsp H (.inl ⟨o, h⟩) fun _ _ => rfl)
  · exact F.run A outer s H args us vs Q _ hr e0 hb rv (hsp H (.inr h) fun _ _ => rfl)
/-- a law's walk by its monadic form; the facts by the head's Hook -/
theorem walk_ofX {l : PySem.W.OpenLaw} {n k dp : Nat} {q : Program} {loose : List Str} {XP : (Str → Option Value) → Heap → Prop} {d : DefRec} {fa : List He.Fa} {fn : List He.DefD} {ts : List He.Tab} {tf : List He.Defn} {ex : PySem.W.Frag → Bool} {x nm : Str} {T : PySem.W.Frag → Tb} {m : MF}
    (hn : l.most = some n) (hn2 : n ≤ sizeLine) (hdf : d.params.defaults = []) (hdn : d.name = nm) (hr : Room k callerA) (hT : ∀ K, (T K).tabs.map (·.1) = tf.map fun p => (He.cT K p).2)
    (F : ∀ (w : World) (mg : Str → Option Value) (h : Heap) (K : PySem.W.Frag), K.In h → h.Ns mainGlobals mg → He.SaysX fa fn ts tf ex w h K →
      ∃ fd, (∀ (s : Shared) (u : Value), BindsTo s fd ⟨[u], []⟩ [(x, u)]) ∧ mg nm = some (.ref (He.ga K nm)) ∧ ∀ base : Heap, K.In base → base.Ns mainGlobals mg → (∀ p ∈ tf, LamX.TabB base mg (He.cT K p).1 (He.cT K p).2) → FnOk l.prog w K mg base (L2.CX l.prog w) k (He.ga K nm) fd [x] (spM K (T K) 1 m))
    (hm : ∀ ns : List Int, ns.length ≤ n → (∀ z ∈ ns, Builtin.Int.intBits z ≤ 1048576) → ∃ s', m [.lis (ns.map MV.int)] [] = .ok (.bl true) s') :
    PySem.W.WalkO q loose XP (He.hookX dp fa fn ts tf ex).says l.row.toRowW d [] (fun f vs => PySem.call f vs) := by
  refine Att.attach_callB hn hdf fun w s₀ s₁ mg mb fa' o pm cd doc a vs ns G Y ho hd hcd hmg hobj hints hlen hbits hg => ?_
  obtain ⟨K, KX, c⟩ := Y
  obtain ⟨fd, hb, hmgn, hF⟩ := F w mg _ K KX G.T.g c
  have ef : fa' = He.ga K nm := by
    rw [hdn, hmgn] at hmg
    cases hmg
    rfl
  subst ef
  have mem : ∀ p ∈ tf.map (He.cT K), ∃ t ∈ tf, p = He.cT K t := fun p hp => by
    obtain ⟨t, h1, h2⟩ := List.mem_map.mp hp
    exact ⟨t, h1, h2.symm⟩
  have hE : ∀ p ∈ tf.map (He.cT K), s₁.heap.get? p.2 = some { cls := .none, data := .fields #[] } := fun p hp => by
    obtain ⟨t, h1, rfl⟩ := mem p hp
    exact c.empty t h1
  refine LamX.law_callTs (cs := tf.map (He.cT K)) KX G.T.g G.T.b G.T.builtins G.T.nolimit hg hE (fun p hp => ?_) (fun p hp => ?_) G.T.bmain hobj hints (Nat.le_trans hlen hn2) hr (fun base b1 b2 b3 => fn_frz (hF base b1 b2 fun p hp => b3 _ (List.mem_map.mpr ⟨p, hp, rfl⟩))) hb (fun H hH hS => ⟨rfl, a, _, rfl, hS, fun H' hL hne => ?_⟩) fun H e s' h => cx_false h
  · obtain ⟨t, h1, rfl⟩ := mem p hp
    exact c.out t h1
  · obtain ⟨t, h1, rfl⟩ := mem p hp
    exact PySem.W.codeHd_of_K KX (c.hd t h1)
  · have reps : ∀ l : List Int, RepVs K [] H' (l.map MV.int) (l.map V.int) := fun l => by
      induction l with
      | nil => exact rfl
      | cons i l ih => exact ⟨.int i, _, rfl, rfl, ih⟩
    refine ⟨rfl, [], [.lis (ns.map MV.int)], [], ⟨rfl, List.nodup_nil, fun n c a h => by simp at h, fun p hp => ?_⟩, .single ⟨a, _, rfl, hL, reps ns⟩, ?_⟩
    · have h1 : p.1 ∈ tf.map fun p => (He.cT K p).2 := by rw [← hT]; exact List.mem_map.mpr ⟨p, hp, rfl⟩
      obtain ⟨t, h2, h3⟩ := List.mem_map.mp h1
      have h4 : He.cT K t ∈ tf.map (He.cT K) := List.mem_map.mpr ⟨t, h2, rfl⟩
      refine LamX.TabS.nil ?_
      rw [← h3, hne _ fun z => ?_]
      · exact hH _ h4
      · have z1 := hE _ h4
        have z : (He.cT K t).2 = a := z
        rw [z, hobj] at z1
        cases z1
    · obtain ⟨s', e⟩ := hm ns hlen hbits
      rw [e]
      exact fun mp' v H'' _ _ r => r
theorem FO.fn {P : Program} {w : World} {K : PySem.W.Frag} {mg : Str → Option Value} {base : Heap} {T : Tb} {k : Nat} {x : Str} {ps : List Str} {m : MF} {qual : Str} {params : Arguments} {body : List Stmt} {scope : Scope} {fd : FuncData} {dvs : List V} {kws : List (Str × V)} (F : FO P w K mg base T k x ps m) (D : FunD K x qual params body scope dvs kws (He.ga K x) fd) :
    FnOk P w K mg base (L2.CX P w) k (He.ga K x) fd ps (spM K T ps.length m) := by
  obtain ⟨fd', F, _, _, _, oc, od, osl, lk⟩ := F
  obtain ⟨oc2, od2, dV, kV, doc, pm, an, cdv, ct, osl2, e, lk2, _⟩ := D.ex
  rw [lk] at lk2
  cases lk2
  exact F
end MP

set_option Elab.async false
set_option linter.all false
set_option maxRecDepth 100000
set_option maxHeartbeats 4000000
namespace L_k02_language
open PySem PySem.Spec PyProof.Rows L2 MP
def top (i : Nat) : Stmt := PySem.Challenge.pw_truetotype_k02_language.main.body.getD i (.Pass ⟨0, 0, 0, 0⟩)
abbrev s_d_is_int : Stmt := top 8
abbrev s_d_is_number : Stmt := top 9
abbrev s_d_is_there : Stmt := top 10
abbrev s_d_expression_parts : Stmt := top 11
abbrev s_d_condition_parts : Stmt := top 12
abbrev s_d_reckon : Stmt := top 13
abbrev s_d_true : Stmt := top 14
abbrev s_d_fit : Stmt := top 15
abbrev s_d_form : Stmt := top 16
abbrev s_d_table : Stmt := top 17
abbrev s_d_value_of : Stmt := top 18
abbrev s_d_is_true : Stmt := top 19
abbrev s_d_fits : Stmt := top 20
abbrev s_l_cell : Stmt := top 22
abbrev s_l_stream : Stmt := top 23
abbrev s_l_draw : Stmt := top 24
abbrev s_l_value : Stmt := top 25
abbrev s_l_true : Stmt := top 26
abbrev s_l_fits : Stmt := top 27
abbrev s_l_expr : Stmt := top 28
abbrev s_l_cond : Stmt := top 29
abbrev s_l_read : Stmt := top 30
abbrev s_d_law : Stmt := top 32
abbrev s_l_told : Stmt := top 31
/-! ### the defs in the store monad -/
structure Ms where
  d_is_int : MF
  d_is_number : MF
  d_is_there : MF
  d_expression_parts : MF
  d_condition_parts : MF
  d_reckon : MF
  d_true : MF
  d_fit : MF
  d_form : MF
  d_table : MF
  d_value_of : MF
  d_is_true : MF
  d_fits : MF
  l_cell : MF
  l_stream : MF
  l_draw : MF
  l_value : MF
  l_true : MF
  l_fits : MF
  l_expr : MF
  l_cond : MF
  l_read : MF
  d_law : MF
noncomputable def b_d_is_int (M : Ms) : MS := sRet (eOp gIs (eCall fType (aCons (eVar 0) (aNil))) (eC (.ty "int")))
noncomputable def b_d_is_number (M : Ms) : MS := sRet (eAnd (eCall M.d_is_int (aCons (eVar 0) (aNil))) (eChain gLe gLe (eUn gNeg (eC (.int 50))) (eVar 0) (eC (.int 50))))
noncomputable def b_d_is_there (M : Ms) : MS := sRet (eAnd (eOp gIs (eCall fType (aCons (eVar 0) (aNil))) (eC (.ty "str"))) (eOr (eOp gIs (eVar 1) (eC .non)) (eOp (gIn false) (eVar 0) (eVar 1))))
noncomputable def b_d_expression_parts (M : Ms) : MS := sSeq (sIf (tOrr (tB2 (eOp gIsNot (eCall fType (aCons (eVar 0) (aNil))) (eC (.ty "tuple")))) (tOrr (tNo (tTr (eVar 0))) (tB2 (eOp gIsNot (eCall fType (aCons (eOp gIx (eVar 0) (eC (.int 0))) (aNil))) (eC (.ty "str")))))) (sRet (eC (.int 0))) (sNil)) (sSeq (sIf (tB2 (eOp gEq (eOp gIx (eVar 0) (eC (.int 0))) (eC (.str "n")))) (sRet (eIf (tAn (tB2 (eOp gEq (eCall fLen (aCons (eVar 0) (aNil))) (eC (.int 2)))) (tTr (eCall M.d_is_number (aCons (eOp gIx (eVar 0) (eC (.int 1))) (aNil))))) (eC (.int 1)) (eC (.int 0)))) (sNil)) (sSeq (sIf (tB2 (eOp gEq (eOp gIx (eVar 0) (eC (.int 0))) (eC (.str "x")))) (sRet (eIf (tAn (tB2 (eOp gEq (eCall fLen (aCons (eVar 0) (aNil))) (eC (.int 2)))) (tTr (eCall M.d_is_there (aCons (eOp gIx (eVar 0) (eC (.int 1))) (aCons (eVar 1) (aNil)))))) (eC (.int 1)) (eC (.int 0)))) (sNil)) (sSeq (sIf (tB2 (eOp gNe (eCall fLen (aCons (eVar 0) (aNil))) (eC (.int 3)))) (sRet (eC (.int 0))) (sNil)) (sSeq (sIf (tB2 (eOp (gIn false) (eOp gIx (eVar 0) (eC (.int 0))) (eTup (aCons (eC (.str "+")) (aCons (eC (.str "-")) (aNil)))))) (sSeq (sPar 3 4 (aCons (eCall M.d_expression_parts (aCons (eOp gIx (eVar 0) (eC (.int 1))) (aCons (eVar 1) (aNil)))) (aCons (eCall M.d_expression_parts (aCons (eOp gIx (eVar 0) (eC (.int 2))) (aCons (eVar 1) (aNil)))) (aNil)))) (sRet (eIf (tAn (tTr (eVar 3)) (tTr (eVar 4))) (eOp gAdd (eOp gAdd (eVar 3) (eVar 4)) (eC (.int 1))) (eC (.int 0))))) (sNil)) (sSeq (sIf (tB2 (eOp gEq (eOp gIx (eVar 0) (eC (.int 0))) (eC (.str "*")))) (sSeq (sSet 2 (eIf (tTr (eCall M.d_is_number (aCons (eOp gIx (eVar 0) (eC (.int 1))) (aNil)))) (eCall M.d_expression_parts (aCons (eOp gIx (eVar 0) (eC (.int 2))) (aCons (eVar 1) (aNil)))) (eC (.int 0)))) (sRet (eIf (tTr (eVar 2)) (eOp gAdd (eVar 2) (eC (.int 1))) (eC (.int 0))))) (sNil)) (sSeq (sIf (tB2 (eOp (gIn false) (eOp gIx (eVar 0) (eC (.int 0))) (eTup (aCons (eC (.str "/")) (aCons (eC (.str "mod")) (aNil)))))) (sSeq (sSet 2 (eIf (tAn (tTr (eCall M.d_is_number (aCons (eOp gIx (eVar 0) (eC (.int 2))) (aNil)))) (tB2 (eOp gGe (eOp gIx (eVar 0) (eC (.int 2))) (eC (.int 1))))) (eCall M.d_expression_parts (aCons (eOp gIx (eVar 0) (eC (.int 1))) (aCons (eVar 1) (aNil)))) (eC (.int 0)))) (sRet (eIf (tTr (eVar 2)) (eOp gAdd (eVar 2) (eC (.int 1))) (eC (.int 0))))) (sNil)) (sRet (eC (.int 0)))))))))
noncomputable def b_d_condition_parts (M : Ms) : MS := sSeq (sIf (tOrr (tB2 (eOp gIsNot (eCall fType (aCons (eVar 0) (aNil))) (eC (.ty "tuple")))) (tOrr (tNo (tTr (eVar 0))) (tB2 (eOp gIsNot (eCall fType (aCons (eOp gIx (eVar 0) (eC (.int 0))) (aNil))) (eC (.ty "str")))))) (sRet (eC (.int 0))) (sNil)) (sSeq (sIf (tB2 (eOp gEq (eOp gIx (eVar 0) (eC (.int 0))) (eC (.str "yes")))) (sRet (eIf (tB2 (eOp gEq (eCall fLen (aCons (eVar 0) (aNil))) (eC (.int 1)))) (eC (.int 1)) (eC (.int 0)))) (sNil)) (sSeq (sIf (tB2 (eOp gEq (eOp gIx (eVar 0) (eC (.int 0))) (eC (.str "not")))) (sSeq (sSet 2 (eIf (tB2 (eOp gEq (eCall fLen (aCons (eVar 0) (aNil))) (eC (.int 2)))) (eCall M.d_condition_parts (aCons (eOp gIx (eVar 0) (eC (.int 1))) (aCons (eVar 1) (aNil)))) (eC (.int 0)))) (sRet (eIf (tTr (eVar 2)) (eOp gAdd (eVar 2) (eC (.int 1))) (eC (.int 0))))) (sNil)) (sSeq (sIf (tB2 (eOp gNe (eCall fLen (aCons (eVar 0) (aNil))) (eC (.int 3)))) (sRet (eC (.int 0))) (sNil)) (sSeq (sIf (tB2 (eOp (gIn false) (eOp gIx (eVar 0) (eC (.int 0))) (eTup (aCons (eC (.str "<")) (aCons (eC (.str "<=")) (aCons (eC (.str "=")) (aCons (eC (.str "!=")) (aNil)))))))) (sPar 3 4 (aCons (eCall M.d_expression_parts (aCons (eOp gIx (eVar 0) (eC (.int 1))) (aCons (eVar 1) (aNil)))) (aCons (eCall M.d_expression_parts (aCons (eOp gIx (eVar 0) (eC (.int 2))) (aCons (eVar 1) (aNil)))) (aNil)))) (sIf (tB2 (eOp (gIn false) (eOp gIx (eVar 0) (eC (.int 0))) (eTup (aCons (eC (.str "and")) (aCons (eC (.str "or")) (aNil)))))) (sPar 3 4 (aCons (eCall M.d_condition_parts (aCons (eOp gIx (eVar 0) (eC (.int 1))) (aCons (eVar 1) (aNil)))) (aCons (eCall M.d_condition_parts (aCons (eOp gIx (eVar 0) (eC (.int 2))) (aCons (eVar 1) (aNil)))) (aNil)))) (sRet (eC (.int 0))))) (sRet (eIf (tAn (tTr (eVar 3)) (tTr (eVar 4))) (eOp gAdd (eOp gAdd (eVar 3) (eVar 4)) (eC (.int 1))) (eC (.int 0))))))))
noncomputable def b_d_reckon (M : Ms) : MS := sSeq (sSet 2 (eOp gIx (eVar 0) (eC (.int 0)))) (sSeq (sIf (tB2 (eOp gEq (eVar 2) (eC (.str "n")))) (sRet (eOp gIx (eVar 0) (eC (.int 1)))) (sNil)) (sSeq (sIf (tB2 (eOp gEq (eVar 2) (eC (.str "x")))) (sSeq (sIf (tB2 (eOp (gIn true) (eOp gIx (eVar 0) (eC (.int 1))) (eVar 1))) (sRaise ⟨"NotThere", []⟩) (sNil)) (sRet (eOp gIx (eVar 1) (eOp gIx (eVar 0) (eC (.int 1)))))) (sNil)) (sSeq (sIf (tB2 (eOp gEq (eVar 2) (eC (.str "+")))) (sRet (eOp gAdd (eCall M.d_reckon (aCons (eOp gIx (eVar 0) (eC (.int 1))) (aCons (eVar 1) (aNil)))) (eCall M.d_reckon (aCons (eOp gIx (eVar 0) (eC (.int 2))) (aCons (eVar 1) (aNil)))))) (sNil)) (sSeq (sIf (tB2 (eOp gEq (eVar 2) (eC (.str "-")))) (sRet (eOp gSub (eCall M.d_reckon (aCons (eOp gIx (eVar 0) (eC (.int 1))) (aCons (eVar 1) (aNil)))) (eCall M.d_reckon (aCons (eOp gIx (eVar 0) (eC (.int 2))) (aCons (eVar 1) (aNil)))))) (sNil)) (sSeq (sIf (tB2 (eOp gEq (eVar 2) (eC (.str "*")))) (sRet (eOp gMul (eOp gIx (eVar 0) (eC (.int 1))) (eCall M.d_reckon (aCons (eOp gIx (eVar 0) (eC (.int 2))) (aCons (eVar 1) (aNil)))))) (sNil)) (sSeq (sIf (tB2 (eOp gEq (eVar 2) (eC (.str "/")))) (sRet (eOp gDiv (eCall M.d_reckon (aCons (eOp gIx (eVar 0) (eC (.int 1))) (aCons (eVar 1) (aNil)))) (eOp gIx (eVar 0) (eC (.int 2))))) (sNil)) (sRet (eOp gMod (eCall M.d_reckon (aCons (eOp gIx (eVar 0) (eC (.int 1))) (aCons (eVar 1) (aNil)))) (eOp gIx (eVar 0) (eC (.int 2)))))))))))
noncomputable def b_d_true (M : Ms) : MS := sSeq (sSet 2 (eOp gIx (eVar 0) (eC (.int 0)))) (sSeq (sIf (tB2 (eOp gEq (eVar 2) (eC (.str "yes")))) (sRet (eC (.bl true))) (sNil)) (sSeq (sIf (tB2 (eOp gEq (eVar 2) (eC (.str "not")))) (sRet (eNot (eCall M.d_true (aCons (eOp gIx (eVar 0) (eC (.int 1))) (aCons (eVar 1) (aNil)))))) (sNil)) (sSeq (sIf (tB2 (eOp (gIn false) (eVar 2) (eTup (aCons (eC (.str "and")) (aCons (eC (.str "or")) (aNil)))))) (sSeq (sPar 3 4 (aCons (eCall M.d_true (aCons (eOp gIx (eVar 0) (eC (.int 1))) (aCons (eVar 1) (aNil)))) (aCons (eCall M.d_true (aCons (eOp gIx (eVar 0) (eC (.int 2))) (aCons (eVar 1) (aNil)))) (aNil)))) (sRet (eIf (tB2 (eOp gEq (eVar 2) (eC (.str "and")))) (eAnd (eVar 3) (eVar 4)) (eOr (eVar 3) (eVar 4))))) (sNil)) (sSeq (sPar 3 4 (aCons (eCall M.d_reckon (aCons (eOp gIx (eVar 0) (eC (.int 1))) (aCons (eVar 1) (aNil)))) (aCons (eCall M.d_reckon (aCons (eOp gIx (eVar 0) (eC (.int 2))) (aCons (eVar 1) (aNil)))) (aNil)))) (sRet (eOp gIx (eDisp ((eC (.str "<"), eOp gLt (eVar 3) (eVar 4)) :: (eC (.str "<="), eOp gLe (eVar 3) (eVar 4)) :: (eC (.str "="), eOp gEq (eVar 3) (eVar 4)) :: (eC (.str "!="), eOp gNe (eVar 3) (eVar 4)) :: [])) (eVar 2)))))))
noncomputable def b_d_fit (M : Ms) : MS := sSeq (sSet 3 (eCall dictM (aCons (eVar 2) (aNil)))) (sSeq (sSto setM (eVar 3) (eC (.str "v")) (eVar 0)) (sRet (eAnd (eChain gLe gLe (eOp gIx (eVar 1) (eC (.int 0))) (eVar 0) (eOp gIx (eVar 1) (eC (.int 1)))) (eCall M.d_true (aCons (eOp gIx (eVar 1) (eC (.int 2))) (aCons (eVar 3) (aNil)))))))
noncomputable def b_d_form (M : Ms) : MS := sIf (tNo (tTr (eVar 0))) (sRaise ⟨"BadProgram", []⟩) (sNil)
noncomputable def b_d_table (M : Ms) : MS := sSeq (sSet 1 (eAnd (eOp gIs (eCall fType (aCons (eVar 0) (aNil))) (eC (.ty "tuple"))) (eGen (stepAA false) (finAA false) () (iSeq (eVar 0)) [2] (gN 2) (tYesM) (eAnd (eOp gIs (eCall fType (aCons (eVar 2) (aNil))) (eC (.ty "tuple"))) (eOp gEq (eCall fLen (aCons (eVar 2) (aNil))) (eC (.int 2))))))) (sSeq (sSet 1 (eAnd (eVar 1) (eGen (stepAA false) (finAA false) () (iSeq (eVar 0)) [2] (gN 2) (tYesM) (eAnd (eOp gIs (eCall fType (aCons (eOp gIx (eVar 2) (eC (.int 0))) (aNil))) (eC (.ty "str"))) (eCall M.d_is_int (aCons (eOp gIx (eVar 2) (eC (.int 1))) (aNil))))))) (sSeq (sIf (tOrr (tNo (tTr (eVar 1))) (tB2 (eOp gNe (eCall fLen (aCons (eCall dictM (aCons (eVar 0) (aNil))) (aNil))) (eCall fLen (aCons (eVar 0) (aNil)))))) (sRaise ⟨"BadRun", []⟩) (sNil)) (sRet (eCall dictM (aCons (eVar 0) (aNil))))))
noncomputable def b_d_value_of (M : Ms) : MS := sSeq (sExpr (eCall M.d_form (aCons (eOp gGt (eCall M.d_expression_parts (aCons (eVar 0) (aCons (eC .non) (aNil)))) (eC (.int 0))) (aNil)))) (sRet (eCall M.d_reckon (aCons (eVar 0) (aCons (eCall M.d_table (aCons (eVar 1) (aNil))) (aNil)))))
noncomputable def b_d_is_true (M : Ms) : MS := sSeq (sExpr (eCall M.d_form (aCons (eOp gGt (eCall M.d_condition_parts (aCons (eVar 0) (aCons (eC .non) (aNil)))) (eC (.int 0))) (aNil)))) (sRet (eCall M.d_true (aCons (eVar 0) (aCons (eCall M.d_table (aCons (eVar 1) (aNil))) (aNil)))))
noncomputable def b_d_fits (M : Ms) : MS := sSeq (sExpr (eCall M.d_form (aCons (eAnd (eCall M.d_is_int (aCons (eVar 0) (aNil))) (eAnd (eOp gIs (eCall fType (aCons (eVar 1) (aNil))) (eC (.ty "tuple"))) (eAnd (eOp gEq (eCall fLen (aCons (eVar 1) (aNil))) (eC (.int 3))) (eAnd (eCall M.d_is_int (aCons (eOp gIx (eVar 1) (eC (.int 0))) (aNil))) (eCall M.d_is_int (aCons (eOp gIx (eVar 1) (eC (.int 1))) (aNil))))))) (aNil)))) (sSeq (sExpr (eCall M.d_form (aCons (eOp gGt (eCall M.d_condition_parts (aCons (eOp gIx (eVar 1) (eC (.int 2))) (aCons (eC .non) (aNil)))) (eC (.int 0))) (aNil)))) (sRet (eCall M.d_fit (aCons (eVar 0) (aCons (eVar 1) (aCons (eCall M.d_table (aCons (eVar 2) (aNil))) (aNil)))))))
noncomputable def b_l_cell (M : Ms) : MS := sRet (eIf (tB2 (eOp gLt (eVar 1) (eCall fLen (aCons (eVar 0) (aNil))))) (eCall fInt (aCons (eOp gIx (eVar 0) (eVar 1)) (aNil))) (eC (.int 0)))
noncomputable def b_l_stream (M : Ms) : MS := sRet (eLst (aCons (eCall fAbs (aCons (eCall M.l_cell (aCons (eVar 0) (aCons (eVar 1) (aNil)))) (aNil))) (aCons (eOp gAdd (eOp gMod (eCall fAbs (aCons (eCall M.l_cell (aCons (eVar 0) (aCons (eVar 1) (aNil)))) (aNil))) (eC (.int 1000003))) (eC (.int 7))) (aNil))))
noncomputable def b_l_draw (M : Ms) : MS := sSeq (sIf (tB2 (eOp gGt (eOp gIx (eVar 0) (eC (.int 0))) (eC (.int 0)))) (sSeq (sSet 2 (eOp gMod (eOp gIx (eVar 0) (eC (.int 0))) (eVar 1))) (sSeq (sSto setM (eVar 0) (eC (.int 0)) (eOp gDiv (eOp gIx (eVar 0) (eC (.int 0))) (eVar 1))) (sRet (eCall fInt (aCons (eVar 2) (aNil)))))) (sNil)) (sSeq (sSto setM (eVar 0) (eC (.int 1)) (eOp gMod (eCall fInt (aCons (eOp gAdd (eOp gMul (eOp gIx (eVar 0) (eC (.int 1))) (eC (.int 48271))) (eC (.int 12345))) (aNil))) (eC (.int 2147483647)))) (sRet (eOp gMod (eCall fInt (aCons (eOp gDiv (eOp gIx (eVar 0) (eC (.int 1))) (eC (.int 64))) (aNil))) (eVar 1))))
noncomputable def b_l_value (M : Ms) : MS := sSeq (sSet 2 (eOp gIx (eVar 0) (eC (.int 0)))) (sSeq (sIf (tB2 (eOp gEq (eVar 2) (eC (.str "n")))) (sRet (eOp gIx (eVar 0) (eC (.int 1)))) (sNil)) (sSeq (sIf (tB2 (eOp gEq (eVar 2) (eC (.str "x")))) (sRet (eOp gIx (eVar 1) (eOp gIx (eVar 0) (eC (.int 1))))) (sNil)) (sSeq (sIf (tB2 (eOp gEq (eVar 2) (eC (.str "+")))) (sRet (eOp gAdd (eCall M.l_value (aCons (eOp gIx (eVar 0) (eC (.int 1))) (aCons (eVar 1) (aNil)))) (eCall M.l_value (aCons (eOp gIx (eVar 0) (eC (.int 2))) (aCons (eVar 1) (aNil)))))) (sNil)) (sSeq (sIf (tB2 (eOp gEq (eVar 2) (eC (.str "-")))) (sRet (eOp gSub (eCall M.l_value (aCons (eOp gIx (eVar 0) (eC (.int 1))) (aCons (eVar 1) (aNil)))) (eCall M.l_value (aCons (eOp gIx (eVar 0) (eC (.int 2))) (aCons (eVar 1) (aNil)))))) (sNil)) (sSeq (sIf (tB2 (eOp gEq (eVar 2) (eC (.str "*")))) (sRet (eOp gMul (eOp gIx (eVar 0) (eC (.int 1))) (eCall M.l_value (aCons (eOp gIx (eVar 0) (eC (.int 2))) (aCons (eVar 1) (aNil)))))) (sNil)) (sSeq (sIf (tB2 (eOp gEq (eVar 2) (eC (.str "/")))) (sRet (eOp gDiv (eCall M.l_value (aCons (eOp gIx (eVar 0) (eC (.int 1))) (aCons (eVar 1) (aNil)))) (eOp gIx (eVar 0) (eC (.int 2))))) (sNil)) (sRet (eOp gMod (eCall M.l_value (aCons (eOp gIx (eVar 0) (eC (.int 1))) (aCons (eVar 1) (aNil)))) (eOp gIx (eVar 0) (eC (.int 2)))))))))))
noncomputable def b_l_true (M : Ms) : MS := sSeq (sSet 2 (eOp gIx (eVar 0) (eC (.int 0)))) (sSeq (sIf (tB2 (eOp gEq (eVar 2) (eC (.str "yes")))) (sRet (eC (.bl true))) (sNil)) (sSeq (sIf (tB2 (eOp gEq (eVar 2) (eC (.str "and")))) (sRet (eAnd (eCall M.l_true (aCons (eOp gIx (eVar 0) (eC (.int 1))) (aCons (eVar 1) (aNil)))) (eCall M.l_true (aCons (eOp gIx (eVar 0) (eC (.int 2))) (aCons (eVar 1) (aNil)))))) (sNil)) (sSeq (sIf (tB2 (eOp gEq (eVar 2) (eC (.str "or")))) (sRet (eOr (eCall M.l_true (aCons (eOp gIx (eVar 0) (eC (.int 1))) (aCons (eVar 1) (aNil)))) (eCall M.l_true (aCons (eOp gIx (eVar 0) (eC (.int 2))) (aCons (eVar 1) (aNil)))))) (sNil)) (sSeq (sIf (tB2 (eOp gEq (eVar 2) (eC (.str "not")))) (sRet (eNot (eCall M.l_true (aCons (eOp gIx (eVar 0) (eC (.int 1))) (aCons (eVar 1) (aNil)))))) (sNil)) (sSeq (sPar 3 4 (aCons (eCall M.l_value (aCons (eOp gIx (eVar 0) (eC (.int 1))) (aCons (eVar 1) (aNil)))) (aCons (eCall M.l_value (aCons (eOp gIx (eVar 0) (eC (.int 2))) (aCons (eVar 1) (aNil)))) (aNil)))) (sSeq (sIf (tB2 (eOp gEq (eVar 2) (eC (.str "<")))) (sRet (eOp gLt (eVar 3) (eVar 4))) (sNil)) (sSeq (sIf (tB2 (eOp gEq (eVar 2) (eC (.str "<=")))) (sRet (eOp gLe (eVar 3) (eVar 4))) (sNil)) (sSeq (sIf (tB2 (eOp gEq (eVar 2) (eC (.str "=")))) (sRet (eOp gEq (eVar 3) (eVar 4))) (sNil)) (sRet (eOp gNe (eVar 3) (eVar 4)))))))))))
noncomputable def b_l_fits (M : Ms) : MS := sSeq (sIf (tNo (tB2 (eChain gLe gLe (eOp gIx (eVar 1) (eC (.int 0))) (eVar 0) (eOp gIx (eVar 1) (eC (.int 1)))))) (sRet (eC (.bl false))) (sNil)) (sSeq (sSet 3 (eCall dictM (aCons (eVar 2) (aNil)))) (sSeq (sSto setM (eVar 3) (eC (.str "v")) (eVar 0)) (sRet (eCall M.l_true (aCons (eOp gIx (eVar 1) (eC (.int 2))) (aCons (eVar 3) (aNil)))))))
noncomputable def b_l_expr (M : Ms) : MS := sSeq (sSet 3 (eCall M.l_draw (aCons (eVar 0) (aCons (eC (.int 7)) (aNil))))) (sSeq (sIf (tOrr (tB2 (eOp gEq (eVar 2) (eC (.int 0)))) (tOrr (tB2 (eOp gLt (eVar 3) (eC (.int 2)))) (tB2 (eOp gEq (eVar 1) (eLst (aNil)))))) (sRet (eIf (tOrr (tB2 (eOp gEq (eVar 1) (eLst (aNil)))) (tB2 (eOp gEq (eCall M.l_draw (aCons (eVar 0) (aCons (eC (.int 3)) (aNil)))) (eC (.int 0))))) (eTup (aCons (eC (.str "n")) (aCons (eOp gSub (eCall M.l_draw (aCons (eVar 0) (aCons (eC (.int 6)) (aNil)))) (eC (.int 1))) (aNil)))) (eTup (aCons (eC (.str "x")) (aCons (eOp gIx (eVar 1) (eCall M.l_draw (aCons (eVar 0) (aCons (eCall fLen (aCons (eVar 1) (aNil))) (aNil))))) (aNil)))))) (sNil)) (sSeq (sSet 4 (eCall M.l_expr (aCons (eVar 0) (aCons (eVar 1) (aCons (eOp gSub (eVar 2) (eC (.int 1))) (aNil)))))) (sSeq (sIf (tB2 (eOp gLt (eVar 3) (eC (.int 4)))) (sRet (eTup (aCons (eC (.str "+")) (aCons (eVar 4) (aCons (eCall M.l_expr (aCons (eVar 0) (aCons (eVar 1) (aCons (eOp gSub (eVar 2) (eC (.int 1))) (aNil))))) (aNil)))))) (sNil)) (sSeq (sIf (tB2 (eOp gEq (eVar 3) (eC (.int 4)))) (sRet (eTup (aCons (eC (.str "-")) (aCons (eVar 4) (aCons (eCall M.l_expr (aCons (eVar 0) (aCons (eVar 1) (aCons (eOp gSub (eVar 2) (eC (.int 1))) (aNil))))) (aNil)))))) (sNil)) (sSeq (sIf (tB2 (eOp gEq (eVar 3) (eC (.int 5)))) (sRet (eTup (aCons (eC (.str "*")) (aCons (eOp gSub (eCall M.l_draw (aCons (eVar 0) (aCons (eC (.int 5)) (aNil)))) (eC (.int 2))) (aCons (eVar 4) (aNil)))))) (sNil)) (sRet (eIf (tB2 (eOp gEq (eCall M.l_draw (aCons (eVar 0) (aCons (eC (.int 2)) (aNil)))) (eC (.int 0)))) (eTup (aCons (eC (.str "/")) (aCons (eVar 4) (aCons (eOp gAdd (eC (.int 1)) (eCall M.l_draw (aCons (eVar 0) (aCons (eC (.int 3)) (aNil))))) (aNil))))) (eTup (aCons (eC (.str "mod")) (aCons (eVar 4) (aCons (eOp gAdd (eC (.int 1)) (eCall M.l_draw (aCons (eVar 0) (aCons (eC (.int 4)) (aNil))))) (aNil))))))))))))
noncomputable def b_l_cond (M : Ms) : MS := sSeq (sSet 3 (eCall M.l_draw (aCons (eVar 0) (aCons (eC (.int 8)) (aNil))))) (sSeq (sIf (tAn (tB2 (eOp gGt (eVar 2) (eC (.int 0)))) (tB2 (eOp gLt (eVar 3) (eC (.int 3))))) (sSeq (sSet 5 (eCall M.l_cond (aCons (eVar 0) (aCons (eVar 1) (aCons (eOp gSub (eVar 2) (eC (.int 1))) (aNil)))))) (sRet (eIf (tB2 (eOp gEq (eVar 3) (eC (.int 0)))) (eTup (aCons (eC (.str "not")) (aCons (eVar 5) (aNil)))) (eTup (aCons (eOp gIx (eTup (aCons (eC (.str "and")) (aCons (eC (.str "or")) (aNil)))) (eOp gSub (eVar 3) (eC (.int 1)))) (aCons (eVar 5) (aCons (eCall M.l_cond (aCons (eVar 0) (aCons (eVar 1) (aCons (eOp gSub (eVar 2) (eC (.int 1))) (aNil))))) (aNil)))))))) (sNil)) (sSeq (sSet 4 (eOp gIx (eTup (aCons (eC (.str "<")) (aCons (eC (.str "<=")) (aCons (eC (.str "=")) (aCons (eC (.str "!=")) (aNil)))))) (eCall M.l_draw (aCons (eVar 0) (aCons (eC (.int 4)) (aNil)))))) (sRet (eTup (aCons (eVar 4) (aCons (eCall M.l_expr (aCons (eVar 0) (aCons (eVar 1) (aCons (eC (.int 1)) (aNil))))) (aCons (eCall M.l_expr (aCons (eVar 0) (aCons (eVar 1) (aCons (eC (.int 1)) (aNil))))) (aNil))))))))
noncomputable def b_l_read (M : Ms) : MS := sSeq (sIf (tOrr (tB2 (eOp gIs (eVar 0) (eC .non))) (tOrr (tB2 (eOp gIs (eVar 0) (eC (.bl true)))) (tB2 (eOp gIs (eVar 0) (eC (.bl false)))))) (sRet (eVar 0)) (sNil)) (sSeq (sIf (tTr (eCall fIsi (aCons (eVar 0) (aCons (eC (.ty "int")) (aNil))))) (sRet (eCall fInt (aCons (eVar 0) (aNil)))) (sNil)) (sSeq (sIf (tTr (eCall fIsi (aCons (eVar 0) (aCons (eC (.ty "str")) (aNil))))) (sRet (eOp gAdd (eC (.str "")) (eVar 0))) (sNil)) (sSeq (sIf (tTr (eCall fIsi (aCons (eVar 0) (aCons (eC (.ty "tuple")) (aNil))))) (sRet (eUse uTuple (lComp (iSeq (eVar 0)) [1] (gN 1) (tYesM) (eCall M.l_read (aCons (eVar 1) (aNil)))))) (sNil)) (sRet (eC (.str "something else"))))))
noncomputable def b_d_law (M : Ms) : MS := sSeq (sSet 1 (eCall M.l_stream (aCons (eVar 0) (aCons (eC (.int 0)) (aNil))))) (sSeq (sSet 2 (eLst (aCons (eC (.str "a")) (aCons (eC (.str "b")) (aCons (eC (.str "c")) (aNil)))))) (sSeq (sFor (iRange1 (aCons (eC (.int 6)) (aNil))) (gN 3) (sSeq (sSet 4 (eUse uDict (lComp (iSeq (eVar 2)) [11] (gN 11) (tYesM) (eTup (aCons (eVar 11) (aCons (eOp gSub (eCall M.l_draw (aCons (eVar 1) (aCons (eC (.int 61)) (aNil)))) (eC (.int 30))) (aNil))))))) (sSeq (sSet 5 (eUse uTuple (lComp (iSeq (eVar 2)) [11] (gN 11) (tYesM) (eTup (aCons (eVar 11) (aCons (eOp gIx (eVar 4) (eVar 11)) (aNil))))))) (sSeq (sAsg (gTupM (gsCons (gN 9) (gsCons (gN 10) (gsNil)))) (eTup (aCons (eCall M.l_expr (aCons (eVar 1) (aCons (eVar 2) (aCons (eC (.int 3)) (aNil))))) (aCons (eCall M.l_cond (aCons (eVar 1) (aCons (eVar 2) (aCons (eC (.int 2)) (aNil))))) (aNil))))) (sSeq (sIf (tB2 (eOp gNe (eTold M.l_read (eCall M.d_value_of (aCons (eVar 9) (aCons (eVar 5) (aNil))))) (eTup (aCons (eC (.int 0)) (aCons (eCall M.l_value (aCons (eVar 9) (aCons (eVar 4) (aNil)))) (aNil)))))) (sRet (eC (.bl false))) (sNil)) (sSeq (sIf (tB2 (eOp gNe (eTold M.l_read (eCall M.d_is_true (aCons (eVar 10) (aCons (eVar 5) (aNil))))) (eTup (aCons (eC (.int 0)) (aCons (eCall M.l_true (aCons (eVar 10) (aCons (eVar 4) (aNil)))) (aNil)))))) (sRet (eC (.bl false))) (sNil)) (sSeq (sSet 6 (eOp gSub (eCall M.l_draw (aCons (eVar 1) (aCons (eC (.int 40)) (aNil)))) (eC (.int 20)))) (sSeq (sSet 7 (eTup (aCons (eVar 6) (aCons (eOp gAdd (eVar 6) (eCall M.l_draw (aCons (eVar 1) (aCons (eC (.int 12)) (aNil))))) (aCons (eCall M.l_cond (aCons (eVar 1) (aCons (eOp gAdd (eLst (aCons (eC (.str "v")) (aNil))) (eVar 2)) (aCons (eC (.int 2)) (aNil))))) (aNil)))))) (sSeq (sFor (iSeq (eTup (aCons (eOp gSub (eVar 6) (eC (.int 1))) (aCons (eVar 6) (aCons (eOp gIx (eVar 7) (eC (.int 1))) (aCons (eOp gAdd (eOp gIx (eVar 7) (eC (.int 1))) (eC (.int 1))) (aCons (eOp gAdd (eVar 6) (eCall M.l_draw (aCons (eVar 1) (aCons (eC (.int 12)) (aNil))))) (aNil)))))))) (gN 8) (sIf (tB2 (eOp gNe (eTold M.l_read (eCall M.d_fits (aCons (eVar 8) (aCons (eVar 7) (aCons (eVar 5) (aNil)))))) (eTup (aCons (eC (.int 0)) (aCons (eCall M.l_fits (aCons (eVar 8) (aCons (eVar 7) (aCons (eVar 4) (aNil))))) (aNil)))))) (sRet (eC (.bl false))) (sNil))) (sIf (tB2 (eOp gNe (eTold M.l_read (eCall M.d_value_of (aCons (eTup (aCons (eC (.str "+")) (aCons (eVar 9) (aCons (eTup (aCons (eC (.str "x")) (aCons (eC (.str "d")) (aNil)))) (aNil))))) (aCons (eVar 5) (aNil))))) (eTup (aCons (eC (.int 1)) (aCons (eC (.str "there")) (aNil)))))) (sRet (eC (.bl false))) (sNil))))))))))) (sRet (eC (.bl true)))))
noncomputable def step (M : Ms) : Ms where
  d_is_int := runB 1 (b_d_is_int M)
  d_is_number := runB 1 (b_d_is_number M)
  d_is_there := runB 2 (b_d_is_there M)
  d_expression_parts := runB 5 (b_d_expression_parts M)
  d_condition_parts := runB 5 (b_d_condition_parts M)
  d_reckon := runB 3 (b_d_reckon M)
  d_true := runB 5 (b_d_true M)
  d_fit := runB 4 (b_d_fit M)
  d_form := runB 1 (b_d_form M)
  d_table := runB 3 (b_d_table M)
  d_value_of := runB 2 (b_d_value_of M)
  d_is_true := runB 2 (b_d_is_true M)
  d_fits := runB 3 (b_d_fits M)
  l_cell := runB 2 (b_l_cell M)
  l_stream := runB 2 (b_l_stream M)
  l_draw := runB 3 (b_l_draw M)
  l_value := runB 3 (b_l_value M)
  l_true := runB 5 (b_l_true M)
  l_fits := runB 4 (b_l_fits M)
  l_expr := runB 5 (b_l_expr M)
  l_cond := runB 6 (b_l_cond M)
  l_read := runB 2 (b_l_read M)
  d_law := runB 12 (b_d_law M)
def Ms.bad : Ms := {d_is_int := fun _ _ => .bad, d_is_number := fun _ _ => .bad, d_is_there := fun _ _ => .bad, d_expression_parts := fun _ _ => .bad, d_condition_parts := fun _ _ => .bad, d_reckon := fun _ _ => .bad, d_true := fun _ _ => .bad, d_fit := fun _ _ => .bad, d_form := fun _ _ => .bad, d_table := fun _ _ => .bad, d_value_of := fun _ _ => .bad, d_is_true := fun _ _ => .bad, d_fits := fun _ _ => .bad, l_cell := fun _ _ => .bad, l_stream := fun _ _ => .bad, l_draw := fun _ _ => .bad, l_value := fun _ _ => .bad, l_true := fun _ _ => .bad, l_fits := fun _ _ => .bad, l_expr := fun _ _ => .bad, l_cond := fun _ _ => .bad, l_read := fun _ _ => .bad, d_law := fun _ _ => .bad}
noncomputable def callN : Nat → Ms
  | 0 => .bad
  | n + 1 => step (callN n)
/-! ### facts -/
abbrev cOf (K : PySem.W.Frag) (x : Str) : Addr := He.codeOf K (x, none)
abbrev tOf (K : PySem.W.Frag) (x : Str) : Addr := He.tabOf K (cOf K x)
abbrev Tl (K : PySem.W.Frag) : Tb := ⟨[(tOf K "table", ("table" : Str) ++ ".<locals>." ++ "<genexpr>"), (tOf K "law", ("law" : Str) ++ ".<locals>." ++ "<lambda>")], fun c => He.ga K (sf c)⟩
structure Fx (K : PySem.W.Frag) (mg : Str → Option Value) (base : Heap) : Prop where
  f_d_is_int : ∃ fd, FunD K "is_int" "is_int" (defArgs s_d_is_int) (defBody s_d_is_int) (defScope s_d_is_int) [] [] (He.ga K "is_int") fd
  m_d_is_int : mg "is_int" = some (.ref (He.ga K "is_int"))
  f_d_is_number : ∃ fd, FunD K "is_number" "is_number" (defArgs s_d_is_number) (defBody s_d_is_number) (defScope s_d_is_number) [] [] (He.ga K "is_number") fd
  m_d_is_number : mg "is_number" = some (.ref (He.ga K "is_number"))
  f_d_is_there : ∃ fd, FunD K "is_there" "is_there" (defArgs s_d_is_there) (defBody s_d_is_there) (defScope s_d_is_there) [] [] (He.ga K "is_there") fd
  m_d_is_there : mg "is_there" = some (.ref (He.ga K "is_there"))
  f_d_expression_parts : ∃ fd, FunD K "expression_parts" "expression_parts" (defArgs s_d_expression_parts) (defBody s_d_expression_parts) (defScope s_d_expression_parts) [] [] (He.ga K "expression_parts") fd
  m_d_expression_parts : mg "expression_parts" = some (.ref (He.ga K "expression_parts"))
  f_d_condition_parts : ∃ fd, FunD K "condition_parts" "condition_parts" (defArgs s_d_condition_parts) (defBody s_d_condition_parts) (defScope s_d_condition_parts) [] [] (He.ga K "condition_parts") fd
  m_d_condition_parts : mg "condition_parts" = some (.ref (He.ga K "condition_parts"))
  f_d_reckon : ∃ fd, FunD K "reckon" "reckon" (defArgs s_d_reckon) (defBody s_d_reckon) (defScope s_d_reckon) [] [] (He.ga K "reckon") fd
  m_d_reckon : mg "reckon" = some (.ref (He.ga K "reckon"))
  f_d_true : ∃ fd, FunD K "true" "true" (defArgs s_d_true) (defBody s_d_true) (defScope s_d_true) [] [] (He.ga K "true") fd
  m_d_true : mg "true" = some (.ref (He.ga K "true"))
  f_d_fit : ∃ fd, FunD K "fit" "fit" (defArgs s_d_fit) (defBody s_d_fit) (defScope s_d_fit) [] [] (He.ga K "fit") fd
  m_d_fit : mg "fit" = some (.ref (He.ga K "fit"))
  f_d_form : ∃ fd, FunD K "form" "form" (defArgs s_d_form) (defBody s_d_form) (defScope s_d_form) [] [] (He.ga K "form") fd
  m_d_form : mg "form" = some (.ref (He.ga K "form"))
  f_d_table : ∃ fd, FunD K "table" "table" (defArgs s_d_table) (defBody s_d_table) (defScope s_d_table) [] [] (He.ga K "table") fd
  m_d_table : mg "table" = some (.ref (He.ga K "table"))
  f_d_value_of : ∃ fd, FunD K "value_of" "value_of" (defArgs s_d_value_of) (defBody s_d_value_of) (defScope s_d_value_of) [] [] (He.ga K "value_of") fd
  m_d_value_of : mg "value_of" = some (.ref (He.ga K "value_of"))
  f_d_is_true : ∃ fd, FunD K "is_true" "is_true" (defArgs s_d_is_true) (defBody s_d_is_true) (defScope s_d_is_true) [] [] (He.ga K "is_true") fd
  m_d_is_true : mg "is_true" = some (.ref (He.ga K "is_true"))
  f_d_fits : ∃ fd, FunD K "fits" "fits" (defArgs s_d_fits) (defBody s_d_fits) (defScope s_d_fits) [] [] (He.ga K "fits") fd
  m_d_fits : mg "fits" = some (.ref (He.ga K "fits"))
  f_l_cell : ∃ fd, FunD K "_law_cell" "_law_cell" (defArgs s_l_cell) (defBody s_l_cell) (defScope s_l_cell) [] [] (He.ga K "_law_cell") fd
  m_l_cell : mg "_law_cell" = some (.ref (He.ga K "_law_cell"))
  f_l_stream : ∃ fd, FunD K "_law_stream" "_law_stream" (defArgs s_l_stream) (defBody s_l_stream) (defScope s_l_stream) [] [] (He.ga K "_law_stream") fd
  m_l_stream : mg "_law_stream" = some (.ref (He.ga K "_law_stream"))
  f_l_draw : ∃ fd, FunD K "_law_draw" "_law_draw" (defArgs s_l_draw) (defBody s_l_draw) (defScope s_l_draw) [] [] (He.ga K "_law_draw") fd
  m_l_draw : mg "_law_draw" = some (.ref (He.ga K "_law_draw"))
  f_l_value : ∃ fd, FunD K "_law_value" "_law_value" (defArgs s_l_value) (defBody s_l_value) (defScope s_l_value) [] [] (He.ga K "_law_value") fd
  m_l_value : mg "_law_value" = some (.ref (He.ga K "_law_value"))
  f_l_true : ∃ fd, FunD K "_law_true" "_law_true" (defArgs s_l_true) (defBody s_l_true) (defScope s_l_true) [] [] (He.ga K "_law_true") fd
  m_l_true : mg "_law_true" = some (.ref (He.ga K "_law_true"))
  f_l_fits : ∃ fd, FunD K "_law_fits" "_law_fits" (defArgs s_l_fits) (defBody s_l_fits) (defScope s_l_fits) [] [] (He.ga K "_law_fits") fd
  m_l_fits : mg "_law_fits" = some (.ref (He.ga K "_law_fits"))
  f_l_expr : ∃ fd, FunD K "_law_expr" "_law_expr" (defArgs s_l_expr) (defBody s_l_expr) (defScope s_l_expr) [] [] (He.ga K "_law_expr") fd
  m_l_expr : mg "_law_expr" = some (.ref (He.ga K "_law_expr"))
  f_l_cond : ∃ fd, FunD K "_law_cond" "_law_cond" (defArgs s_l_cond) (defBody s_l_cond) (defScope s_l_cond) [] [] (He.ga K "_law_cond") fd
  m_l_cond : mg "_law_cond" = some (.ref (He.ga K "_law_cond"))
  f_l_read : ∃ fd, FunD K "_law_read" "_law_read" (defArgs s_l_read) (defBody s_l_read) (defScope s_l_read) [] [] (He.ga K "_law_read") fd
  m_l_read : mg "_law_read" = some (.ref (He.ga K "_law_read"))
  f_d_law : ∃ fd, FunD K "law" "law" (defArgs s_d_law) (defBody s_d_law) (defScope s_d_law) [] [] (He.ga K "law") fd
  m_d_law : mg "law" = some (.ref (He.ga K "law"))
  f_l_told : ∃ fd, FunD K "_law_told" "_law_told" (defArgs s_l_told) (defBody s_l_told) (defScope s_l_told) [] [] (He.ga K "_law_told") fd
  m_l_told : mg "_law_told" = some (.ref (He.ga K "_law_told"))
  n_abs : mg "abs" = none
  n_all : mg "all" = none
  n_dict : mg "dict" = none
  n_int : mg "int" = none
  n_isinstance : mg "isinstance" = none
  n_len : mg "len" = none
  n_range : mg "range" = none
  n_str : mg "str" = none
  n_tuple : mg "tuple" = none
  n_type : mg "type" = none
  i_MOST : ∃ t, mg "MOST" = some (.int 50 t)
  m_BadProgram : mg "BadProgram" = some (.ref (He.ga K "BadProgram"))
  m_BadQuestion : mg "BadQuestion" = some (.ref (He.ga K "BadQuestion"))
  m_BadRun : mg "BadRun" = some (.ref (He.ga K "BadRun"))
  m_NotThere : mg "NotThere" = some (.ref (He.ga K "NotThere"))
  m_TypeTroubles : mg "TypeTroubles" = some (.ref (He.ga K "TypeTroubles"))
  x_BadProgram : (He.Fa.exc "BadProgram").ok K = true
  x_BadRun : (He.Fa.exc "BadRun").ok K = true
  x_NotThere : (He.Fa.exc "NotThere").ok K = true
  td : toldOkB K = true
  tb : ∀ x ∈ (["table", "law"] : List Str), LamX.TabB base mg (cOf K x) (tOf K x)
  tu : ((Tl K).tabs.map (·.1)).Nodup
/-! ### the walks -/
section
variable {P : Program} {w : World} {K : PySem.W.Frag} {mg : Str → Option Value} {base : Heap} {k : Nat} {M : Ms}
structure Fns (P : Program) (w : World) (K : PySem.W.Frag) (mg : Str → Option Value) (base : Heap) (k : Nat) (M : Ms) : Prop where
  d_is_int : FO P w K mg base (Tl K) k "is_int" (["k"] : List Str) M.d_is_int
  d_is_number : FO P w K mg base (Tl K) k "is_number" (["k"] : List Str) M.d_is_number
  d_is_there : FO P w K mg base (Tl K) k "is_there" (["x", "names"] : List Str) M.d_is_there
  d_expression_parts : FO P w K mg base (Tl K) k "expression_parts" (["e", "names"] : List Str) M.d_expression_parts
  d_condition_parts : FO P w K mg base (Tl K) k "condition_parts" (["c", "names"] : List Str) M.d_condition_parts
  d_reckon : FO P w K mg base (Tl K) k "reckon" (["e", "env"] : List Str) M.d_reckon
  d_true : FO P w K mg base (Tl K) k "true" (["c", "env"] : List Str) M.d_true
  d_fit : FO P w K mg base (Tl K) k "fit" (["k", "t", "env"] : List Str) M.d_fit
  d_form : FO P w K mg base (Tl K) k "form" (["right"] : List Str) M.d_form
  d_table : FO P w K mg base (Tl K) k "table" (["values"] : List Str) M.d_table
  d_value_of : FO P w K mg base (Tl K) k "value_of" (["e", "values"] : List Str) M.d_value_of
  d_is_true : FO P w K mg base (Tl K) k "is_true" (["c", "values"] : List Str) M.d_is_true
  d_fits : FO P w K mg base (Tl K) k "fits" (["k", "t", "values"] : List Str) M.d_fits
  l_cell : FO P w K mg base (Tl K) k "_law_cell" (["script", "k"] : List Str) M.l_cell
  l_stream : FO P w K mg base (Tl K) k "_law_stream" (["script", "k"] : List Str) M.l_stream
  l_draw : FO P w K mg base (Tl K) k "_law_draw" (["box", "many"] : List Str) M.l_draw
  l_value : FO P w K mg base (Tl K) k "_law_value" (["e", "values"] : List Str) M.l_value
  l_true : FO P w K mg base (Tl K) k "_law_true" (["c", "values"] : List Str) M.l_true
  l_fits : FO P w K mg base (Tl K) k "_law_fits" (["k", "t", "values"] : List Str) M.l_fits
  l_expr : FO P w K mg base (Tl K) k "_law_expr" (["box", "names", "deep"] : List Str) M.l_expr
  l_cond : FO P w K mg base (Tl K) k "_law_cond" (["box", "names", "deep"] : List Str) M.l_cond
  l_read : FO P w K mg base (Tl K) k "_law_read" (["told"] : List Str) M.l_read
  d_law : FO P w K mg base (Tl K) k "law" (["script"] : List Str) M.d_law
theorem toldH (G : Fx K mg base) : ToldHere K mg (defArgs s_l_told) (defBody s_l_told) (defScope s_l_told) := by
  refine ⟨⟨by decide +kernel, rfl, rfl, rfl, rfl, fun x hx => ?_, G.m_TypeTroubles, G.m_BadProgram, G.m_BadQuestion, G.m_BadRun, G.m_NotThere, G.m_l_read, G.n_isinstance⟩, G.td, G.f_l_told, G.m_l_told, fun _ _ _ _ _ _ us hl => match us, hl with | [_], _ => rfl, ⟨rfl, rfl, rfl, by decide +kernel, rfl, by decide +kernel, by decide +kernel⟩⟩
  simp only [List.mem_cons, List.not_mem_nil, or_false] at hx
  rcases hx with rfl | rfl | rfl | rfl | rfl | rfl | rfl <;> rfl
def toldSuite : List Stmt → List Stmt
  | [.Try _ [.ExceptHandler _ _ s _] _ _ _] => s
  | _ => []
theorem told_su (G : Fx K mg base) : ∀ (Y : Cx) (a : Addr) (oe : Obj) (cls : Value) (d : Option Addr) (pn : List (Addr × Obj)), Y.N = ([("call" : Str), "e"] : List Str) → Y.mg = mg → Y.env.scope = defScope s_l_told → Y.K = K → Zc cls d oe → (∃ vs, oe.data = .fields vs) → PSs (Y.suite a ((a, oe) :: pn)) (toldSuite (defBody s_l_told)) (fun D σ H => (∃ σ' : L2.St, σ = σ'.set 1 (some (.ref a))) ∧ ∃ r, ToldC K (He.ga K "TypeTroubles") (He.ga K "BadProgram") (He.ga K "BadQuestion") (He.ga K "BadRun") (He.ga K "NotThere") cls d r ∧ newT H [.int 1, .str (sf r)] D.rt) := by
  intro Y a oe cls d pn e1 e2 e3 e4 hz hf
  have hn : ToldN Y.mg Y.env.scope ([("call" : Str), "e"] : List Str) (He.ga K "TypeTroubles") (He.ga K "BadProgram") (He.ga K "BadQuestion") (He.ga K "BadRun") (He.ga K "NotThere") (He.ga K "_law_read") := by rw [e2, e3]; exact (toldH G).n
  have z := fun {i1 i2 i3 i4 i5 i6 i7 i8 i9 i10 i11 i12 i13 i14 i15 i16 i17 i18 i19 i20 i21 i22 i23 i24 i25 i26 i27 i28 i29 i30 i31 i32 i33 i34 i35 i36 i37 j1 j2 j3 j4 j5 j6 j7 j8 j9 k1 k2 k3 k4} => told_suite (a := a) (pn := pn) (i1 := i1) (i2 := i2) (i3 := i3) (i4 := i4) (i5 := i5) (i6 := i6) (i7 := i7) (i8 := i8) (i9 := i9) (i10 := i10) (i11 := i11) (i12 := i12) (i13 := i13) (i14 := i14) (i15 := i15) (i16 := i16) (i17 := i17) (i18 := i18) (i19 := i19) (i20 := i20) (i21 := i21) (i22 := i22) (i23 := i23) (i24 := i24) (i25 := i25) (i26 := i26) (i27 := i27) (i28 := i28) (i29 := i29) (i30 := i30) (i31 := i31) (i32 := i32) (i33 := i33) (i34 := i34) (i35 := i35) (i36 := i36) (i37 := i37) (j1 := j1) (j2 := j2) (j3 := j3) (j4 := j4) (j5 := j5) (j6 := j6) (j7 := j7) (j8 := j8) (j9 := j9) (k1 := k1) (k2 := k2) (k3 := k3) (k4 := k4) e1 hn rfl hz hf
  rw [e4] at z
  exact z
theorem sc_d_is_int : FnScope (["k"] : List Str) (["k"] : List Str) (defScope s_d_is_int) := ⟨rfl, rfl, rfl, by decide +kernel, rfl, by decide +kernel, by decide +kernel⟩
theorem ok_d_is_int (G : Fx K mg base) (h : Fns P w K mg base k M) : FO P w K mg base (Tl K) (k + 3) "is_int" (["k"] : List Str) (step M).d_is_int := by
  obtain ⟨fd, F⟩ := G.f_d_is_int
  have S := sc_d_is_int
  refine fo_mk (N := (["k"] : List Str)) (b := b_d_is_int M) F S G.m_d_is_int (fun _ _ _ _ _ _ us hl => match us, hl with | [_], _ => rfl) fun cdv A outer s H E hcd hr => ?_
  have tk : Takes (cxOf (L2.CX P w) P w K mg base (["k"] : List Str) "is_int" (defScope s_d_is_int) (He.ga K "is_int") cdv A outer s H E) (fun cls d _ H => E cls d H) := L2.takes_of rfl rfl rfl rfl
  have hp : PassesOwn (model (cxOf (L2.CX P w) P w K mg base (["k"] : List Str) "is_int" (defScope s_d_is_int) (He.ga K "is_int") cdv A outer s H E).prog (cxOf (L2.CX P w) P w K mg base (["k"] : List Str) "is_int" (defScope s_d_is_int) (He.ga K "is_int") cdv A outer s H E).w) (cxOf (L2.CX P w) P w K mg base (["k"] : List Str) "is_int" (defScope s_d_is_int) (He.ga K "is_int") cdv A outer s H E).A (cxOf (L2.CX P w) P w K mg base (["k"] : List Str) "is_int" (defScope s_d_is_int) (He.ga K "is_int") cdv A outer s H E).env (cxOf (L2.CX P w) P w K mg base (["k"] : List Str) "is_int" (defScope s_d_is_int) (He.ga K "is_int") cdv A outer s H E).xe := L2.passes_of rfl
  exact rss_one (rs_ret (re_cmp ro_is rg_is (re_callTy call_type1 rg_type rfl G.n_type (by decide +kernel) (ra_cons (re_var 0) (ra_nil))) ((re_ty rfl G.n_int (by decide +kernel)))))
theorem sc_d_is_number : FnScope (["k"] : List Str) (["k"] : List Str) (defScope s_d_is_number) := ⟨rfl, rfl, rfl, by decide +kernel, rfl, by decide +kernel, by decide +kernel⟩
theorem ok_d_is_number (G : Fx K mg base) (h : Fns P w K mg base k M) : FO P w K mg base (Tl K) (k + 3) "is_number" (["k"] : List Str) (step M).d_is_number := by
  obtain ⟨fd, F⟩ := G.f_d_is_number
  have S := sc_d_is_number
  refine fo_mk (N := (["k"] : List Str)) (b := b_d_is_number M) F S G.m_d_is_number (fun _ _ _ _ _ _ us hl => match us, hl with | [_], _ => rfl) fun cdv A outer s H E hcd hr => ?_
  have tk : Takes (cxOf (L2.CX P w) P w K mg base (["k"] : List Str) "is_number" (defScope s_d_is_number) (He.ga K "is_number") cdv A outer s H E) (fun cls d _ H => E cls d H) := L2.takes_of rfl rfl rfl rfl
  have hp : PassesOwn (model (cxOf (L2.CX P w) P w K mg base (["k"] : List Str) "is_number" (defScope s_d_is_number) (He.ga K "is_number") cdv A outer s H E).prog (cxOf (L2.CX P w) P w K mg base (["k"] : List Str) "is_number" (defScope s_d_is_number) (He.ga K "is_number") cdv A outer s H E).w) (cxOf (L2.CX P w) P w K mg base (["k"] : List Str) "is_number" (defScope s_d_is_number) (He.ga K "is_number") cdv A outer s H E).A (cxOf (L2.CX P w) P w K mg base (["k"] : List Str) "is_number" (defScope s_d_is_number) (He.ga K "is_number") cdv A outer s H E).env (cxOf (L2.CX P w) P w K mg base (["k"] : List Str) "is_number" (defScope s_d_is_number) (He.ga K "is_number") cdv A outer s H E).xe := L2.passes_of rfl
  exact rss_one (rs_ret (re_and (re_fo (h.d_is_int.mono (Nat.le_add_right k 2)) hr tk (ra_cons (re_var 0) (ra_nil))) (re_one (re_chain op_le rg_le op_le rg_le (re_neg ((re_gint rfl (G.i_MOST).choose_spec))) (re_var 0) ((re_gint rfl (G.i_MOST).choose_spec))))))
theorem sc_d_is_there : FnScope (["x", "names"] : List Str) (["x", "names"] : List Str) (defScope s_d_is_there) := ⟨rfl, rfl, rfl, by decide +kernel, rfl, by decide +kernel, by decide +kernel⟩
theorem ok_d_is_there (G : Fx K mg base) (h : Fns P w K mg base k M) : FO P w K mg base (Tl K) (k + 3) "is_there" (["x", "names"] : List Str) (step M).d_is_there := by
  obtain ⟨fd, F⟩ := G.f_d_is_there
  have S := sc_d_is_there
  refine fo_mk (N := (["x", "names"] : List Str)) (b := b_d_is_there M) F S G.m_d_is_there (fun _ _ _ _ _ _ us hl => match us, hl with | [_, _], _ => rfl) fun cdv A outer s H E hcd hr => ?_
  have tk : Takes (cxOf (L2.CX P w) P w K mg base (["x", "names"] : List Str) "is_there" (defScope s_d_is_there) (He.ga K "is_there") cdv A outer s H E) (fun cls d _ H => E cls d H) := L2.takes_of rfl rfl rfl rfl
  have hp : PassesOwn (model (cxOf (L2.CX P w) P w K mg base (["x", "names"] : List Str) "is_there" (defScope s_d_is_there) (He.ga K "is_there") cdv A outer s H E).prog (cxOf (L2.CX P w) P w K mg base (["x", "names"] : List Str) "is_there" (defScope s_d_is_there) (He.ga K "is_there") cdv A outer s H E).w) (cxOf (L2.CX P w) P w K mg base (["x", "names"] : List Str) "is_there" (defScope s_d_is_there) (He.ga K "is_there") cdv A outer s H E).A (cxOf (L2.CX P w) P w K mg base (["x", "names"] : List Str) "is_there" (defScope s_d_is_there) (He.ga K "is_there") cdv A outer s H E).env (cxOf (L2.CX P w) P w K mg base (["x", "names"] : List Str) "is_there" (defScope s_d_is_there) (He.ga K "is_there") cdv A outer s H E).xe := L2.passes_of rfl
  exact rss_one (rs_ret (re_and (re_cmp ro_is rg_is (re_callTy call_type1 rg_type rfl G.n_type (by decide +kernel) (ra_cons (re_var 0) (ra_nil))) ((re_ty rfl G.n_str (by decide +kernel)))) (re_one (re_or (re_cmp ro_is rg_is (re_var 1) (re_non)) (re_one (re_in hr (re_var 0) (re_var 1)))))))
theorem sc_d_expression_parts : FnScope (["e", "names", "inner", "left", "right"] : List Str) (["e", "names"] : List Str) (defScope s_d_expression_parts) := ⟨rfl, rfl, rfl, by decide +kernel, rfl, by decide +kernel, by decide +kernel⟩
theorem ok_d_expression_parts (G : Fx K mg base) (h : Fns P w K mg base k M) : FO P w K mg base (Tl K) (k + 3) "expression_parts" (["e", "names"] : List Str) (step M).d_expression_parts := by
  obtain ⟨fd, F⟩ := G.f_d_expression_parts
  have S := sc_d_expression_parts
  refine fo_mk (N := (["e", "names", "inner", "left", "right"] : List Str)) (b := b_d_expression_parts M) F S G.m_d_expression_parts (fun _ _ _ _ _ _ us hl => match us, hl with | [_, _], _ => rfl) fun cdv A outer s H E hcd hr => ?_
  have tk : Takes (cxOf (L2.CX P w) P w K mg base (["e", "names", "inner", "left", "right"] : List Str) "expression_parts" (defScope s_d_expression_parts) (He.ga K "expression_parts") cdv A outer s H E) (fun cls d _ H => E cls d H) := L2.takes_of rfl rfl rfl rfl
  have hp : PassesOwn (model (cxOf (L2.CX P w) P w K mg base (["e", "names", "inner", "left", "right"] : List Str) "expression_parts" (defScope s_d_expression_parts) (He.ga K "expression_parts") cdv A outer s H E).prog (cxOf (L2.CX P w) P w K mg base (["e", "names", "inner", "left", "right"] : List Str) "expression_parts" (defScope s_d_expression_parts) (He.ga K "expression_parts") cdv A outer s H E).w) (cxOf (L2.CX P w) P w K mg base (["e", "names", "inner", "left", "right"] : List Str) "expression_parts" (defScope s_d_expression_parts) (He.ga K "expression_parts") cdv A outer s H E).A (cxOf (L2.CX P w) P w K mg base (["e", "names", "inner", "left", "right"] : List Str) "expression_parts" (defScope s_d_expression_parts) (He.ga K "expression_parts") cdv A outer s H E).env (cxOf (L2.CX P w) P w K mg base (["e", "names", "inner", "left", "right"] : List Str) "expression_parts" (defScope s_d_expression_parts) (He.ga K "expression_parts") cdv A outer s H E).xe := L2.passes_of rfl
  exact rss_cons (rs_if (RW.rt (rw_or (rt_cmp ro_isnot rg_isnot (re_callTy call_type1 rg_type rfl G.n_type (by decide +kernel) (ra_cons (re_var 0) (ra_nil))) ((re_ty rfl G.n_tuple (by decide +kernel)))) (rw_or (rt_not (rt_truth (re_var 0))) (rw_or1 (rt_cmp ro_isnot rg_isnot (re_callTy call_type1 rg_type rfl G.n_type (by decide +kernel) (ra_cons (re_idx hr (re_var 0) (re_int)) (ra_nil))) ((re_ty rfl G.n_str (by decide +kernel)))))))) (rss_one (rs_ret (re_int))) (rss_nil)) (rss_cons (rs_if (rt_cmp (op_eqD (hu64 hr)) rg_eq (re_idx hr (re_var 0) (re_int)) ((re_str (s := "n")))) (rss_one (rs_ret (re_if (RW.rt (rw_and (rt_cmp (op_eqD (hu64 hr)) rg_eq (re_callB ro_len rg_len rfl G.n_len (by decide +kernel) (ra_cons (re_var 0) (ra_nil))) (re_int)) (rw_and1 (rt_truth (re_fo (h.d_is_number.mono (Nat.le_add_right k 2)) hr tk (ra_cons (re_idx hr (re_var 0) (re_int)) (ra_nil))))))) (re_int) (re_int)))) (rss_nil)) (rss_cons (rs_if (rt_cmp (op_eqD (hu64 hr)) rg_eq (re_idx hr (re_var 0) (re_int)) ((re_str (s := "x")))) (rss_one (rs_ret (re_if (RW.rt (rw_and (rt_cmp (op_eqD (hu64 hr)) rg_eq (re_callB ro_len rg_len rfl G.n_len (by decide +kernel) (ra_cons (re_var 0) (ra_nil))) (re_int)) (rw_and1 (rt_truth (re_fo (h.d_is_there.mono (Nat.le_add_right k 2)) hr tk (ra_cons (re_idx hr (re_var 0) (re_int)) (ra_cons (re_var 1) (ra_nil)))))))) (re_int) (re_int)))) (rss_nil)) (rss_cons (rs_if (rt_cmp (op_neD (hu64 hr)) rg_ne (re_callB ro_len rg_len rfl G.n_len (by decide +kernel) (ra_cons (re_var 0) (ra_nil))) (re_int)) (rss_one (rs_ret (re_int))) (rss_nil)) (rss_cons (rs_if (rt_in hr (re_idx hr (re_var 0) (re_int)) (re_tup (ra_cons ((re_str (s := "+"))) (ra_cons ((re_str (s := "-"))) (ra_nil))))) (rss_cons (rs_par 3 4 rfl S.nd (ra_cons (re_fo (h.d_expression_parts.mono (Nat.le_add_right k 2)) hr tk (ra_cons (re_idx hr (re_var 0) (re_int)) (ra_cons (re_var 1) (ra_nil)))) (ra_cons (re_fo (h.d_expression_parts.mono (Nat.le_add_right k 2)) hr tk (ra_cons (re_idx hr (re_var 0) (re_int)) (ra_cons (re_var 1) (ra_nil)))) (ra_nil)))) (rss_one (rs_ret (re_if (RW.rt (rw_and (rt_truth (re_var 3)) (rw_and1 (rt_truth (re_var 4))))) (re_add (re_add (re_var 3) (re_var 4)) (re_int)) (re_int))))) (rss_nil)) (rss_cons (rs_if (rt_cmp (op_eqD (hu64 hr)) rg_eq (re_idx hr (re_var 0) (re_int)) ((re_str (s := "*")))) (rss_cons (rs_set 2 S.nd (re_if (rt_truth (re_fo (h.d_is_number.mono (Nat.le_add_right k 2)) hr tk (ra_cons (re_idx hr (re_var 0) (re_int)) (ra_nil)))) (re_fo (h.d_expression_parts.mono (Nat.le_add_right k 2)) hr tk (ra_cons (re_idx hr (re_var 0) (re_int)) (ra_cons (re_var 1) (ra_nil)))) (re_int))) (rss_one (rs_ret (re_if (rt_truth (re_var 2)) (re_add (re_var 2) (re_int)) (re_int))))) (rss_nil)) (rss_cons (rs_if (rt_in hr (re_idx hr (re_var 0) (re_int)) (re_tup (ra_cons ((re_str (s := "/"))) (ra_cons ((re_str (s := "mod"))) (ra_nil))))) (rss_cons (rs_set 2 S.nd (re_if (RW.rt (rw_and (rt_truth (re_fo (h.d_is_number.mono (Nat.le_add_right k 2)) hr tk (ra_cons (re_idx hr (re_var 0) (re_int)) (ra_nil)))) (rw_and1 (rt_cmp op_ge rg_ge (re_idx hr (re_var 0) (re_int)) (re_int))))) (re_fo (h.d_expression_parts.mono (Nat.le_add_right k 2)) hr tk (ra_cons (re_idx hr (re_var 0) (re_int)) (ra_cons (re_var 1) (ra_nil)))) (re_int))) (rss_one (rs_ret (re_if (rt_truth (re_var 2)) (re_add (re_var 2) (re_int)) (re_int))))) (rss_nil)) (rss_one (rs_ret (re_int)))))))))
theorem sc_d_condition_parts : FnScope (["c", "names", "inner", "left", "right"] : List Str) (["c", "names"] : List Str) (defScope s_d_condition_parts) := ⟨rfl, rfl, rfl, by decide +kernel, rfl, by decide +kernel, by decide +kernel⟩
theorem ok_d_condition_parts (G : Fx K mg base) (h : Fns P w K mg base k M) : FO P w K mg base (Tl K) (k + 3) "condition_parts" (["c", "names"] : List Str) (step M).d_condition_parts := by
  obtain ⟨fd, F⟩ := G.f_d_condition_parts
  have S := sc_d_condition_parts
  refine fo_mk (N := (["c", "names", "inner", "left", "right"] : List Str)) (b := b_d_condition_parts M) F S G.m_d_condition_parts (fun _ _ _ _ _ _ us hl => match us, hl with | [_, _], _ => rfl) fun cdv A outer s H E hcd hr => ?_
  have tk : Takes (cxOf (L2.CX P w) P w K mg base (["c", "names", "inner", "left", "right"] : List Str) "condition_parts" (defScope s_d_condition_parts) (He.ga K "condition_parts") cdv A outer s H E) (fun cls d _ H => E cls d H) := L2.takes_of rfl rfl rfl rfl
  have hp : PassesOwn (model (cxOf (L2.CX P w) P w K mg base (["c", "names", "inner", "left", "right"] : List Str) "condition_parts" (defScope s_d_condition_parts) (He.ga K "condition_parts") cdv A outer s H E).prog (cxOf (L2.CX P w) P w K mg base (["c", "names", "inner", "left", "right"] : List Str) "condition_parts" (defScope s_d_condition_parts) (He.ga K "condition_parts") cdv A outer s H E).w) (cxOf (L2.CX P w) P w K mg base (["c", "names", "inner", "left", "right"] : List Str) "condition_parts" (defScope s_d_condition_parts) (He.ga K "condition_parts") cdv A outer s H E).A (cxOf (L2.CX P w) P w K mg base (["c", "names", "inner", "left", "right"] : List Str) "condition_parts" (defScope s_d_condition_parts) (He.ga K "condition_parts") cdv A outer s H E).env (cxOf (L2.CX P w) P w K mg base (["c", "names", "inner", "left", "right"] : List Str) "condition_parts" (defScope s_d_condition_parts) (He.ga K "condition_parts") cdv A outer s H E).xe := L2.passes_of rfl
  exact rss_cons (rs_if (RW.rt (rw_or (rt_cmp ro_isnot rg_isnot (re_callTy call_type1 rg_type rfl G.n_type (by decide +kernel) (ra_cons (re_var 0) (ra_nil))) ((re_ty rfl G.n_tuple (by decide +kernel)))) (rw_or (rt_not (rt_truth (re_var 0))) (rw_or1 (rt_cmp ro_isnot rg_isnot (re_callTy call_type1 rg_type rfl G.n_type (by decide +kernel) (ra_cons (re_idx hr (re_var 0) (re_int)) (ra_nil))) ((re_ty rfl G.n_str (by decide +kernel)))))))) (rss_one (rs_ret (re_int))) (rss_nil)) (rss_cons (rs_if (rt_cmp (op_eqD (hu64 hr)) rg_eq (re_idx hr (re_var 0) (re_int)) ((re_str (s := "yes")))) (rss_one (rs_ret (re_if (rt_cmp (op_eqD (hu64 hr)) rg_eq (re_callB ro_len rg_len rfl G.n_len (by decide +kernel) (ra_cons (re_var 0) (ra_nil))) (re_int)) (re_int) (re_int)))) (rss_nil)) (rss_cons (rs_if (rt_cmp (op_eqD (hu64 hr)) rg_eq (re_idx hr (re_var 0) (re_int)) ((re_str (s := "not")))) (rss_cons (rs_set 2 S.nd (re_if (rt_cmp (op_eqD (hu64 hr)) rg_eq (re_callB ro_len rg_len rfl G.n_len (by decide +kernel) (ra_cons (re_var 0) (ra_nil))) (re_int)) (re_fo (h.d_condition_parts.mono (Nat.le_add_right k 2)) hr tk (ra_cons (re_idx hr (re_var 0) (re_int)) (ra_cons (re_var 1) (ra_nil)))) (re_int))) (rss_one (rs_ret (re_if (rt_truth (re_var 2)) (re_add (re_var 2) (re_int)) (re_int))))) (rss_nil)) (rss_cons (rs_if (rt_cmp (op_neD (hu64 hr)) rg_ne (re_callB ro_len rg_len rfl G.n_len (by decide +kernel) (ra_cons (re_var 0) (ra_nil))) (re_int)) (rss_one (rs_ret (re_int))) (rss_nil)) (rss_cons (rs_if (rt_in hr (re_idx hr (re_var 0) (re_int)) (re_tup (ra_cons ((re_str (s := "<"))) (ra_cons ((re_str (s := "<="))) (ra_cons ((re_str (s := "="))) (ra_cons ((re_str (s := "!="))) (ra_nil))))))) (rss_one (rs_par 3 4 rfl S.nd (ra_cons (re_fo (h.d_expression_parts.mono (Nat.le_add_right k 2)) hr tk (ra_cons (re_idx hr (re_var 0) (re_int)) (ra_cons (re_var 1) (ra_nil)))) (ra_cons (re_fo (h.d_expression_parts.mono (Nat.le_add_right k 2)) hr tk (ra_cons (re_idx hr (re_var 0) (re_int)) (ra_cons (re_var 1) (ra_nil)))) (ra_nil))))) (rss_one (rs_if (rt_in hr (re_idx hr (re_var 0) (re_int)) (re_tup (ra_cons ((re_str (s := "and"))) (ra_cons ((re_str (s := "or"))) (ra_nil))))) (rss_one (rs_par 3 4 rfl S.nd (ra_cons (re_fo (h.d_condition_parts.mono (Nat.le_add_right k 2)) hr tk (ra_cons (re_idx hr (re_var 0) (re_int)) (ra_cons (re_var 1) (ra_nil)))) (ra_cons (re_fo (h.d_condition_parts.mono (Nat.le_add_right k 2)) hr tk (ra_cons (re_idx hr (re_var 0) (re_int)) (ra_cons (re_var 1) (ra_nil)))) (ra_nil))))) (rss_one (rs_ret (re_int)))))) (rss_one (rs_ret (re_if (RW.rt (rw_and (rt_truth (re_var 3)) (rw_and1 (rt_truth (re_var 4))))) (re_add (re_add (re_var 3) (re_var 4)) (re_int)) (re_int))))))))
theorem sc_d_reckon : FnScope (["e", "env", "kind"] : List Str) (["e", "env"] : List Str) (defScope s_d_reckon) := ⟨rfl, rfl, rfl, by decide +kernel, rfl, by decide +kernel, by decide +kernel⟩
theorem ok_d_reckon (G : Fx K mg base) (h : Fns P w K mg base k M) : FO P w K mg base (Tl K) (k + 3) "reckon" (["e", "env"] : List Str) (step M).d_reckon := by
  obtain ⟨fd, F⟩ := G.f_d_reckon
  have S := sc_d_reckon
  refine fo_mk (N := (["e", "env", "kind"] : List Str)) (b := b_d_reckon M) F S G.m_d_reckon (fun _ _ _ _ _ _ us hl => match us, hl with | [_, _], _ => rfl) fun cdv A outer s H E hcd hr => ?_
  have tk : Takes (cxOf (L2.CX P w) P w K mg base (["e", "env", "kind"] : List Str) "reckon" (defScope s_d_reckon) (He.ga K "reckon") cdv A outer s H E) (fun cls d _ H => E cls d H) := L2.takes_of rfl rfl rfl rfl
  have hp : PassesOwn (model (cxOf (L2.CX P w) P w K mg base (["e", "env", "kind"] : List Str) "reckon" (defScope s_d_reckon) (He.ga K "reckon") cdv A outer s H E).prog (cxOf (L2.CX P w) P w K mg base (["e", "env", "kind"] : List Str) "reckon" (defScope s_d_reckon) (He.ga K "reckon") cdv A outer s H E).w) (cxOf (L2.CX P w) P w K mg base (["e", "env", "kind"] : List Str) "reckon" (defScope s_d_reckon) (He.ga K "reckon") cdv A outer s H E).A (cxOf (L2.CX P w) P w K mg base (["e", "env", "kind"] : List Str) "reckon" (defScope s_d_reckon) (He.ga K "reckon") cdv A outer s H E).env (cxOf (L2.CX P w) P w K mg base (["e", "env", "kind"] : List Str) "reckon" (defScope s_d_reckon) (He.ga K "reckon") cdv A outer s H E).xe := L2.passes_of rfl
  exact rss_cons (rs_set 2 S.nd (re_idx hr (re_var 0) (re_int))) (rss_cons (rs_if (rt_cmp (op_eqD (hu64 hr)) rg_eq (re_var 2) ((re_str (s := "n")))) (rss_one (rs_ret (re_idx hr (re_var 0) (re_int)))) (rss_nil)) (rss_cons (rs_if (rt_cmp (op_eqD (hu64 hr)) rg_eq (re_var 2) ((re_str (s := "x")))) (rss_cons (rs_if (rt_notin hr (re_idx hr (re_var 0) (re_int)) (re_var 1)) (rss_one (rs_raiseC (c := "NotThere") rfl tk rfl rfl G.x_NotThere G.m_NotThere)) (rss_nil)) (rss_one (rs_ret (re_idx hr (re_var 1) (re_idx hr (re_var 0) (re_int)))))) (rss_nil)) (rss_cons (rs_if (rt_cmp (op_eqD (hu64 hr)) rg_eq (re_var 2) ((re_str (s := "+")))) (rss_one (rs_ret (re_add (re_fo (h.d_reckon.mono (Nat.le_add_right k 2)) hr tk (ra_cons (re_idx hr (re_var 0) (re_int)) (ra_cons (re_var 1) (ra_nil)))) (re_fo (h.d_reckon.mono (Nat.le_add_right k 2)) hr tk (ra_cons (re_idx hr (re_var 0) (re_int)) (ra_cons (re_var 1) (ra_nil))))))) (rss_nil)) (rss_cons (rs_if (rt_cmp (op_eqD (hu64 hr)) rg_eq (re_var 2) ((re_str (s := "-")))) (rss_one (rs_ret (re_sub (re_fo (h.d_reckon.mono (Nat.le_add_right k 2)) hr tk (ra_cons (re_idx hr (re_var 0) (re_int)) (ra_cons (re_var 1) (ra_nil)))) (re_fo (h.d_reckon.mono (Nat.le_add_right k 2)) hr tk (ra_cons (re_idx hr (re_var 0) (re_int)) (ra_cons (re_var 1) (ra_nil))))))) (rss_nil)) (rss_cons (rs_if (rt_cmp (op_eqD (hu64 hr)) rg_eq (re_var 2) ((re_str (s := "*")))) (rss_one (rs_ret (re_mul (re_idx hr (re_var 0) (re_int)) (re_fo (h.d_reckon.mono (Nat.le_add_right k 2)) hr tk (ra_cons (re_idx hr (re_var 0) (re_int)) (ra_cons (re_var 1) (ra_nil))))))) (rss_nil)) (rss_cons (rs_if (rt_cmp (op_eqD (hu64 hr)) rg_eq (re_var 2) ((re_str (s := "/")))) (rss_one (rs_ret (re_div (re_fo (h.d_reckon.mono (Nat.le_add_right k 2)) hr tk (ra_cons (re_idx hr (re_var 0) (re_int)) (ra_cons (re_var 1) (ra_nil)))) (re_idx hr (re_var 0) (re_int))))) (rss_nil)) (rss_one (rs_ret (re_mod (re_fo (h.d_reckon.mono (Nat.le_add_right k 2)) hr tk (ra_cons (re_idx hr (re_var 0) (re_int)) (ra_cons (re_var 1) (ra_nil)))) (re_idx hr (re_var 0) (re_int)))))))))))
theorem sc_d_true : FnScope (["c", "env", "kind", "left", "right"] : List Str) (["c", "env"] : List Str) (defScope s_d_true) := ⟨rfl, rfl, rfl, by decide +kernel, rfl, by decide +kernel, by decide +kernel⟩
theorem ok_d_true (G : Fx K mg base) (h : Fns P w K mg base k M) : FO P w K mg base (Tl K) (k + 3) "true" (["c", "env"] : List Str) (step M).d_true := by
  obtain ⟨fd, F⟩ := G.f_d_true
  have S := sc_d_true
  refine fo_mk (N := (["c", "env", "kind", "left", "right"] : List Str)) (b := b_d_true M) F S G.m_d_true (fun _ _ _ _ _ _ us hl => match us, hl with | [_, _], _ => rfl) fun cdv A outer s H E hcd hr => ?_
  have tk : Takes (cxOf (L2.CX P w) P w K mg base (["c", "env", "kind", "left", "right"] : List Str) "true" (defScope s_d_true) (He.ga K "true") cdv A outer s H E) (fun cls d _ H => E cls d H) := L2.takes_of rfl rfl rfl rfl
  have hp : PassesOwn (model (cxOf (L2.CX P w) P w K mg base (["c", "env", "kind", "left", "right"] : List Str) "true" (defScope s_d_true) (He.ga K "true") cdv A outer s H E).prog (cxOf (L2.CX P w) P w K mg base (["c", "env", "kind", "left", "right"] : List Str) "true" (defScope s_d_true) (He.ga K "true") cdv A outer s H E).w) (cxOf (L2.CX P w) P w K mg base (["c", "env", "kind", "left", "right"] : List Str) "true" (defScope s_d_true) (He.ga K "true") cdv A outer s H E).A (cxOf (L2.CX P w) P w K mg base (["c", "env", "kind", "left", "right"] : List Str) "true" (defScope s_d_true) (He.ga K "true") cdv A outer s H E).env (cxOf (L2.CX P w) P w K mg base (["c", "env", "kind", "left", "right"] : List Str) "true" (defScope s_d_true) (He.ga K "true") cdv A outer s H E).xe := L2.passes_of rfl
  exact rss_cons (rs_set 2 S.nd (re_idx hr (re_var 0) (re_int))) (rss_cons (rs_if (rt_cmp (op_eqD (hu64 hr)) rg_eq (re_var 2) ((re_str (s := "yes")))) (rss_one (rs_ret (re_bl))) (rss_nil)) (rss_cons (rs_if (rt_cmp (op_eqD (hu64 hr)) rg_eq (re_var 2) ((re_str (s := "not")))) (rss_one (rs_ret (re_not (re_fo (h.d_true.mono (Nat.le_add_right k 2)) hr tk (ra_cons (re_idx hr (re_var 0) (re_int)) (ra_cons (re_var 1) (ra_nil))))))) (rss_nil)) (rss_cons (rs_if (rt_in hr (re_var 2) (re_tup (ra_cons ((re_str (s := "and"))) (ra_cons ((re_str (s := "or"))) (ra_nil))))) (rss_cons (rs_par 3 4 rfl S.nd (ra_cons (re_fo (h.d_true.mono (Nat.le_add_right k 2)) hr tk (ra_cons (re_idx hr (re_var 0) (re_int)) (ra_cons (re_var 1) (ra_nil)))) (ra_cons (re_fo (h.d_true.mono (Nat.le_add_right k 2)) hr tk (ra_cons (re_idx hr (re_var 0) (re_int)) (ra_cons (re_var 1) (ra_nil)))) (ra_nil)))) (rss_one (rs_ret (re_if (rt_cmp (op_eqD (hu64 hr)) rg_eq (re_var 2) ((re_str (s := "and")))) (re_and (re_var 3) (re_one (re_var 4))) (re_or (re_var 3) (re_one (re_var 4))))))) (rss_nil)) (rss_cons (rs_par 3 4 rfl S.nd (ra_cons (re_fo (h.d_reckon.mono (Nat.le_add_right k 2)) hr tk (ra_cons (re_idx hr (re_var 0) (re_int)) (ra_cons (re_var 1) (ra_nil)))) (ra_cons (re_fo (h.d_reckon.mono (Nat.le_add_right k 2)) hr tk (ra_cons (re_idx hr (re_var 0) (re_int)) (ra_cons (re_var 1) (ra_nil)))) (ra_nil)))) (rss_one (rs_ret (re_idx hr (re_disp (rps_cons ((re_str (s := "<"))) (re_cmp op_lt rg_lt (re_var 3) (re_var 4)) (rps_cons ((re_str (s := "<="))) (re_cmp op_le rg_le (re_var 3) (re_var 4)) (rps_cons ((re_str (s := "="))) (re_cmp (op_eqD (hu64 hr)) rg_eq (re_var 3) (re_var 4)) (rps_cons ((re_str (s := "!="))) (re_cmp (op_neD (hu64 hr)) rg_ne (re_var 3) (re_var 4)) (rps_nil)))))) (re_var 2))))))))
theorem sc_d_fit : FnScope (["k", "t", "env", "inner"] : List Str) (["k", "t", "env"] : List Str) (defScope s_d_fit) := ⟨rfl, rfl, rfl, by decide +kernel, rfl, by decide +kernel, by decide +kernel⟩
theorem ok_d_fit (G : Fx K mg base) (h : Fns P w K mg base k M) : FO P w K mg base (Tl K) (k + 3) "fit" (["k", "t", "env"] : List Str) (step M).d_fit := by
  obtain ⟨fd, F⟩ := G.f_d_fit
  have S := sc_d_fit
  refine fo_mk (N := (["k", "t", "env", "inner"] : List Str)) (b := b_d_fit M) F S G.m_d_fit (fun _ _ _ _ _ _ us hl => match us, hl with | [_, _, _], _ => rfl) fun cdv A outer s H E hcd hr => ?_
  have tk : Takes (cxOf (L2.CX P w) P w K mg base (["k", "t", "env", "inner"] : List Str) "fit" (defScope s_d_fit) (He.ga K "fit") cdv A outer s H E) (fun cls d _ H => E cls d H) := L2.takes_of rfl rfl rfl rfl
  have hp : PassesOwn (model (cxOf (L2.CX P w) P w K mg base (["k", "t", "env", "inner"] : List Str) "fit" (defScope s_d_fit) (He.ga K "fit") cdv A outer s H E).prog (cxOf (L2.CX P w) P w K mg base (["k", "t", "env", "inner"] : List Str) "fit" (defScope s_d_fit) (He.ga K "fit") cdv A outer s H E).w) (cxOf (L2.CX P w) P w K mg base (["k", "t", "env", "inner"] : List Str) "fit" (defScope s_d_fit) (He.ga K "fit") cdv A outer s H E).A (cxOf (L2.CX P w) P w K mg base (["k", "t", "env", "inner"] : List Str) "fit" (defScope s_d_fit) (He.ga K "fit") cdv A outer s H E).env (cxOf (L2.CX P w) P w K mg base (["k", "t", "env", "inner"] : List Str) "fit" (defScope s_d_fit) (He.ga K "fit") cdv A outer s H E).xe := L2.passes_of rfl
  exact rss_cons (rs_set 3 S.nd (re_callTy (ro_dict rfl) rg_dict rfl G.n_dict (by decide +kernel) (ra_cons (re_var 2) (ra_nil)))) (rss_cons (rs_sto hr (re_var 0) (re_var 3) ((re_str (s := "v")))) (rss_one (rs_ret (re_and (re_chain op_le rg_le op_le rg_le (re_idx hr (re_var 1) (re_int)) (re_var 0) (re_idx hr (re_var 1) (re_int))) (re_one (re_fo (h.d_true.mono (Nat.le_add_right k 2)) hr tk (ra_cons (re_idx hr (re_var 1) (re_int)) (ra_cons (re_var 3) (ra_nil)))))))))
theorem sc_d_form : FnScope (["right"] : List Str) (["right"] : List Str) (defScope s_d_form) := ⟨rfl, rfl, rfl, by decide +kernel, rfl, by decide +kernel, by decide +kernel⟩
theorem ok_d_form (G : Fx K mg base) (h : Fns P w K mg base k M) : FO P w K mg base (Tl K) (k + 3) "form" (["right"] : List Str) (step M).d_form := by
  obtain ⟨fd, F⟩ := G.f_d_form
  have S := sc_d_form
  refine fo_mk (N := (["right"] : List Str)) (b := b_d_form M) F S G.m_d_form (fun _ _ _ _ _ _ us hl => match us, hl with | [_], _ => rfl) fun cdv A outer s H E hcd hr => ?_
  have tk : Takes (cxOf (L2.CX P w) P w K mg base (["right"] : List Str) "form" (defScope s_d_form) (He.ga K "form") cdv A outer s H E) (fun cls d _ H => E cls d H) := L2.takes_of rfl rfl rfl rfl
  have hp : PassesOwn (model (cxOf (L2.CX P w) P w K mg base (["right"] : List Str) "form" (defScope s_d_form) (He.ga K "form") cdv A outer s H E).prog (cxOf (L2.CX P w) P w K mg base (["right"] : List Str) "form" (defScope s_d_form) (He.ga K "form") cdv A outer s H E).w) (cxOf (L2.CX P w) P w K mg base (["right"] : List Str) "form" (defScope s_d_form) (He.ga K "form") cdv A outer s H E).A (cxOf (L2.CX P w) P w K mg base (["right"] : List Str) "form" (defScope s_d_form) (He.ga K "form") cdv A outer s H E).env (cxOf (L2.CX P w) P w K mg base (["right"] : List Str) "form" (defScope s_d_form) (He.ga K "form") cdv A outer s H E).xe := L2.passes_of rfl
  exact rss_one (rs_if (rt_not (rt_truth (re_var 0))) (rss_one (rs_raiseC (c := "BadProgram") rfl tk rfl rfl G.x_BadProgram G.m_BadProgram)) (rss_nil))
theorem sc_d_table : FnScope (["values", "right", "p"] : List Str) (["values"] : List Str) (defScope s_d_table) := ⟨rfl, rfl, rfl, by decide +kernel, rfl, by decide +kernel, by decide +kernel⟩
theorem ok_d_table (G : Fx K mg base) (h : Fns P w K mg base k M) : FO P w K mg base (Tl K) (k + 3) "table" (["values"] : List Str) (step M).d_table := by
  obtain ⟨fd, F⟩ := G.f_d_table
  have S := sc_d_table
  refine fo_mk (N := (["values", "right", "p"] : List Str)) (b := b_d_table M) F S G.m_d_table (fun _ _ _ _ _ _ us hl => match us, hl with | [_], _ => rfl) fun cdv A outer s H E hcd hr => ?_
  have tk : Takes (cxOf (L2.CX P w) P w K mg base (["values", "right", "p"] : List Str) "table" (defScope s_d_table) (He.ga K "table") cdv A outer s H E) (fun cls d _ H => E cls d H) := L2.takes_of rfl rfl rfl rfl
  have hp : PassesOwn (model (cxOf (L2.CX P w) P w K mg base (["values", "right", "p"] : List Str) "table" (defScope s_d_table) (He.ga K "table") cdv A outer s H E).prog (cxOf (L2.CX P w) P w K mg base (["values", "right", "p"] : List Str) "table" (defScope s_d_table) (He.ga K "table") cdv A outer s H E).w) (cxOf (L2.CX P w) P w K mg base (["values", "right", "p"] : List Str) "table" (defScope s_d_table) (He.ga K "table") cdv A outer s H E).A (cxOf (L2.CX P w) P w K mg base (["values", "right", "p"] : List Str) "table" (defScope s_d_table) (He.ga K "table") cdv A outer s H E).env (cxOf (L2.CX P w) P w K mg base (["values", "right", "p"] : List Str) "table" (defScope s_d_table) (He.ga K "table") cdv A outer s H E).xe := L2.passes_of rfl
  exact rss_cons (rs_set 1 S.nd (re_and (re_cmp ro_is rg_is (re_callTy call_type1 rg_type rfl G.n_type (by decide +kernel) (ra_cons (re_var 0) (ra_nil))) ((re_ty rfl G.n_tuple (by decide +kernel)))) (re_one (re_all (k := k + 1) (gen_here (c := cOf K "table") (P := tOf K "table") hr S.nd (G.tb _ (by simp)) hcd (by simp [Tl]; first | exact Or.inl rfl | exact Or.inr rfl | rfl) G.tu) rfl G.n_all (own := [("p", 2)]) (is := [2]) (show GenSc (["values", "right", "p"] : List Str) (defScope s_d_table) _ _ from genSc_by (by decide +kernel)) (by decide) (ri_seq (re_var 0)) (fun _ _ _ _ _ _ _ hr1 => rg_name 2 S.nd) (fun _ _ _ _ _ _ _ hr1 => rts_nil) (fun _ _ _ _ _ _ _ hr1 => re_and (re_cmp ro_is rg_is (re_callTy call_type1 rg_type rfl G.n_type (by decide +kernel) (ra_cons (re_var 2) (ra_nil))) ((re_ty rfl G.n_tuple (by decide +kernel)))) (re_one (re_cmp (op_eqD (hu64 hr1)) rg_eq (re_callB ro_len rg_len rfl G.n_len (by decide +kernel) (ra_cons (re_var 2) (ra_nil))) (re_int)))))))) (rss_cons (rs_set 1 S.nd (re_and (re_var 1) (re_one (re_all (k := k + 1) (gen_here (c := cOf K "table") (P := tOf K "table") hr S.nd (G.tb _ (by simp)) hcd (by simp [Tl]; first | exact Or.inl rfl | exact Or.inr rfl | rfl) G.tu) rfl G.n_all (own := [("p", 2)]) (is := [2]) (show GenSc (["values", "right", "p"] : List Str) (defScope s_d_table) _ _ from genSc_by (by decide +kernel)) (by decide) (ri_seq (re_var 0)) (fun _ _ _ _ _ _ _ hr1 => rg_name 2 S.nd) (fun _ _ _ _ _ _ _ hr1 => rts_nil) (fun _ _ _ _ _ _ _ hr1 => re_and (re_cmp ro_is rg_is (re_callTy call_type1 rg_type rfl G.n_type (by decide +kernel) (ra_cons (re_idx hr1 (re_var 2) (re_int)) (ra_nil))) ((re_ty rfl G.n_str (by decide +kernel)))) (re_one (re_fo (h.d_is_int.mono (Nat.le_add_right k 1)) hr1 LamX.takes0 (ra_cons (re_idx hr1 (re_var 2) (re_int)) (ra_nil))))))))) (rss_cons (rs_if (RW.rt (rw_or (rt_not (rt_truth (re_var 1))) (rw_or1 (rt_cmp (op_neD (hu64 hr)) rg_ne (re_callB ro_len rg_len rfl G.n_len (by decide +kernel) (ra_cons (re_callTy (ro_dict rfl) rg_dict rfl G.n_dict (by decide +kernel) (ra_cons (re_var 0) (ra_nil))) (ra_nil))) (re_callB ro_len rg_len rfl G.n_len (by decide +kernel) (ra_cons (re_var 0) (ra_nil))))))) (rss_one (rs_raiseC (c := "BadRun") rfl tk rfl rfl G.x_BadRun G.m_BadRun)) (rss_nil)) (rss_one (rs_ret (re_callTy (ro_dict rfl) rg_dict rfl G.n_dict (by decide +kernel) (ra_cons (re_var 0) (ra_nil)))))))
theorem sc_d_value_of : FnScope (["e", "values"] : List Str) (["e", "values"] : List Str) (defScope s_d_value_of) := ⟨rfl, rfl, rfl, by decide +kernel, rfl, by decide +kernel, by decide +kernel⟩
theorem ok_d_value_of (G : Fx K mg base) (h : Fns P w K mg base k M) : FO P w K mg base (Tl K) (k + 3) "value_of" (["e", "values"] : List Str) (step M).d_value_of := by
  obtain ⟨fd, F⟩ := G.f_d_value_of
  have S := sc_d_value_of
  refine fo_mk (N := (["e", "values"] : List Str)) (b := b_d_value_of M) F S G.m_d_value_of (fun _ _ _ _ _ _ us hl => match us, hl with | [_, _], _ => rfl) fun cdv A outer s H E hcd hr => ?_
  have tk : Takes (cxOf (L2.CX P w) P w K mg base (["e", "values"] : List Str) "value_of" (defScope s_d_value_of) (He.ga K "value_of") cdv A outer s H E) (fun cls d _ H => E cls d H) := L2.takes_of rfl rfl rfl rfl
  have hp : PassesOwn (model (cxOf (L2.CX P w) P w K mg base (["e", "values"] : List Str) "value_of" (defScope s_d_value_of) (He.ga K "value_of") cdv A outer s H E).prog (cxOf (L2.CX P w) P w K mg base (["e", "values"] : List Str) "value_of" (defScope s_d_value_of) (He.ga K "value_of") cdv A outer s H E).w) (cxOf (L2.CX P w) P w K mg base (["e", "values"] : List Str) "value_of" (defScope s_d_value_of) (He.ga K "value_of") cdv A outer s H E).A (cxOf (L2.CX P w) P w K mg base (["e", "values"] : List Str) "value_of" (defScope s_d_value_of) (He.ga K "value_of") cdv A outer s H E).env (cxOf (L2.CX P w) P w K mg base (["e", "values"] : List Str) "value_of" (defScope s_d_value_of) (He.ga K "value_of") cdv A outer s H E).xe := L2.passes_of rfl
  exact rss_cons (rs_expr (re_fo (h.d_form.mono (Nat.le_add_right k 2)) hr tk (ra_cons (re_cmp op_gt rg_gt (re_fo (h.d_expression_parts.mono (Nat.le_add_right k 2)) hr tk (ra_cons (re_var 0) (ra_cons (re_non) (ra_nil)))) (re_int)) (ra_nil)))) (rss_one (rs_ret (re_fo (h.d_reckon.mono (Nat.le_add_right k 2)) hr tk (ra_cons (re_var 0) (ra_cons (re_fo (h.d_table.mono (Nat.le_add_right k 2)) hr tk (ra_cons (re_var 1) (ra_nil))) (ra_nil))))))
theorem sc_d_is_true : FnScope (["c", "values"] : List Str) (["c", "values"] : List Str) (defScope s_d_is_true) := ⟨rfl, rfl, rfl, by decide +kernel, rfl, by decide +kernel, by decide +kernel⟩
theorem ok_d_is_true (G : Fx K mg base) (h : Fns P w K mg base k M) : FO P w K mg base (Tl K) (k + 3) "is_true" (["c", "values"] : List Str) (step M).d_is_true := by
  obtain ⟨fd, F⟩ := G.f_d_is_true
  have S := sc_d_is_true
  refine fo_mk (N := (["c", "values"] : List Str)) (b := b_d_is_true M) F S G.m_d_is_true (fun _ _ _ _ _ _ us hl => match us, hl with | [_, _], _ => rfl) fun cdv A outer s H E hcd hr => ?_
  have tk : Takes (cxOf (L2.CX P w) P w K mg base (["c", "values"] : List Str) "is_true" (defScope s_d_is_true) (He.ga K "is_true") cdv A outer s H E) (fun cls d _ H => E cls d H) := L2.takes_of rfl rfl rfl rfl
  have hp : PassesOwn (model (cxOf (L2.CX P w) P w K mg base (["c", "values"] : List Str) "is_true" (defScope s_d_is_true) (He.ga K "is_true") cdv A outer s H E).prog (cxOf (L2.CX P w) P w K mg base (["c", "values"] : List Str) "is_true" (defScope s_d_is_true) (He.ga K "is_true") cdv A outer s H E).w) (cxOf (L2.CX P w) P w K mg base (["c", "values"] : List Str) "is_true" (defScope s_d_is_true) (He.ga K "is_true") cdv A outer s H E).A (cxOf (L2.CX P w) P w K mg base (["c", "values"] : List Str) "is_true" (defScope s_d_is_true) (He.ga K "is_true") cdv A outer s H E).env (cxOf (L2.CX P w) P w K mg base (["c", "values"] : List Str) "is_true" (defScope s_d_is_true) (He.ga K "is_true") cdv A outer s H E).xe := L2.passes_of rfl
  exact rss_cons (rs_expr (re_fo (h.d_form.mono (Nat.le_add_right k 2)) hr tk (ra_cons (re_cmp op_gt rg_gt (re_fo (h.d_condition_parts.mono (Nat.le_add_right k 2)) hr tk (ra_cons (re_var 0) (ra_cons (re_non) (ra_nil)))) (re_int)) (ra_nil)))) (rss_one (rs_ret (re_fo (h.d_true.mono (Nat.le_add_right k 2)) hr tk (ra_cons (re_var 0) (ra_cons (re_fo (h.d_table.mono (Nat.le_add_right k 2)) hr tk (ra_cons (re_var 1) (ra_nil))) (ra_nil))))))
theorem sc_d_fits : FnScope (["k", "t", "values"] : List Str) (["k", "t", "values"] : List Str) (defScope s_d_fits) := ⟨rfl, rfl, rfl, by decide +kernel, rfl, by decide +kernel, by decide +kernel⟩
theorem ok_d_fits (G : Fx K mg base) (h : Fns P w K mg base k M) : FO P w K mg base (Tl K) (k + 3) "fits" (["k", "t", "values"] : List Str) (step M).d_fits := by
  obtain ⟨fd, F⟩ := G.f_d_fits
  have S := sc_d_fits
  refine fo_mk (N := (["k", "t", "values"] : List Str)) (b := b_d_fits M) F S G.m_d_fits (fun _ _ _ _ _ _ us hl => match us, hl with | [_, _, _], _ => rfl) fun cdv A outer s H E hcd hr => ?_
  have tk : Takes (cxOf (L2.CX P w) P w K mg base (["k", "t", "values"] : List Str) "fits" (defScope s_d_fits) (He.ga K "fits") cdv A outer s H E) (fun cls d _ H => E cls d H) := L2.takes_of rfl rfl rfl rfl
  have hp : PassesOwn (model (cxOf (L2.CX P w) P w K mg base (["k", "t", "values"] : List Str) "fits" (defScope s_d_fits) (He.ga K "fits") cdv A outer s H E).prog (cxOf (L2.CX P w) P w K mg base (["k", "t", "values"] : List Str) "fits" (defScope s_d_fits) (He.ga K "fits") cdv A outer s H E).w) (cxOf (L2.CX P w) P w K mg base (["k", "t", "values"] : List Str) "fits" (defScope s_d_fits) (He.ga K "fits") cdv A outer s H E).A (cxOf (L2.CX P w) P w K mg base (["k", "t", "values"] : List Str) "fits" (defScope s_d_fits) (He.ga K "fits") cdv A outer s H E).env (cxOf (L2.CX P w) P w K mg base (["k", "t", "values"] : List Str) "fits" (defScope s_d_fits) (He.ga K "fits") cdv A outer s H E).xe := L2.passes_of rfl
  exact rss_cons (rs_expr (re_fo (h.d_form.mono (Nat.le_add_right k 2)) hr tk (ra_cons (re_and (re_fo (h.d_is_int.mono (Nat.le_add_right k 2)) hr tk (ra_cons (re_var 0) (ra_nil))) (re_and (re_cmp ro_is rg_is (re_callTy call_type1 rg_type rfl G.n_type (by decide +kernel) (ra_cons (re_var 1) (ra_nil))) ((re_ty rfl G.n_tuple (by decide +kernel)))) (re_and (re_cmp (op_eqD (hu64 hr)) rg_eq (re_callB ro_len rg_len rfl G.n_len (by decide +kernel) (ra_cons (re_var 1) (ra_nil))) (re_int)) (re_and (re_fo (h.d_is_int.mono (Nat.le_add_right k 2)) hr tk (ra_cons (re_idx hr (re_var 1) (re_int)) (ra_nil))) (re_one (re_fo (h.d_is_int.mono (Nat.le_add_right k 2)) hr tk (ra_cons (re_idx hr (re_var 1) (re_int)) (ra_nil)))))))) (ra_nil)))) (rss_cons (rs_expr (re_fo (h.d_form.mono (Nat.le_add_right k 2)) hr tk (ra_cons (re_cmp op_gt rg_gt (re_fo (h.d_condition_parts.mono (Nat.le_add_right k 2)) hr tk (ra_cons (re_idx hr (re_var 1) (re_int)) (ra_cons (re_non) (ra_nil)))) (re_int)) (ra_nil)))) (rss_one (rs_ret (re_fo (h.d_fit.mono (Nat.le_add_right k 2)) hr tk (ra_cons (re_var 0) (ra_cons (re_var 1) (ra_cons (re_fo (h.d_table.mono (Nat.le_add_right k 2)) hr tk (ra_cons (re_var 2) (ra_nil))) (ra_nil))))))))
theorem sc_l_cell : FnScope (["script", "k"] : List Str) (["script", "k"] : List Str) (defScope s_l_cell) := ⟨rfl, rfl, rfl, by decide +kernel, rfl, by decide +kernel, by decide +kernel⟩
theorem ok_l_cell (G : Fx K mg base) (h : Fns P w K mg base k M) : FO P w K mg base (Tl K) (k + 3) "_law_cell" (["script", "k"] : List Str) (step M).l_cell := by
  obtain ⟨fd, F⟩ := G.f_l_cell
  have S := sc_l_cell
  refine fo_mk (N := (["script", "k"] : List Str)) (b := b_l_cell M) F S G.m_l_cell (fun _ _ _ _ _ _ us hl => match us, hl with | [_, _], _ => rfl) fun cdv A outer s H E hcd hr => ?_
  have tk : Takes (cxOf (L2.CX P w) P w K mg base (["script", "k"] : List Str) "_law_cell" (defScope s_l_cell) (He.ga K "_law_cell") cdv A outer s H E) (fun cls d _ H => E cls d H) := L2.takes_of rfl rfl rfl rfl
  have hp : PassesOwn (model (cxOf (L2.CX P w) P w K mg base (["script", "k"] : List Str) "_law_cell" (defScope s_l_cell) (He.ga K "_law_cell") cdv A outer s H E).prog (cxOf (L2.CX P w) P w K mg base (["script", "k"] : List Str) "_law_cell" (defScope s_l_cell) (He.ga K "_law_cell") cdv A outer s H E).w) (cxOf (L2.CX P w) P w K mg base (["script", "k"] : List Str) "_law_cell" (defScope s_l_cell) (He.ga K "_law_cell") cdv A outer s H E).A (cxOf (L2.CX P w) P w K mg base (["script", "k"] : List Str) "_law_cell" (defScope s_l_cell) (He.ga K "_law_cell") cdv A outer s H E).env (cxOf (L2.CX P w) P w K mg base (["script", "k"] : List Str) "_law_cell" (defScope s_l_cell) (He.ga K "_law_cell") cdv A outer s H E).xe := L2.passes_of rfl
  exact rss_one (rs_ret (re_if (rt_cmp op_lt rg_lt (re_var 1) (re_callB ro_len rg_len rfl G.n_len (by decide +kernel) (ra_cons (re_var 0) (ra_nil)))) (re_callTy call_int1 rg_intf rfl G.n_int (by decide +kernel) (ra_cons (re_idx hr (re_var 0) (re_var 1)) (ra_nil))) (re_int)))
theorem sc_l_stream : FnScope (["script", "k"] : List Str) (["script", "k"] : List Str) (defScope s_l_stream) := ⟨rfl, rfl, rfl, by decide +kernel, rfl, by decide +kernel, by decide +kernel⟩
theorem ok_l_stream (G : Fx K mg base) (h : Fns P w K mg base k M) : FO P w K mg base (Tl K) (k + 3) "_law_stream" (["script", "k"] : List Str) (step M).l_stream := by
  obtain ⟨fd, F⟩ := G.f_l_stream
  have S := sc_l_stream
  refine fo_mk (N := (["script", "k"] : List Str)) (b := b_l_stream M) F S G.m_l_stream (fun _ _ _ _ _ _ us hl => match us, hl with | [_, _], _ => rfl) fun cdv A outer s H E hcd hr => ?_
  have tk : Takes (cxOf (L2.CX P w) P w K mg base (["script", "k"] : List Str) "_law_stream" (defScope s_l_stream) (He.ga K "_law_stream") cdv A outer s H E) (fun cls d _ H => E cls d H) := L2.takes_of rfl rfl rfl rfl
  have hp : PassesOwn (model (cxOf (L2.CX P w) P w K mg base (["script", "k"] : List Str) "_law_stream" (defScope s_l_stream) (He.ga K "_law_stream") cdv A outer s H E).prog (cxOf (L2.CX P w) P w K mg base (["script", "k"] : List Str) "_law_stream" (defScope s_l_stream) (He.ga K "_law_stream") cdv A outer s H E).w) (cxOf (L2.CX P w) P w K mg base (["script", "k"] : List Str) "_law_stream" (defScope s_l_stream) (He.ga K "_law_stream") cdv A outer s H E).A (cxOf (L2.CX P w) P w K mg base (["script", "k"] : List Str) "_law_stream" (defScope s_l_stream) (He.ga K "_law_stream") cdv A outer s H E).env (cxOf (L2.CX P w) P w K mg base (["script", "k"] : List Str) "_law_stream" (defScope s_l_stream) (He.ga K "_law_stream") cdv A outer s H E).xe := L2.passes_of rfl
  exact rss_one (rs_ret (re_lst (ra_cons (re_callB call_abs rg_abs rfl G.n_abs (by decide +kernel) (ra_cons (re_fo (h.l_cell.mono (Nat.le_add_right k 2)) hr tk (ra_cons (re_var 0) (ra_cons (re_var 1) (ra_nil)))) (ra_nil))) (ra_cons (re_add (re_mod (re_callB call_abs rg_abs rfl G.n_abs (by decide +kernel) (ra_cons (re_fo (h.l_cell.mono (Nat.le_add_right k 2)) hr tk (ra_cons (re_var 0) (ra_cons (re_var 1) (ra_nil)))) (ra_nil))) (re_int)) (re_int)) (ra_nil)))))
theorem sc_l_draw : FnScope (["box", "many", "told"] : List Str) (["box", "many"] : List Str) (defScope s_l_draw) := ⟨rfl, rfl, rfl, by decide +kernel, rfl, by decide +kernel, by decide +kernel⟩
theorem ok_l_draw (G : Fx K mg base) (h : Fns P w K mg base k M) : FO P w K mg base (Tl K) (k + 3) "_law_draw" (["box", "many"] : List Str) (step M).l_draw := by
  obtain ⟨fd, F⟩ := G.f_l_draw
  have S := sc_l_draw
  refine fo_mk (N := (["box", "many", "told"] : List Str)) (b := b_l_draw M) F S G.m_l_draw (fun _ _ _ _ _ _ us hl => match us, hl with | [_, _], _ => rfl) fun cdv A outer s H E hcd hr => ?_
  have tk : Takes (cxOf (L2.CX P w) P w K mg base (["box", "many", "told"] : List Str) "_law_draw" (defScope s_l_draw) (He.ga K "_law_draw") cdv A outer s H E) (fun cls d _ H => E cls d H) := L2.takes_of rfl rfl rfl rfl
  have hp : PassesOwn (model (cxOf (L2.CX P w) P w K mg base (["box", "many", "told"] : List Str) "_law_draw" (defScope s_l_draw) (He.ga K "_law_draw") cdv A outer s H E).prog (cxOf (L2.CX P w) P w K mg base (["box", "many", "told"] : List Str) "_law_draw" (defScope s_l_draw) (He.ga K "_law_draw") cdv A outer s H E).w) (cxOf (L2.CX P w) P w K mg base (["box", "many", "told"] : List Str) "_law_draw" (defScope s_l_draw) (He.ga K "_law_draw") cdv A outer s H E).A (cxOf (L2.CX P w) P w K mg base (["box", "many", "told"] : List Str) "_law_draw" (defScope s_l_draw) (He.ga K "_law_draw") cdv A outer s H E).env (cxOf (L2.CX P w) P w K mg base (["box", "many", "told"] : List Str) "_law_draw" (defScope s_l_draw) (He.ga K "_law_draw") cdv A outer s H E).xe := L2.passes_of rfl
  exact rss_cons (rs_if (rt_cmp op_gt rg_gt (re_idx hr (re_var 0) (re_int)) (re_int)) (rss_cons (rs_set 2 S.nd (re_mod (re_idx hr (re_var 0) (re_int)) (re_var 1))) (rss_cons (rs_sto hr (re_div (re_idx hr (re_var 0) (re_int)) (re_var 1)) (re_var 0) (re_int)) (rss_one (rs_ret (re_callTy call_int1 rg_intf rfl G.n_int (by decide +kernel) (ra_cons (re_var 2) (ra_nil))))))) (rss_nil)) (rss_cons (rs_sto hr (re_mod (re_callTy call_int1 rg_intf rfl G.n_int (by decide +kernel) (ra_cons (re_add (re_mul (re_idx hr (re_var 0) (re_int)) (re_int)) (re_int)) (ra_nil))) (re_int)) (re_var 0) (re_int)) (rss_one (rs_ret (re_mod (re_callTy call_int1 rg_intf rfl G.n_int (by decide +kernel) (ra_cons (re_div (re_idx hr (re_var 0) (re_int)) (re_int)) (ra_nil))) (re_var 1)))))
theorem sc_l_value : FnScope (["e", "values", "kind"] : List Str) (["e", "values"] : List Str) (defScope s_l_value) := ⟨rfl, rfl, rfl, by decide +kernel, rfl, by decide +kernel, by decide +kernel⟩
theorem ok_l_value (G : Fx K mg base) (h : Fns P w K mg base k M) : FO P w K mg base (Tl K) (k + 3) "_law_value" (["e", "values"] : List Str) (step M).l_value := by
  obtain ⟨fd, F⟩ := G.f_l_value
  have S := sc_l_value
  refine fo_mk (N := (["e", "values", "kind"] : List Str)) (b := b_l_value M) F S G.m_l_value (fun _ _ _ _ _ _ us hl => match us, hl with | [_, _], _ => rfl) fun cdv A outer s H E hcd hr => ?_
  have tk : Takes (cxOf (L2.CX P w) P w K mg base (["e", "values", "kind"] : List Str) "_law_value" (defScope s_l_value) (He.ga K "_law_value") cdv A outer s H E) (fun cls d _ H => E cls d H) := L2.takes_of rfl rfl rfl rfl
  have hp : PassesOwn (model (cxOf (L2.CX P w) P w K mg base (["e", "values", "kind"] : List Str) "_law_value" (defScope s_l_value) (He.ga K "_law_value") cdv A outer s H E).prog (cxOf (L2.CX P w) P w K mg base (["e", "values", "kind"] : List Str) "_law_value" (defScope s_l_value) (He.ga K "_law_value") cdv A outer s H E).w) (cxOf (L2.CX P w) P w K mg base (["e", "values", "kind"] : List Str) "_law_value" (defScope s_l_value) (He.ga K "_law_value") cdv A outer s H E).A (cxOf (L2.CX P w) P w K mg base (["e", "values", "kind"] : List Str) "_law_value" (defScope s_l_value) (He.ga K "_law_value") cdv A outer s H E).env (cxOf (L2.CX P w) P w K mg base (["e", "values", "kind"] : List Str) "_law_value" (defScope s_l_value) (He.ga K "_law_value") cdv A outer s H E).xe := L2.passes_of rfl
  exact rss_cons (rs_set 2 S.nd (re_idx hr (re_var 0) (re_int))) (rss_cons (rs_if (rt_cmp (op_eqD (hu64 hr)) rg_eq (re_var 2) ((re_str (s := "n")))) (rss_one (rs_ret (re_idx hr (re_var 0) (re_int)))) (rss_nil)) (rss_cons (rs_if (rt_cmp (op_eqD (hu64 hr)) rg_eq (re_var 2) ((re_str (s := "x")))) (rss_one (rs_ret (re_idx hr (re_var 1) (re_idx hr (re_var 0) (re_int))))) (rss_nil)) (rss_cons (rs_if (rt_cmp (op_eqD (hu64 hr)) rg_eq (re_var 2) ((re_str (s := "+")))) (rss_one (rs_ret (re_add (re_fo (h.l_value.mono (Nat.le_add_right k 2)) hr tk (ra_cons (re_idx hr (re_var 0) (re_int)) (ra_cons (re_var 1) (ra_nil)))) (re_fo (h.l_value.mono (Nat.le_add_right k 2)) hr tk (ra_cons (re_idx hr (re_var 0) (re_int)) (ra_cons (re_var 1) (ra_nil))))))) (rss_nil)) (rss_cons (rs_if (rt_cmp (op_eqD (hu64 hr)) rg_eq (re_var 2) ((re_str (s := "-")))) (rss_one (rs_ret (re_sub (re_fo (h.l_value.mono (Nat.le_add_right k 2)) hr tk (ra_cons (re_idx hr (re_var 0) (re_int)) (ra_cons (re_var 1) (ra_nil)))) (re_fo (h.l_value.mono (Nat.le_add_right k 2)) hr tk (ra_cons (re_idx hr (re_var 0) (re_int)) (ra_cons (re_var 1) (ra_nil))))))) (rss_nil)) (rss_cons (rs_if (rt_cmp (op_eqD (hu64 hr)) rg_eq (re_var 2) ((re_str (s := "*")))) (rss_one (rs_ret (re_mul (re_idx hr (re_var 0) (re_int)) (re_fo (h.l_value.mono (Nat.le_add_right k 2)) hr tk (ra_cons (re_idx hr (re_var 0) (re_int)) (ra_cons (re_var 1) (ra_nil))))))) (rss_nil)) (rss_cons (rs_if (rt_cmp (op_eqD (hu64 hr)) rg_eq (re_var 2) ((re_str (s := "/")))) (rss_one (rs_ret (re_div (re_fo (h.l_value.mono (Nat.le_add_right k 2)) hr tk (ra_cons (re_idx hr (re_var 0) (re_int)) (ra_cons (re_var 1) (ra_nil)))) (re_idx hr (re_var 0) (re_int))))) (rss_nil)) (rss_one (rs_ret (re_mod (re_fo (h.l_value.mono (Nat.le_add_right k 2)) hr tk (ra_cons (re_idx hr (re_var 0) (re_int)) (ra_cons (re_var 1) (ra_nil)))) (re_idx hr (re_var 0) (re_int)))))))))))
theorem sc_l_true : FnScope (["c", "values", "kind", "one", "other"] : List Str) (["c", "values"] : List Str) (defScope s_l_true) := ⟨rfl, rfl, rfl, by decide +kernel, rfl, by decide +kernel, by decide +kernel⟩
theorem ok_l_true (G : Fx K mg base) (h : Fns P w K mg base k M) : FO P w K mg base (Tl K) (k + 3) "_law_true" (["c", "values"] : List Str) (step M).l_true := by
  obtain ⟨fd, F⟩ := G.f_l_true
  have S := sc_l_true
  refine fo_mk (N := (["c", "values", "kind", "one", "other"] : List Str)) (b := b_l_true M) F S G.m_l_true (fun _ _ _ _ _ _ us hl => match us, hl with | [_, _], _ => rfl) fun cdv A outer s H E hcd hr => ?_
  have tk : Takes (cxOf (L2.CX P w) P w K mg base (["c", "values", "kind", "one", "other"] : List Str) "_law_true" (defScope s_l_true) (He.ga K "_law_true") cdv A outer s H E) (fun cls d _ H => E cls d H) := L2.takes_of rfl rfl rfl rfl
  have hp : PassesOwn (model (cxOf (L2.CX P w) P w K mg base (["c", "values", "kind", "one", "other"] : List Str) "_law_true" (defScope s_l_true) (He.ga K "_law_true") cdv A outer s H E).prog (cxOf (L2.CX P w) P w K mg base (["c", "values", "kind", "one", "other"] : List Str) "_law_true" (defScope s_l_true) (He.ga K "_law_true") cdv A outer s H E).w) (cxOf (L2.CX P w) P w K mg base (["c", "values", "kind", "one", "other"] : List Str) "_law_true" (defScope s_l_true) (He.ga K "_law_true") cdv A outer s H E).A (cxOf (L2.CX P w) P w K mg base (["c", "values", "kind", "one", "other"] : List Str) "_law_true" (defScope s_l_true) (He.ga K "_law_true") cdv A outer s H E).env (cxOf (L2.CX P w) P w K mg base (["c", "values", "kind", "one", "other"] : List Str) "_law_true" (defScope s_l_true) (He.ga K "_law_true") cdv A outer s H E).xe := L2.passes_of rfl
  exact rss_cons (rs_set 2 S.nd (re_idx hr (re_var 0) (re_int))) (rss_cons (rs_if (rt_cmp (op_eqD (hu64 hr)) rg_eq (re_var 2) ((re_str (s := "yes")))) (rss_one (rs_ret (re_bl))) (rss_nil)) (rss_cons (rs_if (rt_cmp (op_eqD (hu64 hr)) rg_eq (re_var 2) ((re_str (s := "and")))) (rss_one (rs_ret (re_and (re_fo (h.l_true.mono (Nat.le_add_right k 2)) hr tk (ra_cons (re_idx hr (re_var 0) (re_int)) (ra_cons (re_var 1) (ra_nil)))) (re_one (re_fo (h.l_true.mono (Nat.le_add_right k 2)) hr tk (ra_cons (re_idx hr (re_var 0) (re_int)) (ra_cons (re_var 1) (ra_nil)))))))) (rss_nil)) (rss_cons (rs_if (rt_cmp (op_eqD (hu64 hr)) rg_eq (re_var 2) ((re_str (s := "or")))) (rss_one (rs_ret (re_or (re_fo (h.l_true.mono (Nat.le_add_right k 2)) hr tk (ra_cons (re_idx hr (re_var 0) (re_int)) (ra_cons (re_var 1) (ra_nil)))) (re_one (re_fo (h.l_true.mono (Nat.le_add_right k 2)) hr tk (ra_cons (re_idx hr (re_var 0) (re_int)) (ra_cons (re_var 1) (ra_nil)))))))) (rss_nil)) (rss_cons (rs_if (rt_cmp (op_eqD (hu64 hr)) rg_eq (re_var 2) ((re_str (s := "not")))) (rss_one (rs_ret (re_not (re_fo (h.l_true.mono (Nat.le_add_right k 2)) hr tk (ra_cons (re_idx hr (re_var 0) (re_int)) (ra_cons (re_var 1) (ra_nil))))))) (rss_nil)) (rss_cons (rs_par 3 4 rfl S.nd (ra_cons (re_fo (h.l_value.mono (Nat.le_add_right k 2)) hr tk (ra_cons (re_idx hr (re_var 0) (re_int)) (ra_cons (re_var 1) (ra_nil)))) (ra_cons (re_fo (h.l_value.mono (Nat.le_add_right k 2)) hr tk (ra_cons (re_idx hr (re_var 0) (re_int)) (ra_cons (re_var 1) (ra_nil)))) (ra_nil)))) (rss_cons (rs_if (rt_cmp (op_eqD (hu64 hr)) rg_eq (re_var 2) ((re_str (s := "<")))) (rss_one (rs_ret (re_cmp op_lt rg_lt (re_var 3) (re_var 4)))) (rss_nil)) (rss_cons (rs_if (rt_cmp (op_eqD (hu64 hr)) rg_eq (re_var 2) ((re_str (s := "<=")))) (rss_one (rs_ret (re_cmp op_le rg_le (re_var 3) (re_var 4)))) (rss_nil)) (rss_cons (rs_if (rt_cmp (op_eqD (hu64 hr)) rg_eq (re_var 2) ((re_str (s := "=")))) (rss_one (rs_ret (re_cmp (op_eqD (hu64 hr)) rg_eq (re_var 3) (re_var 4)))) (rss_nil)) (rss_one (rs_ret (re_cmp (op_neD (hu64 hr)) rg_ne (re_var 3) (re_var 4))))))))))))
theorem sc_l_fits : FnScope (["k", "t", "values", "more"] : List Str) (["k", "t", "values"] : List Str) (defScope s_l_fits) := ⟨rfl, rfl, rfl, by decide +kernel, rfl, by decide +kernel, by decide +kernel⟩
theorem ok_l_fits (G : Fx K mg base) (h : Fns P w K mg base k M) : FO P w K mg base (Tl K) (k + 3) "_law_fits" (["k", "t", "values"] : List Str) (step M).l_fits := by
  obtain ⟨fd, F⟩ := G.f_l_fits
  have S := sc_l_fits
  refine fo_mk (N := (["k", "t", "values", "more"] : List Str)) (b := b_l_fits M) F S G.m_l_fits (fun _ _ _ _ _ _ us hl => match us, hl with | [_, _, _], _ => rfl) fun cdv A outer s H E hcd hr => ?_
  have tk : Takes (cxOf (L2.CX P w) P w K mg base (["k", "t", "values", "more"] : List Str) "_law_fits" (defScope s_l_fits) (He.ga K "_law_fits") cdv A outer s H E) (fun cls d _ H => E cls d H) := L2.takes_of rfl rfl rfl rfl
  have hp : PassesOwn (model (cxOf (L2.CX P w) P w K mg base (["k", "t", "values", "more"] : List Str) "_law_fits" (defScope s_l_fits) (He.ga K "_law_fits") cdv A outer s H E).prog (cxOf (L2.CX P w) P w K mg base (["k", "t", "values", "more"] : List Str) "_law_fits" (defScope s_l_fits) (He.ga K "_law_fits") cdv A outer s H E).w) (cxOf (L2.CX P w) P w K mg base (["k", "t", "values", "more"] : List Str) "_law_fits" (defScope s_l_fits) (He.ga K "_law_fits") cdv A outer s H E).A (cxOf (L2.CX P w) P w K mg base (["k", "t", "values", "more"] : List Str) "_law_fits" (defScope s_l_fits) (He.ga K "_law_fits") cdv A outer s H E).env (cxOf (L2.CX P w) P w K mg base (["k", "t", "values", "more"] : List Str) "_law_fits" (defScope s_l_fits) (He.ga K "_law_fits") cdv A outer s H E).xe := L2.passes_of rfl
  exact rss_cons (rs_if (rt_not (rt_chain op_le rg_le op_le rg_le (re_idx hr (re_var 1) (re_int)) (re_var 0) (re_idx hr (re_var 1) (re_int)))) (rss_one (rs_ret (re_bl))) (rss_nil)) (rss_cons (rs_set 3 S.nd (re_callTy (ro_dict rfl) rg_dict rfl G.n_dict (by decide +kernel) (ra_cons (re_var 2) (ra_nil)))) (rss_cons (rs_sto hr (re_var 0) (re_var 3) ((re_str (s := "v")))) (rss_one (rs_ret (re_fo (h.l_true.mono (Nat.le_add_right k 2)) hr tk (ra_cons (re_idx hr (re_var 1) (re_int)) (ra_cons (re_var 3) (ra_nil))))))))
theorem sc_l_expr : FnScope (["box", "names", "deep", "pick", "one"] : List Str) (["box", "names", "deep"] : List Str) (defScope s_l_expr) := ⟨rfl, rfl, rfl, by decide +kernel, rfl, by decide +kernel, by decide +kernel⟩
theorem ok_l_expr (G : Fx K mg base) (h : Fns P w K mg base k M) : FO P w K mg base (Tl K) (k + 3) "_law_expr" (["box", "names", "deep"] : List Str) (step M).l_expr := by
  obtain ⟨fd, F⟩ := G.f_l_expr
  have S := sc_l_expr
  refine fo_mk (N := (["box", "names", "deep", "pick", "one"] : List Str)) (b := b_l_expr M) F S G.m_l_expr (fun _ _ _ _ _ _ us hl => match us, hl with | [_, _, _], _ => rfl) fun cdv A outer s H E hcd hr => ?_
  have tk : Takes (cxOf (L2.CX P w) P w K mg base (["box", "names", "deep", "pick", "one"] : List Str) "_law_expr" (defScope s_l_expr) (He.ga K "_law_expr") cdv A outer s H E) (fun cls d _ H => E cls d H) := L2.takes_of rfl rfl rfl rfl
  have hp : PassesOwn (model (cxOf (L2.CX P w) P w K mg base (["box", "names", "deep", "pick", "one"] : List Str) "_law_expr" (defScope s_l_expr) (He.ga K "_law_expr") cdv A outer s H E).prog (cxOf (L2.CX P w) P w K mg base (["box", "names", "deep", "pick", "one"] : List Str) "_law_expr" (defScope s_l_expr) (He.ga K "_law_expr") cdv A outer s H E).w) (cxOf (L2.CX P w) P w K mg base (["box", "names", "deep", "pick", "one"] : List Str) "_law_expr" (defScope s_l_expr) (He.ga K "_law_expr") cdv A outer s H E).A (cxOf (L2.CX P w) P w K mg base (["box", "names", "deep", "pick", "one"] : List Str) "_law_expr" (defScope s_l_expr) (He.ga K "_law_expr") cdv A outer s H E).env (cxOf (L2.CX P w) P w K mg base (["box", "names", "deep", "pick", "one"] : List Str) "_law_expr" (defScope s_l_expr) (He.ga K "_law_expr") cdv A outer s H E).xe := L2.passes_of rfl
  exact rss_cons (rs_set 3 S.nd (re_fo (h.l_draw.mono (Nat.le_add_right k 2)) hr tk (ra_cons (re_var 0) (ra_cons (re_int) (ra_nil))))) (rss_cons (rs_if (RW.rt (rw_or (rt_cmp (op_eqD (hu64 hr)) rg_eq (re_var 2) (re_int)) (rw_or (rt_cmp op_lt rg_lt (re_var 3) (re_int)) (rw_or1 (rt_cmp (op_eqD (hu64 hr)) rg_eq (re_var 1) (re_lst (ra_nil))))))) (rss_one (rs_ret (re_if (RW.rt (rw_or (rt_cmp (op_eqD (hu64 hr)) rg_eq (re_var 1) (re_lst (ra_nil))) (rw_or1 (rt_cmp (op_eqD (hu64 hr)) rg_eq (re_fo (h.l_draw.mono (Nat.le_add_right k 2)) hr tk (ra_cons (re_var 0) (ra_cons (re_int) (ra_nil)))) (re_int))))) (re_tup (ra_cons ((re_str (s := "n"))) (ra_cons (re_sub (re_fo (h.l_draw.mono (Nat.le_add_right k 2)) hr tk (ra_cons (re_var 0) (ra_cons (re_int) (ra_nil)))) (re_int)) (ra_nil)))) (re_tup (ra_cons ((re_str (s := "x"))) (ra_cons (re_idx hr (re_var 1) (re_fo (h.l_draw.mono (Nat.le_add_right k 2)) hr tk (ra_cons (re_var 0) (ra_cons (re_callB ro_len rg_len rfl G.n_len (by decide +kernel) (ra_cons (re_var 1) (ra_nil))) (ra_nil))))) (ra_nil))))))) (rss_nil)) (rss_cons (rs_set 4 S.nd (re_fo (h.l_expr.mono (Nat.le_add_right k 2)) hr tk (ra_cons (re_var 0) (ra_cons (re_var 1) (ra_cons (re_sub (re_var 2) (re_int)) (ra_nil)))))) (rss_cons (rs_if (rt_cmp op_lt rg_lt (re_var 3) (re_int)) (rss_one (rs_ret (re_tup (ra_cons ((re_str (s := "+"))) (ra_cons (re_var 4) (ra_cons (re_fo (h.l_expr.mono (Nat.le_add_right k 2)) hr tk (ra_cons (re_var 0) (ra_cons (re_var 1) (ra_cons (re_sub (re_var 2) (re_int)) (ra_nil))))) (ra_nil))))))) (rss_nil)) (rss_cons (rs_if (rt_cmp (op_eqD (hu64 hr)) rg_eq (re_var 3) (re_int)) (rss_one (rs_ret (re_tup (ra_cons ((re_str (s := "-"))) (ra_cons (re_var 4) (ra_cons (re_fo (h.l_expr.mono (Nat.le_add_right k 2)) hr tk (ra_cons (re_var 0) (ra_cons (re_var 1) (ra_cons (re_sub (re_var 2) (re_int)) (ra_nil))))) (ra_nil))))))) (rss_nil)) (rss_cons (rs_if (rt_cmp (op_eqD (hu64 hr)) rg_eq (re_var 3) (re_int)) (rss_one (rs_ret (re_tup (ra_cons ((re_str (s := "*"))) (ra_cons (re_sub (re_fo (h.l_draw.mono (Nat.le_add_right k 2)) hr tk (ra_cons (re_var 0) (ra_cons (re_int) (ra_nil)))) (re_int)) (ra_cons (re_var 4) (ra_nil))))))) (rss_nil)) (rss_one (rs_ret (re_if (rt_cmp (op_eqD (hu64 hr)) rg_eq (re_fo (h.l_draw.mono (Nat.le_add_right k 2)) hr tk (ra_cons (re_var 0) (ra_cons (re_int) (ra_nil)))) (re_int)) (re_tup (ra_cons ((re_str (s := "/"))) (ra_cons (re_var 4) (ra_cons (re_add (re_int) (re_fo (h.l_draw.mono (Nat.le_add_right k 2)) hr tk (ra_cons (re_var 0) (ra_cons (re_int) (ra_nil))))) (ra_nil))))) (re_tup (ra_cons ((re_str (s := "mod"))) (ra_cons (re_var 4) (ra_cons (re_add (re_int) (re_fo (h.l_draw.mono (Nat.le_add_right k 2)) hr tk (ra_cons (re_var 0) (ra_cons (re_int) (ra_nil))))) (ra_nil)))))))))))))
theorem sc_l_cond : FnScope (["box", "names", "deep", "pick", "kind", "one"] : List Str) (["box", "names", "deep"] : List Str) (defScope s_l_cond) := ⟨rfl, rfl, rfl, by decide +kernel, rfl, by decide +kernel, by decide +kernel⟩
theorem ok_l_cond (G : Fx K mg base) (h : Fns P w K mg base k M) : FO P w K mg base (Tl K) (k + 3) "_law_cond" (["box", "names", "deep"] : List Str) (step M).l_cond := by
  obtain ⟨fd, F⟩ := G.f_l_cond
  have S := sc_l_cond
  refine fo_mk (N := (["box", "names", "deep", "pick", "kind", "one"] : List Str)) (b := b_l_cond M) F S G.m_l_cond (fun _ _ _ _ _ _ us hl => match us, hl with | [_, _, _], _ => rfl) fun cdv A outer s H E hcd hr => ?_
  have tk : Takes (cxOf (L2.CX P w) P w K mg base (["box", "names", "deep", "pick", "kind", "one"] : List Str) "_law_cond" (defScope s_l_cond) (He.ga K "_law_cond") cdv A outer s H E) (fun cls d _ H => E cls d H) := L2.takes_of rfl rfl rfl rfl
  have hp : PassesOwn (model (cxOf (L2.CX P w) P w K mg base (["box", "names", "deep", "pick", "kind", "one"] : List Str) "_law_cond" (defScope s_l_cond) (He.ga K "_law_cond") cdv A outer s H E).prog (cxOf (L2.CX P w) P w K mg base (["box", "names", "deep", "pick", "kind", "one"] : List Str) "_law_cond" (defScope s_l_cond) (He.ga K "_law_cond") cdv A outer s H E).w) (cxOf (L2.CX P w) P w K mg base (["box", "names", "deep", "pick", "kind", "one"] : List Str) "_law_cond" (defScope s_l_cond) (He.ga K "_law_cond") cdv A outer s H E).A (cxOf (L2.CX P w) P w K mg base (["box", "names", "deep", "pick", "kind", "one"] : List Str) "_law_cond" (defScope s_l_cond) (He.ga K "_law_cond") cdv A outer s H E).env (cxOf (L2.CX P w) P w K mg base (["box", "names", "deep", "pick", "kind", "one"] : List Str) "_law_cond" (defScope s_l_cond) (He.ga K "_law_cond") cdv A outer s H E).xe := L2.passes_of rfl
  exact rss_cons (rs_set 3 S.nd (re_fo (h.l_draw.mono (Nat.le_add_right k 2)) hr tk (ra_cons (re_var 0) (ra_cons (re_int) (ra_nil))))) (rss_cons (rs_if (RW.rt (rw_and (rt_cmp op_gt rg_gt (re_var 2) (re_int)) (rw_and1 (rt_cmp op_lt rg_lt (re_var 3) (re_int))))) (rss_cons (rs_set 5 S.nd (re_fo (h.l_cond.mono (Nat.le_add_right k 2)) hr tk (ra_cons (re_var 0) (ra_cons (re_var 1) (ra_cons (re_sub (re_var 2) (re_int)) (ra_nil)))))) (rss_one (rs_ret (re_if (rt_cmp (op_eqD (hu64 hr)) rg_eq (re_var 3) (re_int)) (re_tup (ra_cons ((re_str (s := "not"))) (ra_cons (re_var 5) (ra_nil)))) (re_tup (ra_cons (re_idx hr (re_tup (ra_cons ((re_str (s := "and"))) (ra_cons ((re_str (s := "or"))) (ra_nil)))) (re_sub (re_var 3) (re_int))) (ra_cons (re_var 5) (ra_cons (re_fo (h.l_cond.mono (Nat.le_add_right k 2)) hr tk (ra_cons (re_var 0) (ra_cons (re_var 1) (ra_cons (re_sub (re_var 2) (re_int)) (ra_nil))))) (ra_nil))))))))) (rss_nil)) (rss_cons (rs_set 4 S.nd (re_idx hr (re_tup (ra_cons ((re_str (s := "<"))) (ra_cons ((re_str (s := "<="))) (ra_cons ((re_str (s := "="))) (ra_cons ((re_str (s := "!="))) (ra_nil)))))) (re_fo (h.l_draw.mono (Nat.le_add_right k 2)) hr tk (ra_cons (re_var 0) (ra_cons (re_int) (ra_nil)))))) (rss_one (rs_ret (re_tup (ra_cons (re_var 4) (ra_cons (re_fo (h.l_expr.mono (Nat.le_add_right k 2)) hr tk (ra_cons (re_var 0) (ra_cons (re_var 1) (ra_cons (re_int) (ra_nil))))) (ra_cons (re_fo (h.l_expr.mono (Nat.le_add_right k 2)) hr tk (ra_cons (re_var 0) (ra_cons (re_var 1) (ra_cons (re_int) (ra_nil))))) (ra_nil)))))))))
theorem sc_l_read : FnScope (["told", "part"] : List Str) (["told"] : List Str) (defScope s_l_read) := ⟨rfl, rfl, rfl, by decide +kernel, rfl, by decide +kernel, by decide +kernel⟩
theorem ok_l_read (G : Fx K mg base) (h : Fns P w K mg base k M) : FO P w K mg base (Tl K) (k + 3) "_law_read" (["told"] : List Str) (step M).l_read := by
  obtain ⟨fd, F⟩ := G.f_l_read
  have S := sc_l_read
  refine fo_mk (N := (["told", "part"] : List Str)) (b := b_l_read M) F S G.m_l_read (fun _ _ _ _ _ _ us hl => match us, hl with | [_], _ => rfl) fun cdv A outer s H E hcd hr => ?_
  have tk : Takes (cxOf (L2.CX P w) P w K mg base (["told", "part"] : List Str) "_law_read" (defScope s_l_read) (He.ga K "_law_read") cdv A outer s H E) (fun cls d _ H => E cls d H) := L2.takes_of rfl rfl rfl rfl
  have hp : PassesOwn (model (cxOf (L2.CX P w) P w K mg base (["told", "part"] : List Str) "_law_read" (defScope s_l_read) (He.ga K "_law_read") cdv A outer s H E).prog (cxOf (L2.CX P w) P w K mg base (["told", "part"] : List Str) "_law_read" (defScope s_l_read) (He.ga K "_law_read") cdv A outer s H E).w) (cxOf (L2.CX P w) P w K mg base (["told", "part"] : List Str) "_law_read" (defScope s_l_read) (He.ga K "_law_read") cdv A outer s H E).A (cxOf (L2.CX P w) P w K mg base (["told", "part"] : List Str) "_law_read" (defScope s_l_read) (He.ga K "_law_read") cdv A outer s H E).env (cxOf (L2.CX P w) P w K mg base (["told", "part"] : List Str) "_law_read" (defScope s_l_read) (He.ga K "_law_read") cdv A outer s H E).xe := L2.passes_of rfl
  exact rss_cons (rs_if (RW.rt (rw_or (rt_cmp ro_is rg_is (re_var 0) (re_non)) (rw_or (rt_cmp ro_is rg_is (re_var 0) (re_bl)) (rw_or1 (rt_cmp ro_is rg_is (re_var 0) (re_bl)))))) (rss_one (rs_ret (re_var 0))) (rss_nil)) (rss_cons (rs_if (rt_truth (re_callB call_isi rg_isi rfl G.n_isinstance (by decide +kernel) (ra_cons (re_var 0) (ra_cons ((re_ty rfl G.n_int (by decide +kernel))) (ra_nil))))) (rss_one (rs_ret (re_callTy call_int1 rg_intf rfl G.n_int (by decide +kernel) (ra_cons (re_var 0) (ra_nil))))) (rss_nil)) (rss_cons (rs_if (rt_truth (re_callB call_isi rg_isi rfl G.n_isinstance (by decide +kernel) (ra_cons (re_var 0) (ra_cons ((re_ty rfl G.n_str (by decide +kernel))) (ra_nil))))) (rss_one (rs_ret (re_add ((re_str (s := ""))) (re_var 0)))) (rss_nil)) (rss_cons (rs_if (rt_truth (re_callB call_isi rg_isi rfl G.n_isinstance (by decide +kernel) (ra_cons (re_var 0) (ra_cons ((re_ty rfl G.n_tuple (by decide +kernel))) (ra_nil))))) (rss_one (rs_ret (re_useTy call_tuple_ofF rl_tuple rfl G.n_tuple (by decide +kernel) (rl_lc (own := [("part", 1)]) (is := [1]) rfl S.nd (by decide) (ri_seq (re_var 0)) (show BlkOk (["told", "part"] : List Str) (defScope s_l_read) _ _ from blkOk_by (by decide +kernel)) (fun _ _ _ _ _ => rg_name 1 S.nd) (fun _ _ _ _ _ => rts_nil) (fun _ _ _ _ _ => re_fo (h.l_read.mono (Nat.le_add_right k 2)) hr LamX.takes0 (ra_cons (re_var 1) (ra_nil))))))) (rss_nil)) (rss_one (rs_ret ((re_str (s := "something else"))))))))
theorem sc_d_law : FnScope (["script", "box", "names", "again", "values", "told", "low", "t", "k", "e", "c", "x"] : List Str) (["script"] : List Str) (defScope s_d_law) := ⟨rfl, rfl, rfl, by decide +kernel, rfl, by decide +kernel, by decide +kernel⟩
theorem ok_d_law (G : Fx K mg base) (h : Fns P w K mg base k M) : FO P w K mg base (Tl K) (k + 3) "law" (["script"] : List Str) (step M).d_law := by
  obtain ⟨fd, F⟩ := G.f_d_law
  have S := sc_d_law
  refine fo_mk (N := (["script", "box", "names", "again", "values", "told", "low", "t", "k", "e", "c", "x"] : List Str)) (b := b_d_law M) F S G.m_d_law (fun _ _ _ _ _ _ us hl => match us, hl with | [_], _ => rfl) fun cdv A outer s H E hcd hr => ?_
  have tk : Takes (cxOf (L2.CX P w) P w K mg base (["script", "box", "names", "again", "values", "told", "low", "t", "k", "e", "c", "x"] : List Str) "law" (defScope s_d_law) (He.ga K "law") cdv A outer s H E) (fun cls d _ H => E cls d H) := L2.takes_of rfl rfl rfl rfl
  have hp : PassesOwn (model (cxOf (L2.CX P w) P w K mg base (["script", "box", "names", "again", "values", "told", "low", "t", "k", "e", "c", "x"] : List Str) "law" (defScope s_d_law) (He.ga K "law") cdv A outer s H E).prog (cxOf (L2.CX P w) P w K mg base (["script", "box", "names", "again", "values", "told", "low", "t", "k", "e", "c", "x"] : List Str) "law" (defScope s_d_law) (He.ga K "law") cdv A outer s H E).w) (cxOf (L2.CX P w) P w K mg base (["script", "box", "names", "again", "values", "told", "low", "t", "k", "e", "c", "x"] : List Str) "law" (defScope s_d_law) (He.ga K "law") cdv A outer s H E).A (cxOf (L2.CX P w) P w K mg base (["script", "box", "names", "again", "values", "told", "low", "t", "k", "e", "c", "x"] : List Str) "law" (defScope s_d_law) (He.ga K "law") cdv A outer s H E).env (cxOf (L2.CX P w) P w K mg base (["script", "box", "names", "again", "values", "told", "low", "t", "k", "e", "c", "x"] : List Str) "law" (defScope s_d_law) (He.ga K "law") cdv A outer s H E).xe := L2.passes_of rfl
  exact rss_cons (rs_set 1 S.nd (re_fo (h.l_stream.mono (Nat.le_add_right k 2)) hr tk (ra_cons (re_var 0) (ra_cons (re_int) (ra_nil))))) (rss_cons (rs_set 2 S.nd (re_lst (ra_cons ((re_str (s := "a"))) (ra_cons ((re_str (s := "b"))) (ra_cons ((re_str (s := "c"))) (ra_nil)))))) (rss_cons (rs_for hp rfl (ri_range1 rfl G.n_range (ra_cons (re_int) (ra_nil))) (rg_name 3 S.nd) (rss_cons (rs_set 4 S.nd (re_useTy (call_dictP rfl) rl_dict rfl G.n_dict (by decide +kernel) (rl_lc (own := [("x", 11)]) (is := [11]) rfl S.nd (by decide) (ri_seq (re_var 2)) (show BlkOk (["script", "box", "names", "again", "values", "told", "low", "t", "k", "e", "c", "x"] : List Str) (defScope s_d_law) _ _ from blkOk_by (by decide +kernel)) (fun _ _ _ _ _ => rg_name 11 S.nd) (fun _ _ _ _ _ => rts_nil) (fun _ _ _ _ _ => re_tup (ra_cons (re_var 11) (ra_cons (re_sub (re_fo (h.l_draw.mono (Nat.le_add_right k 2)) hr LamX.takes0 (ra_cons (re_var 1) (ra_cons (re_int) (ra_nil)))) (re_int)) (ra_nil))))))) (rss_cons (rs_set 5 S.nd (re_useTy call_tuple_ofF rl_tuple rfl G.n_tuple (by decide +kernel) (rl_lc (own := [("x", 11)]) (is := [11]) rfl S.nd (by decide) (ri_seq (re_var 2)) (show BlkOk (["script", "box", "names", "again", "values", "told", "low", "t", "k", "e", "c", "x"] : List Str) (defScope s_d_law) _ _ from blkOk_by (by decide +kernel)) (fun _ _ _ _ _ => rg_name 11 S.nd) (fun _ _ _ _ _ => rts_nil) (fun _ _ _ _ _ => re_tup (ra_cons (re_var 11) (ra_cons (re_idx hr (re_var 4) (re_var 11)) (ra_nil))))))) (rss_cons (rs_asg (re_tup (ra_cons (re_fo (h.l_expr.mono (Nat.le_add_right k 2)) hr tk (ra_cons (re_var 1) (ra_cons (re_var 2) (ra_cons (re_int) (ra_nil))))) (ra_cons (re_fo (h.l_cond.mono (Nat.le_add_right k 2)) hr tk (ra_cons (re_var 1) (ra_cons (re_var 2) (ra_cons (re_int) (ra_nil))))) (ra_nil)))) (rg_tupM rfl (rgs_cons (rg_name 9 S.nd) (rgs_cons (rg_name 10 S.nd) (rgs_nil))) (gsCons_len (gN_nx 9) (gsCons_len (gN_nx 10) gsNil_len)))) (rss_cons (rs_if (rt_cmp (op_neD (hu64 hr)) rg_ne (re_toldF (lam_here (c := cOf K "law") (P := tOf K "law") hr (G.tb _ (by simp)) hcd (by simp [Tl]; first | exact Or.inl rfl | exact Or.inr rfl | rfl) G.tu) (toldH G) rfl (told_su G) h.l_read (show LamX.LamS (defScope s_d_law) _ from LamX.lamS_by (by decide +kernel)) (fun A2 outer2 s2 H2 E2 f2 c2 hr2 => have tk2 : Takes (LamX.lamCx _ A2 outer2 s2 H2 E2 _ f2 c2) (fun cls d _ H => E2 cls d H) := L2.takes_of rfl rfl rfl rfl; re_fo (h.d_value_of.mono (Nat.le_refl k)) hr2 tk2 (ra_cons (re_var 9) (ra_cons (re_var 5) (ra_nil))))) (re_tup (ra_cons (re_int) (ra_cons (re_fo (h.l_value.mono (Nat.le_add_right k 2)) hr tk (ra_cons (re_var 9) (ra_cons (re_var 4) (ra_nil)))) (ra_nil))))) (rss_one (rs_ret (re_bl))) (rss_nil)) (rss_cons (rs_if (rt_cmp (op_neD (hu64 hr)) rg_ne (re_toldF (lam_here (c := cOf K "law") (P := tOf K "law") hr (G.tb _ (by simp)) hcd (by simp [Tl]; first | exact Or.inl rfl | exact Or.inr rfl | rfl) G.tu) (toldH G) rfl (told_su G) h.l_read (show LamX.LamS (defScope s_d_law) _ from LamX.lamS_by (by decide +kernel)) (fun A2 outer2 s2 H2 E2 f2 c2 hr2 => have tk2 : Takes (LamX.lamCx _ A2 outer2 s2 H2 E2 _ f2 c2) (fun cls d _ H => E2 cls d H) := L2.takes_of rfl rfl rfl rfl; re_fo (h.d_is_true.mono (Nat.le_refl k)) hr2 tk2 (ra_cons (re_var 10) (ra_cons (re_var 5) (ra_nil))))) (re_tup (ra_cons (re_int) (ra_cons (re_fo (h.l_true.mono (Nat.le_add_right k 2)) hr tk (ra_cons (re_var 10) (ra_cons (re_var 4) (ra_nil)))) (ra_nil))))) (rss_one (rs_ret (re_bl))) (rss_nil)) (rss_cons (rs_set 6 S.nd (re_sub (re_fo (h.l_draw.mono (Nat.le_add_right k 2)) hr tk (ra_cons (re_var 1) (ra_cons (re_int) (ra_nil)))) (re_int))) (rss_cons (rs_set 7 S.nd (re_tup (ra_cons (re_var 6) (ra_cons (re_add (re_var 6) (re_fo (h.l_draw.mono (Nat.le_add_right k 2)) hr tk (ra_cons (re_var 1) (ra_cons (re_int) (ra_nil))))) (ra_cons (re_fo (h.l_cond.mono (Nat.le_add_right k 2)) hr tk (ra_cons (re_var 1) (ra_cons (re_add (re_lst (ra_cons ((re_str (s := "v"))) (ra_nil))) (re_var 2)) (ra_cons (re_int) (ra_nil))))) (ra_nil)))))) (rss_cons (rs_for hp rfl (ri_seq (re_tup (ra_cons (re_sub (re_var 6) (re_int)) (ra_cons (re_var 6) (ra_cons (re_idx hr (re_var 7) (re_int)) (ra_cons (re_add (re_idx hr (re_var 7) (re_int)) (re_int)) (ra_cons (re_add (re_var 6) (re_fo (h.l_draw.mono (Nat.le_add_right k 2)) hr tk (ra_cons (re_var 1) (ra_cons (re_int) (ra_nil))))) (ra_nil)))))))) (rg_name 8 S.nd) (rss_one (rs_if (rt_cmp (op_neD (hu64 hr)) rg_ne (re_toldF (lam_here (c := cOf K "law") (P := tOf K "law") hr (G.tb _ (by simp)) hcd (by simp [Tl]; first | exact Or.inl rfl | exact Or.inr rfl | rfl) G.tu) (toldH G) rfl (told_su G) h.l_read (show LamX.LamS (defScope s_d_law) _ from LamX.lamS_by (by decide +kernel)) (fun A2 outer2 s2 H2 E2 f2 c2 hr2 => have tk2 : Takes (LamX.lamCx _ A2 outer2 s2 H2 E2 _ f2 c2) (fun cls d _ H => E2 cls d H) := L2.takes_of rfl rfl rfl rfl; re_fo (h.d_fits.mono (Nat.le_refl k)) hr2 tk2 (ra_cons (re_var 8) (ra_cons (re_var 7) (ra_cons (re_var 5) (ra_nil)))))) (re_tup (ra_cons (re_int) (ra_cons (re_fo (h.l_fits.mono (Nat.le_add_right k 2)) hr tk (ra_cons (re_var 8) (ra_cons (re_var 7) (ra_cons (re_var 4) (ra_nil))))) (ra_nil))))) (rss_one (rs_ret (re_bl))) (rss_nil)))) (rss_one (rs_if (rt_cmp (op_neD (hu64 hr)) rg_ne (re_toldF (lam_here (c := cOf K "law") (P := tOf K "law") hr (G.tb _ (by simp)) hcd (by simp [Tl]; first | exact Or.inl rfl | exact Or.inr rfl | rfl) G.tu) (toldH G) rfl (told_su G) h.l_read (show LamX.LamS (defScope s_d_law) _ from LamX.lamS_by (by decide +kernel)) (fun A2 outer2 s2 H2 E2 f2 c2 hr2 => have tk2 : Takes (LamX.lamCx _ A2 outer2 s2 H2 E2 _ f2 c2) (fun cls d _ H => E2 cls d H) := L2.takes_of rfl rfl rfl rfl; re_fo (h.d_value_of.mono (Nat.le_refl k)) hr2 tk2 (ra_cons (re_tup (ra_cons ((re_str (s := "+"))) (ra_cons (re_var 9) (ra_cons (re_tup (ra_cons ((re_str (s := "x"))) (ra_cons ((re_str (s := "d"))) (ra_nil)))) (ra_nil))))) (ra_cons (re_var 5) (ra_nil))))) (re_tup (ra_cons (re_int) (ra_cons ((re_str (s := "there"))) (ra_nil))))) (rss_one (rs_ret (re_bl))) (rss_nil)))))))))))) (rss_one (rs_ret (re_bl)))))
theorem fns_step (G : Fx K mg base) (h : Fns P w K mg base k M) : Fns P w K mg base (k + 3) (step M) where
  d_is_int := ok_d_is_int G h
  d_is_number := ok_d_is_number G h
  d_is_there := ok_d_is_there G h
  d_expression_parts := ok_d_expression_parts G h
  d_condition_parts := ok_d_condition_parts G h
  d_reckon := ok_d_reckon G h
  d_true := ok_d_true G h
  d_fit := ok_d_fit G h
  d_form := ok_d_form G h
  d_table := ok_d_table G h
  d_value_of := ok_d_value_of G h
  d_is_true := ok_d_is_true G h
  d_fits := ok_d_fits G h
  l_cell := ok_l_cell G h
  l_stream := ok_l_stream G h
  l_draw := ok_l_draw G h
  l_value := ok_l_value G h
  l_true := ok_l_true G h
  l_fits := ok_l_fits G h
  l_expr := ok_l_expr G h
  l_cond := ok_l_cond G h
  l_read := ok_l_read G h
  d_law := ok_d_law G h
theorem fns_bad (G : Fx K mg base) : Fns P w K mg base k .bad where
  d_is_int := (G.f_d_is_int).elim fun fd F => fo_bad F G.m_d_is_int fun _ _ _ _ _ _ us hl => match us, hl with | [_], _ => rfl
  d_is_number := (G.f_d_is_number).elim fun fd F => fo_bad F G.m_d_is_number fun _ _ _ _ _ _ us hl => match us, hl with | [_], _ => rfl
  d_is_there := (G.f_d_is_there).elim fun fd F => fo_bad F G.m_d_is_there fun _ _ _ _ _ _ us hl => match us, hl with | [_, _], _ => rfl
  d_expression_parts := (G.f_d_expression_parts).elim fun fd F => fo_bad F G.m_d_expression_parts fun _ _ _ _ _ _ us hl => match us, hl with | [_, _], _ => rfl
  d_condition_parts := (G.f_d_condition_parts).elim fun fd F => fo_bad F G.m_d_condition_parts fun _ _ _ _ _ _ us hl => match us, hl with | [_, _], _ => rfl
  d_reckon := (G.f_d_reckon).elim fun fd F => fo_bad F G.m_d_reckon fun _ _ _ _ _ _ us hl => match us, hl with | [_, _], _ => rfl
  d_true := (G.f_d_true).elim fun fd F => fo_bad F G.m_d_true fun _ _ _ _ _ _ us hl => match us, hl with | [_, _], _ => rfl
  d_fit := (G.f_d_fit).elim fun fd F => fo_bad F G.m_d_fit fun _ _ _ _ _ _ us hl => match us, hl with | [_, _, _], _ => rfl
  d_form := (G.f_d_form).elim fun fd F => fo_bad F G.m_d_form fun _ _ _ _ _ _ us hl => match us, hl with | [_], _ => rfl
  d_table := (G.f_d_table).elim fun fd F => fo_bad F G.m_d_table fun _ _ _ _ _ _ us hl => match us, hl with | [_], _ => rfl
  d_value_of := (G.f_d_value_of).elim fun fd F => fo_bad F G.m_d_value_of fun _ _ _ _ _ _ us hl => match us, hl with | [_, _], _ => rfl
  d_is_true := (G.f_d_is_true).elim fun fd F => fo_bad F G.m_d_is_true fun _ _ _ _ _ _ us hl => match us, hl with | [_, _], _ => rfl
  d_fits := (G.f_d_fits).elim fun fd F => fo_bad F G.m_d_fits fun _ _ _ _ _ _ us hl => match us, hl with | [_, _, _], _ => rfl
  l_cell := (G.f_l_cell).elim fun fd F => fo_bad F G.m_l_cell fun _ _ _ _ _ _ us hl => match us, hl with | [_, _], _ => rfl
  l_stream := (G.f_l_stream).elim fun fd F => fo_bad F G.m_l_stream fun _ _ _ _ _ _ us hl => match us, hl with | [_, _], _ => rfl
  l_draw := (G.f_l_draw).elim fun fd F => fo_bad F G.m_l_draw fun _ _ _ _ _ _ us hl => match us, hl with | [_, _], _ => rfl
  l_value := (G.f_l_value).elim fun fd F => fo_bad F G.m_l_value fun _ _ _ _ _ _ us hl => match us, hl with | [_, _], _ => rfl
  l_true := (G.f_l_true).elim fun fd F => fo_bad F G.m_l_true fun _ _ _ _ _ _ us hl => match us, hl with | [_, _], _ => rfl
  l_fits := (G.f_l_fits).elim fun fd F => fo_bad F G.m_l_fits fun _ _ _ _ _ _ us hl => match us, hl with | [_, _, _], _ => rfl
  l_expr := (G.f_l_expr).elim fun fd F => fo_bad F G.m_l_expr fun _ _ _ _ _ _ us hl => match us, hl with | [_, _, _], _ => rfl
  l_cond := (G.f_l_cond).elim fun fd F => fo_bad F G.m_l_cond fun _ _ _ _ _ _ us hl => match us, hl with | [_, _, _], _ => rfl
  l_read := (G.f_l_read).elim fun fd F => fo_bad F G.m_l_read fun _ _ _ _ _ _ us hl => match us, hl with | [_], _ => rfl
  d_law := (G.f_d_law).elim fun fd F => fo_bad F G.m_d_law fun _ _ _ _ _ _ us hl => match us, hl with | [_], _ => rfl
theorem fns_all (G : Fx K mg base) : ∀ d, Fns P w K mg base (3 * d) (callN d)
  | 0 => fns_bad G
  | d + 1 => fns_step G (fns_all G d)
end
/-! ### the head -/
def faL : List He.Fa := [.glo "is_int", .glo "is_number", .glo "is_there", .glo "expression_parts", .glo "condition_parts", .glo "reckon", .glo "true", .glo "fit", .glo "form", .glo "table", .glo "value_of", .glo "is_true", .glo "fits", .glo "_law_cell", .glo "_law_stream", .glo "_law_draw", .glo "_law_value", .glo "_law_true", .glo "_law_fits", .glo "_law_expr", .glo "_law_cond", .glo "_law_read", .glo "law", .glo "_law_told", .free "abs", .free "all", .free "dict", .free "int", .free "isinstance", .free "len", .free "range", .free "str", .free "tuple", .free "type", .int "MOST" 50, .glo "BadProgram", .glo "BadQuestion", .glo "BadRun", .glo "NotThere", .glo "TypeTroubles", .exc "BadProgram", .exc "BadRun", .exc "NotThere"]
def fnL : List He.DefD := [⟨("is_int", none), "is_int", "is_int", defArgs s_d_is_int, defBody s_d_is_int, defScope s_d_is_int, [], []⟩, ⟨("is_number", none), "is_number", "is_number", defArgs s_d_is_number, defBody s_d_is_number, defScope s_d_is_number, [], []⟩, ⟨("is_there", none), "is_there", "is_there", defArgs s_d_is_there, defBody s_d_is_there, defScope s_d_is_there, [], []⟩, ⟨("expression_parts", none), "expression_parts", "expression_parts", defArgs s_d_expression_parts, defBody s_d_expression_parts, defScope s_d_expression_parts, [], []⟩, ⟨("condition_parts", none), "condition_parts", "condition_parts", defArgs s_d_condition_parts, defBody s_d_condition_parts, defScope s_d_condition_parts, [], []⟩, ⟨("reckon", none), "reckon", "reckon", defArgs s_d_reckon, defBody s_d_reckon, defScope s_d_reckon, [], []⟩, ⟨("true", none), "true", "true", defArgs s_d_true, defBody s_d_true, defScope s_d_true, [], []⟩, ⟨("fit", none), "fit", "fit", defArgs s_d_fit, defBody s_d_fit, defScope s_d_fit, [], []⟩, ⟨("form", none), "form", "form", defArgs s_d_form, defBody s_d_form, defScope s_d_form, [], []⟩, ⟨("table", none), "table", "table", defArgs s_d_table, defBody s_d_table, defScope s_d_table, [], []⟩, ⟨("value_of", none), "value_of", "value_of", defArgs s_d_value_of, defBody s_d_value_of, defScope s_d_value_of, [], []⟩, ⟨("is_true", none), "is_true", "is_true", defArgs s_d_is_true, defBody s_d_is_true, defScope s_d_is_true, [], []⟩, ⟨("fits", none), "fits", "fits", defArgs s_d_fits, defBody s_d_fits, defScope s_d_fits, [], []⟩, ⟨("_law_cell", none), "_law_cell", "_law_cell", defArgs s_l_cell, defBody s_l_cell, defScope s_l_cell, [], []⟩, ⟨("_law_stream", none), "_law_stream", "_law_stream", defArgs s_l_stream, defBody s_l_stream, defScope s_l_stream, [], []⟩, ⟨("_law_draw", none), "_law_draw", "_law_draw", defArgs s_l_draw, defBody s_l_draw, defScope s_l_draw, [], []⟩, ⟨("_law_value", none), "_law_value", "_law_value", defArgs s_l_value, defBody s_l_value, defScope s_l_value, [], []⟩, ⟨("_law_true", none), "_law_true", "_law_true", defArgs s_l_true, defBody s_l_true, defScope s_l_true, [], []⟩, ⟨("_law_fits", none), "_law_fits", "_law_fits", defArgs s_l_fits, defBody s_l_fits, defScope s_l_fits, [], []⟩, ⟨("_law_expr", none), "_law_expr", "_law_expr", defArgs s_l_expr, defBody s_l_expr, defScope s_l_expr, [], []⟩, ⟨("_law_cond", none), "_law_cond", "_law_cond", defArgs s_l_cond, defBody s_l_cond, defScope s_l_cond, [], []⟩, ⟨("_law_read", none), "_law_read", "_law_read", defArgs s_l_read, defBody s_l_read, defScope s_l_read, [], []⟩, ⟨("law", none), "law", "law", defArgs s_d_law, defBody s_d_law, defScope s_d_law, [], []⟩, ⟨("_law_told", none), "_law_told", "_law_told", defArgs s_l_told, defBody s_l_told, defScope s_l_told, [], []⟩]
def tfL : List He.Defn := [("table", none), ("law", none)]
def exL (K : PySem.W.Frag) : Bool := toldOkB K && decide ((Tl K).tabs.map (·.1)).Nodup
abbrev R : PySem.W.OpenRow := PySem.W.OpenLaw.row PySem.Challenge.rw_truetotype_k02_language
abbrev hkL : PySem.W.Hook := He.hookX 4 faL fnL [] tfL exL
def obL (s : PySem.W.SharedT) : He.AlX := He.obsX 4 faL fnL [] tfL exL (HandSHeadRun.getT s)
theorem ob_eq (s : PySem.W.SharedT) : obL s = hkL.obs s.abs := He.obsX_eq (HandSHeadRun.getT_eq s)
theorem facts {w : World} {h base : Heap} {K : PySem.W.Frag} {mg : Str → Option Value} (X : K.In h) (G : h.Ns mainGlobals mg) (c : He.SaysX faL fnL [] tfL exL w h K) (htb : ∀ p ∈ tfL, LamX.TabB base mg (He.cT K p).1 (He.cT K p).2) : Fx K mg base where
  f_d_is_int := c.t.d.def_ 0 rfl
  m_d_is_int := He.glo_ok X G (c.t.d.fact 0 (f := .glo "is_int") rfl)
  f_d_is_number := c.t.d.def_ 1 rfl
  m_d_is_number := He.glo_ok X G (c.t.d.fact 1 (f := .glo "is_number") rfl)
  f_d_is_there := c.t.d.def_ 2 rfl
  m_d_is_there := He.glo_ok X G (c.t.d.fact 2 (f := .glo "is_there") rfl)
  f_d_expression_parts := c.t.d.def_ 3 rfl
  m_d_expression_parts := He.glo_ok X G (c.t.d.fact 3 (f := .glo "expression_parts") rfl)
  f_d_condition_parts := c.t.d.def_ 4 rfl
  m_d_condition_parts := He.glo_ok X G (c.t.d.fact 4 (f := .glo "condition_parts") rfl)
  f_d_reckon := c.t.d.def_ 5 rfl
  m_d_reckon := He.glo_ok X G (c.t.d.fact 5 (f := .glo "reckon") rfl)
  f_d_true := c.t.d.def_ 6 rfl
  m_d_true := He.glo_ok X G (c.t.d.fact 6 (f := .glo "true") rfl)
  f_d_fit := c.t.d.def_ 7 rfl
  m_d_fit := He.glo_ok X G (c.t.d.fact 7 (f := .glo "fit") rfl)
  f_d_form := c.t.d.def_ 8 rfl
  m_d_form := He.glo_ok X G (c.t.d.fact 8 (f := .glo "form") rfl)
  f_d_table := c.t.d.def_ 9 rfl
  m_d_table := He.glo_ok X G (c.t.d.fact 9 (f := .glo "table") rfl)
  f_d_value_of := c.t.d.def_ 10 rfl
  m_d_value_of := He.glo_ok X G (c.t.d.fact 10 (f := .glo "value_of") rfl)
  f_d_is_true := c.t.d.def_ 11 rfl
  m_d_is_true := He.glo_ok X G (c.t.d.fact 11 (f := .glo "is_true") rfl)
  f_d_fits := c.t.d.def_ 12 rfl
  m_d_fits := He.glo_ok X G (c.t.d.fact 12 (f := .glo "fits") rfl)
  f_l_cell := c.t.d.def_ 13 rfl
  m_l_cell := He.glo_ok X G (c.t.d.fact 13 (f := .glo "_law_cell") rfl)
  f_l_stream := c.t.d.def_ 14 rfl
  m_l_stream := He.glo_ok X G (c.t.d.fact 14 (f := .glo "_law_stream") rfl)
  f_l_draw := c.t.d.def_ 15 rfl
  m_l_draw := He.glo_ok X G (c.t.d.fact 15 (f := .glo "_law_draw") rfl)
  f_l_value := c.t.d.def_ 16 rfl
  m_l_value := He.glo_ok X G (c.t.d.fact 16 (f := .glo "_law_value") rfl)
  f_l_true := c.t.d.def_ 17 rfl
  m_l_true := He.glo_ok X G (c.t.d.fact 17 (f := .glo "_law_true") rfl)
  f_l_fits := c.t.d.def_ 18 rfl
  m_l_fits := He.glo_ok X G (c.t.d.fact 18 (f := .glo "_law_fits") rfl)
  f_l_expr := c.t.d.def_ 19 rfl
  m_l_expr := He.glo_ok X G (c.t.d.fact 19 (f := .glo "_law_expr") rfl)
  f_l_cond := c.t.d.def_ 20 rfl
  m_l_cond := He.glo_ok X G (c.t.d.fact 20 (f := .glo "_law_cond") rfl)
  f_l_read := c.t.d.def_ 21 rfl
  m_l_read := He.glo_ok X G (c.t.d.fact 21 (f := .glo "_law_read") rfl)
  f_d_law := c.t.d.def_ 22 rfl
  m_d_law := He.glo_ok X G (c.t.d.fact 22 (f := .glo "law") rfl)
  f_l_told := c.t.d.def_ 23 rfl
  m_l_told := He.glo_ok X G (c.t.d.fact 23 (f := .glo "_law_told") rfl)
  n_abs := He.free_ok X G (c.t.d.fact 24 (f := .free "abs") rfl)
  n_all := He.free_ok X G (c.t.d.fact 25 (f := .free "all") rfl)
  n_dict := He.free_ok X G (c.t.d.fact 26 (f := .free "dict") rfl)
  n_int := He.free_ok X G (c.t.d.fact 27 (f := .free "int") rfl)
  n_isinstance := He.free_ok X G (c.t.d.fact 28 (f := .free "isinstance") rfl)
  n_len := He.free_ok X G (c.t.d.fact 29 (f := .free "len") rfl)
  n_range := He.free_ok X G (c.t.d.fact 30 (f := .free "range") rfl)
  n_str := He.free_ok X G (c.t.d.fact 31 (f := .free "str") rfl)
  n_tuple := He.free_ok X G (c.t.d.fact 32 (f := .free "tuple") rfl)
  n_type := He.free_ok X G (c.t.d.fact 33 (f := .free "type") rfl)
  i_MOST := He.int_ok X G (c.t.d.fact 34 (f := .int "MOST" 50) rfl)
  m_BadProgram := He.glo_ok X G (c.t.d.fact 35 (f := .glo "BadProgram") rfl)
  m_BadQuestion := He.glo_ok X G (c.t.d.fact 36 (f := .glo "BadQuestion") rfl)
  m_BadRun := He.glo_ok X G (c.t.d.fact 37 (f := .glo "BadRun") rfl)
  m_NotThere := He.glo_ok X G (c.t.d.fact 38 (f := .glo "NotThere") rfl)
  m_TypeTroubles := He.glo_ok X G (c.t.d.fact 39 (f := .glo "TypeTroubles") rfl)
  x_BadProgram := c.t.d.fact 40 (f := .exc "BadProgram") rfl
  x_BadRun := c.t.d.fact 41 (f := .exc "BadRun") rfl
  x_NotThere := c.t.d.fact 42 (f := .exc "NotThere") rfl
  td := (Bool.and_eq_true_iff.mp c.more).1
  tb := fun x hx => by
    have hx2 : (x, (none : Option Str)) ∈ tfL := by
      simp only [List.mem_cons, List.not_mem_nil, or_false] at hx
      rcases hx with rfl | rfl <;> simp [tfL]
    exact htb _ hx2
  tu := of_decide_eq_true (Bool.and_eq_true_iff.mp c.more).2
def looseL : List Str := (["TypeTroubles", "BadProgram", "BadQuestion", "BadRun", "NotThere", "is_int", "is_number", "is_there", "expression_parts", "condition_parts", "reckon", "true", "fit", "form", "table", "value_of", "is_true", "fits", "_law_cell", "_law_stream", "_law_draw", "_law_value", "_law_true", "_law_fits", "_law_expr", "_law_cond", "_law_read", "_law_told", "MOST"] : List Str)
theorem run (w : World) : HandSHeadRun.RunEq R (PySem.W.view R.prog [32]) hkL obL 2400 looseL w := by
  intro os
  kernel_rfl
/-- the law by its monadic form -/
abbrev Plain (d : Nat) : Prop := ∀ ns : List Int, ns.length ≤ 63 → (∀ z ∈ ns, Builtin.Int.intBits z ≤ 1048576) → ∃ s', (callN d).d_law [.lis (ns.map MV.int)] [] = .ok (.bl true) s'
theorem holds_of {d : Nat} (hd : d ≤ 75) (hp : Plain d) (hw : R.toRowW.promised) : R.Holds := by
  refine HandSHeadRun.head_any (r := R) (q := PySem.W.view R.prog [32]) (H := hkL) (ob := obL) (M := 2400) (loose := looseL) (d := HandSHeadRun.topDef R.prog 32) (kwd := []) ob_eq
    (by kernel_rfl) (fun s => by kernel_rfl) run (by kernel_rfl) (by kernel_rfl) (by kernel_rfl) (by rfl) (by first | assumption | decide +kernel) (by decide +kernel) ⟨rfl, rfl, rfl, rfl, rfl, by decide +kernel⟩ hw ?hc
  refine walk_ofX (l := PySem.Challenge.rw_truetotype_k02_language) (n := 63) (k := 3 * d) (x := "script") (nm := "law") (T := Tl) (m := (callN d).d_law) rfl (by decide) (by kernel_rfl) (by kernel_rfl) ⟨rfl, ?_, ?_⟩ (fun K => rfl) (fun w mg h K X G c => ?_) hp
  · have h1 : callerA.depth ≤ 301 := by decide
    have h2 : recursionLimit = 1000 := by decide
    show callerA.depth + 3 * (3 * d) + 5 < recursionLimit
    omega
  · have h1 : callerA.units ≤ 60 := by decide
    have h2 : cLine = 9900 := by decide
    show callerA.units + 16 * (3 * d) + 200 < cLine
    omega
  · obtain ⟨fd, D⟩ := c.t.d.def_ 22 rfl
    have b := FunD.bindsA (ps := ([("script" : Str)] : List Str)) D fun _ _ _ _ _ _ us hl => match us, hl with | [_], _ => rfl
    refine ⟨fd, fun s u => b s [u] rfl, He.glo_ok X G (c.t.d.fact 22 (f := .glo "law") rfl), fun base hb hG htb => ?_⟩
    exact ((fns_all (P := (PySem.Challenge.rw_truetotype_k02_language).prog) (w := w) (facts (base := base) X G c htb) d).d_law).fn D
end L_k02_language

set_option Elab.async false
set_option linter.all false
set_option maxRecDepth 100000
set_option maxHeartbeats 2000000
/-! MP: reckoning with the monadic forms. -/
namespace MP
open PySem PySem.Spec PyProof.Rows L2

/-! ### nothing is reckoned behind a bind before its turn -/
theorem Res.bind_congr {α β : Type} {r r' : Res α} {f : α → Sto → Res β} (h : r = r') : r.bind f = r'.bind f := by rw [h]
theorem Res.st_congr {α : Type} {r r' : Res α} {ρ : Loc} {f : α → Sto → SRes} (h : r = r') : r.st ρ f = r'.st ρ f := by rw [h]
theorem SRes.seq_congr {r r' : SRes} {f : Loc → Sto → SRes} (h : r = r') : r.seq f = r'.seq f := by rw [h]
@[simp] theorem Res.bind_ok {α β : Type} (a : α) (s : Sto) (f : α → Sto → Res β) : (Res.ok a s).bind f = f a s := rfl
@[simp] theorem Res.bind_exc {α β : Type} (x : Exn) (s : Sto) (f : α → Sto → Res β) : (Res.exc x s : Res α).bind f = .exc x s := rfl
@[simp] theorem Res.bind_bad {α β : Type} (f : α → Sto → Res β) : (Res.bad : Res α).bind f = .bad := rfl
@[simp] theorem Res.st_ok {α : Type} (a : α) (s : Sto) (ρ : Loc) (f : α → Sto → SRes) : (Res.ok a s).st ρ f = f a s := rfl
@[simp] theorem Res.st_exc {α : Type} (x : Exn) (s : Sto) (ρ : Loc) (f : α → Sto → SRes) : (Res.exc x s : Res α).st ρ f = .exc x ρ s := rfl
@[simp] theorem Res.calm_ok {α : Type} (a : α) (s : Sto) : (Res.ok a s).calm = .ok a s := rfl
@[simp] theorem SRes.seq_nx (ρ : Loc) (s : Sto) (f : Loc → Sto → SRes) : (SRes.nx ρ s).seq f = f ρ s := rfl
@[simp] theorem SRes.seq_rt (a : MV) (s : Sto) (f : Loc → Sto → SRes) : (SRes.rt a s).seq f = .rt a s := rfl
@[simp] theorem SRes.seq_exc (x : Exn) (ρ : Loc) (s : Sto) (f : Loc → Sto → SRes) : (SRes.exc x ρ s).seq f = .exc x ρ s := rfl
@[simp] theorem SRes.seq_ite (c : Prop) [Decidable c] (a b : SRes) (f : Loc → Sto → SRes) : (if c then a else b).seq f = if c then a.seq f else b.seq f := by split <;> rfl
@[simp] theorem SRes.one_nx (ρ : Loc) (s : Sto) : (SRes.nx ρ s).one = .ok ρ s := rfl
@[simp] theorem nxOnly_nx (ρ : Loc) (s : Sto) : nxOnly (.nx ρ s) = .nx ρ s := rfl
/-! ### expressions -/
section
variable {a b c : ME} {t u : MT} {r : MA} {ρ : Loc} {s : Sto} {g g' : MV → MV → Sto → Res MV}
@[simp] theorem eVar_ap (i : Nat) : eVar i ρ s = match ρ[i]? with | some (some a) => .ok a s | _ => .bad := rfl
@[simp] theorem eC_ap (x : MV) : eC x ρ s = .ok x s := rfl
@[simp] theorem eOp_ap : eOp g a b ρ s = (a ρ s).bind fun x s => (b ρ s).bind fun y s => g x y s := rfl
@[simp] theorem eUn_ap (h : MV → Sto → Res MV) : eUn h a ρ s = (a ρ s).bind fun x s => h x s := rfl
@[simp] theorem eCall_ap (m : MF) : eCall m r ρ s = (r ρ s).bind fun xs s => m xs s := rfl
@[simp] theorem aNil_ap : aNil ρ s = .ok [] s := rfl
@[simp] theorem aCons_ap : aCons a r ρ s = (a ρ s).bind fun x s => (r ρ s).bind fun xs s => .ok (x :: xs) s := rfl
@[simp] theorem eTup_ap : eTup r ρ s = (r ρ s).bind fun xs s => .ok (.tup xs) s := rfl
@[simp] theorem eLst_ap : eLst r ρ s = (r ρ s).bind fun xs s => .ok (.ref s.length) (s ++ [.lst xs]) := rfl
@[simp] theorem eOfL_ap (m : ML) : eOfL m ρ s = (m ρ s).bind fun xs s => .ok (.ref s.length) (s ++ [.lst xs]) := rfl
@[simp] theorem eUse_ap (h : List MV → Sto → Res MV) (m : ML) : eUse h m ρ s = (m ρ s).bind h := rfl
def ifR {α : Type} (k : Bool) (x y : α) : α := match k with | true => x | false => y
@[simp] theorem ifR_t {α : Type} (x y : α) : ifR true x y = x := rfl
@[simp] theorem ifR_f {α : Type} (x y : α) : ifR false x y = y := rfl
theorem ifR_congr {α : Type} {k k' : Bool} {x y : α} (h : k = k') : ifR k x y = ifR k' x y := by rw [h]
@[simp] theorem eIf_ap : eIf t a b ρ s = (t ρ s).bind fun k s => ifR k (a ρ s) (b ρ s) := by
  unfold eIf; congr 1 <;> (funext k s; cases k <;> rfl)
@[simp] theorem tAn_ap : tAn t u ρ s = (t ρ s).bind fun k s => ifR k (u ρ s) (.ok false s) := by
  unfold tAn; congr 1 <;> (funext k s; cases k <;> rfl)
@[simp] theorem tOrr_ap : tOrr t u ρ s = (t ρ s).bind fun k s => ifR k (.ok true s) (u ρ s) := by
  unfold tOrr; congr 1 <;> (funext k s; cases k <;> rfl)
@[simp] theorem tNo_ap : tNo t ρ s = (t ρ s).bind fun k s => .ok (!k) s := rfl
def trB (o : Option Bool) (s : Sto) : Res Bool := match o with | some k => .ok k s | none => .bad
@[simp] theorem trB_some (k : Bool) : trB (some k) s = .ok k s := rfl
@[simp] theorem tTr_ap : tTr a ρ s = (a ρ s).bind fun x s => trB (truth s x) s := by
  unfold tTr; congr 1 <;> (funext x s; cases truth s x <;> rfl)
@[simp] theorem eAnd_ap : eAnd a b ρ s = (a ρ s).bind fun x s => (trB (truth s x) s).bind fun k s => ifR k (b ρ s) (.ok x s) := by
  unfold eAnd; congr 1 <;> (funext x s; rcases truth s x with _ | (_ | _) <;> rfl)
@[simp] theorem eOr_ap : eOr a b ρ s = (a ρ s).bind fun x s => (trB (truth s x) s).bind fun k s => ifR k (.ok x s) (b ρ s) := by
  unfold eOr; congr 1 <;> (funext x s; rcases truth s x with _ | (_ | _) <;> rfl)
@[simp] theorem eNot_ap : eNot a ρ s = (a ρ s).bind fun x s => (trB (truth s x) s).bind fun k s => .ok (.bl (!k)) s := by
  unfold eNot; congr 1 <;> (funext x s; rcases truth s x with _ | (_ | _) <;> rfl)
def blB (x : MV) (s : Sto) : Res Bool := match x with | .bl k => .ok k s | _ => .bad
@[simp] theorem blB_bl (k : Bool) : blB (.bl k) s = .ok k s := rfl
@[simp] theorem tB2_ap : tB2 a ρ s = (a ρ s).bind fun x s => blB x s := by
  unfold tB2; congr 1 <;> (funext x s; cases x <;> rfl)
@[simp] theorem eChain_ap : eChain g g' a b c ρ s = (a ρ s).bind fun x s => (b ρ s).bind fun y s => (g x y s).bind fun k s => (blB k s).bind fun k s => ifR k ((c ρ s).bind fun z s => g' y z s) (.ok (.bl false) s) := by
  unfold eChain
  congr 1 <;> (funext x s; congr 1 <;> (funext y s; congr 1 <;> (funext z s; cases z <;> first | rfl | (rename_i k; cases k <;> rfl))))
end
/-! ### statements -/
section
variable {a : ME} {t : MT} {r : MA} {ρ : Loc} {s : Sto} {m m' : MS}
@[simp] theorem sNil_ap : sNil ρ s = .nx ρ s := rfl
@[simp] theorem sSeq_ap : sSeq m m' ρ s = (m ρ s).seq m' := rfl
@[simp] theorem sRet_ap : sRet a ρ s = (a ρ s).st ρ fun x s => .rt x s := rfl
@[simp] theorem sRetN_ap : sRetN ρ s = .rt .non s := rfl
@[simp] theorem sExpr_ap : sExpr a ρ s = (a ρ s).st ρ fun _ s => .nx ρ s := rfl
@[simp] theorem sIf_ap : sIf t m m' ρ s = (t ρ s).st ρ fun k s => ifR k (m ρ s) (m' ρ s) := by
  unfold sIf; congr 1 <;> (funext k s; cases k <;> rfl)
@[simp] theorem sSet_ap (i : Nat) : sSet i a ρ s = (a ρ s).st ρ fun x s => .nx (ρ.set i (some x)) s := rfl
@[simp] theorem sAsg_ap (g : MG) : sAsg g a ρ s = (a ρ s).st ρ fun x s => nxOnly (g x ρ s) := rfl
@[simp] theorem gN_ap (i : Nat) (x : MV) : gN i x ρ s = .nx (ρ.set i (some x)) s := rfl
@[simp] theorem gTupM_ap (gs : MGs) (xs : List MV) : gTupM gs (.tup xs) ρ s = gs xs ρ s := rfl
@[simp] theorem gsNil_ap : gsNil [] ρ s = .nx ρ s := rfl
@[simp] theorem gsCons_ap (g : MG) (gs : MGs) (x : MV) (xs : List MV) : gsCons g gs (x :: xs) ρ s = (g x ρ s).seq fun ρ s => gs xs ρ s := rfl
@[simp] theorem sPar_ap (i j : Nat) : sPar i j r ρ s = (r ρ s).st ρ fun xs s => match xs with
  | [x, y] => .nx ((ρ.set i (some x)).set j (some y)) s
  | _ => .bad := rfl
@[simp] theorem sRaise_ap (x : Exn) : sRaise x ρ s = .exc x ρ s := rfl
def stoB (o : Option Sto) (ρ : Loc) : SRes := match o with | some s => .nx ρ s | none => .bad
@[simp] theorem stoB_some : stoB (some s) ρ = .nx ρ s := rfl
@[simp] theorem sSto_ap (f : MV → MV → MV → Sto → Option Sto) (o i : ME) : sSto f o i a ρ s = (a ρ s).st ρ fun x s => (o ρ s).st ρ fun y s => (i ρ s).st ρ fun z s => stoB (f y z x s) ρ := by
  unfold sSto; congr 1 <;> (funext x s; congr 1 <;> (funext y s; congr 1 <;> (funext z s; unfold stoB; cases f y z x s <;> rfl)))
/-! ### a def's end -/
noncomputable def SRes.fin (s : Sto) : SRes → Res MV
  | .rt a s' => MP.fin s s' a
  | .nx _ s' => MP.fin s s' .non
  | .exc x _ s' => MP.finX s s' x
  | _ => .bad
@[simp] theorem runB_ap (n : Nat) (xs : List MV) : runB n m xs s = (m (xs.map some ++ List.replicate (n - xs.length) none) s).fin s := by
  unfold runB SRes.fin; cases m (xs.map some ++ List.replicate (n - xs.length) none) s <;> rfl
@[simp] theorem fin_rt (x : MV) (s' : Sto) : (SRes.rt x s').fin s = MP.fin s s' x := rfl
@[simp] theorem fin_nx (ρ : Loc) (s' : Sto) : (SRes.nx ρ s').fin s = MP.fin s s' .non := rfl
@[simp] theorem fin_exc (x : Exn) (ρ : Loc) (s' : Sto) : (SRes.exc x ρ s').fin s = MP.finX s s' x := rfl
@[simp] theorem fin_ite (c : Prop) [Decidable c] (x y : SRes) : (if c then x else y).fin s = if c then x.fin s else y.fin s := by split <;> rfl
theorem fin_same {x : MV} (h : x.pure = true) : MP.fin s s x = .ok x s := by unfold MP.fin; rw [if_pos ⟨h, by simp⟩]
theorem fin_app {s' : Sto} {x : MV} (h : x.pure = true) : MP.fin s (s ++ s') x = .ok x s := by unfold MP.fin; rw [if_pos ⟨h, by simp⟩]
@[simp] theorem finX_same (c : String) : finX s s ⟨c, []⟩ = .exc ⟨c, []⟩ s := by unfold finX; rw [if_pos ⟨rfl, by simp⟩]
@[simp] theorem finX_app (c : String) (s' : Sto) : finX s (s ++ s') ⟨c, []⟩ = .exc ⟨c, []⟩ s := by unfold finX; rw [if_pos ⟨rfl, by simp⟩]
@[simp] theorem fin_int (i : Int) : MP.fin s s (.int i) = .ok (.int i) s := fin_same rfl
@[simp] theorem fin_bl (i : Bool) : MP.fin s s (.bl i) = .ok (.bl i) s := fin_same rfl
@[simp] theorem fin_str (i : String) : MP.fin s s (.str i) = .ok (.str i) s := fin_same rfl
@[simp] theorem fin_non : MP.fin s s .non = .ok .non s := fin_same rfl
@[simp] theorem fin_int' (i : Int) (s' : Sto) : MP.fin s (s ++ s') (.int i) = .ok (.int i) s := fin_app rfl
@[simp] theorem fin_bl' (i : Bool) (s' : Sto) : MP.fin s (s ++ s') (.bl i) = .ok (.bl i) s := fin_app rfl
@[simp] theorem fin_str' (i : String) (s' : Sto) : MP.fin s (s ++ s') (.str i) = .ok (.str i) s := fin_app rfl
@[simp] theorem fin_non' (s' : Sto) : MP.fin s (s ++ s') .non = .ok .non s := fin_app rfl
end
/-! ### operators by values -/
section
variable {s : Sto}
@[simp] theorem gI_int (f : Int → Int → MV) (i j : Int) : gI f (.int i) (.int j) s = .ok (f i j) s := rfl
theorem gIC_int {C : Int → Int → Prop} [∀ i j, Decidable (C i j)] {f : Int → Int → MV} {i j : Int} (h : C i j) : gIC C f (.int i) (.int j) s = .ok (f i j) s := by
  show (if C i j then _ else _) = _
  rw [if_pos h]
@[simp] theorem gAdd_int (i j : Int) : gAdd (.int i) (.int j) s = .ok (.int (i + j)) s := rfl
@[simp] theorem gNeg_int (i : Int) : gNeg (.int i) s = .ok (.int (-i)) s := rfl
@[simp] theorem eqD_int (i j : Int) : eqD s (.int i) (.int j) = some (i == j) := rfl
@[simp] theorem eqD_str (i j : String) : eqD s (.str i) (.str j) = some (i == j) := rfl
def eqB (o : Option Bool) (neg : Bool) (s : Sto) : Res MV := match o with | some k => .ok (.bl (if neg then !k else k)) s | none => .bad
@[simp] theorem eqB_t (k : Bool) : eqB (some k) true s = .ok (.bl (!k)) s := rfl
@[simp] theorem eqB_f (k : Bool) : eqB (some k) false s = .ok (.bl k) s := rfl
@[simp] theorem gEq_ap (x y : MV) : gEq x y s = eqB (eqD s x y) false s := by unfold gEq eqB; cases eqD s x y <;> rfl
@[simp] theorem gNe_ap (x y : MV) : gNe x y s = eqB (eqD s x y) true s := by unfold gNe eqB; cases eqD s x y <;> rfl
@[simp] theorem gIs_ap (x y : MV) : gIs x y s = eqB (isM x y) false s := by unfold gIs eqB; cases isM x y <;> rfl
@[simp] theorem gIsNot_ap (x y : MV) : gIsNot x y s = eqB (isM x y) true s := by unfold gIsNot eqB; cases isM x y <;> rfl
@[simp] theorem isM_ty (m n : String) : isM (.ty m) (.ty n) = some (decide (m = n)) := rfl
@[simp] theorem fType_int (i : Int) : fType [.int i] s = .ok (.ty "int") s := rfl
@[simp] theorem fType_str (i : String) : fType [.str i] s = .ok (.ty "str") s := rfl
@[simp] theorem fType_bl (i : Bool) : fType [.bl i] s = .ok (.ty "bool") s := rfl
@[simp] theorem fType_non : fType [.non] s = .ok (.ty "NoneType") s := rfl
@[simp] theorem fType_tup (xs : List MV) : fType [.tup xs] s = .ok (.ty "tuple") s := rfl
@[simp] theorem fInt_int (i : Int) : fInt [.int i] s = .ok (.int i) s := rfl
@[simp] theorem fAbs_int (i : Int) : fAbs [.int i] s = .ok (.int (if i < 0 then -i else i)) s := rfl
@[simp] theorem fLen_tup (xs : List MV) : fLen [.tup xs] s = .ok (.int xs.length) s := rfl
@[simp] theorem fLen_lis (xs : List MV) : fLen [.lis xs] s = .ok (.int xs.length) s := rfl
@[simp] theorem truth_tup (xs : List MV) : truth s (.tup xs) = some (!xs.isEmpty) := rfl
@[simp] theorem truth_int (i : Int) : truth s (.int i) = some (i != 0) := rfl
@[simp] theorem truth_bl (i : Bool) : truth s (.bl i) = some i := rfl
@[simp] theorem truth_non : truth s .non = some false := rfl
def atB (o : Option MV) (s : Sto) : Res MV := match o with | some x => .ok x s | none => .bad
@[simp] theorem atB_some (x : MV) : atB (some x) s = .ok x s := rfl
theorem gIx_tup {xs : List MV} {i : Int} {x : MV} (h : atI xs i = some x) : gIx (.tup xs) (.int i) s = .ok x s := by
  unfold gIx gOr gIxS; simp only [h]
theorem gIx_lis {xs : List MV} {i : Int} {x : MV} (h : atI xs i = some x) : gIx (.lis xs) (.int i) s = .ok x s := by
  unfold gIx gOr gIxS; simp only [h]
theorem gIx_lst {n : Nat} {xs : List MV} {i : Int} {x : MV} (hs : s[n]? = some (.lst xs)) (h : atI xs i = some x) : gIx (.ref n) (.int i) s = .ok x s := by
  unfold gIx gOr gIxS; simp only [hs, h]
theorem gIx_dic {n : Nat} {kvs : List (MK × MV)} {k : MV} {k' : MK} {x : MV} (hs : s[n]? = some (.dic kvs)) (hk : k.mk = some k') (h : valM kvs k' = some x) : gIx (.ref n) k s = .ok x s := by
  have e : gIxS (.ref n) k s = .bad := by
    unfold gIxS
    cases k <;> simp [MV.mk] at hk <;> simp [hs]
  unfold gIx gOr
  rw [e]
  show gIxD (.ref n) k s = _
  unfold gIxD dicAt
  simp only [hs, hk, h]
theorem atI_nat {xs : List MV} {j : Nat} {x : MV} (h : xs[j]? = some x) : atI xs (j : Int) = some x := by
  have hj := (List.getElem?_eq_some_iff.mp h).1
  unfold atI ixN
  rw [if_pos (by omega), if_pos (by omega)]
  simpa using h
@[simp] theorem at_0 (x : MV) (xs : List MV) : gIx (.tup (x :: xs)) (.int 0) s = .ok x s := gIx_tup (atI_nat (j := 0) rfl)
@[simp] theorem at_1 (x y : MV) (xs : List MV) : gIx (.tup (x :: y :: xs)) (.int 1) s = .ok y s := gIx_tup (atI_nat (j := 1) rfl)
@[simp] theorem at_2 (x y z : MV) (xs : List MV) : gIx (.tup (x :: y :: z :: xs)) (.int 2) s = .ok z s := gIx_tup (atI_nat (j := 2) rfl)
@[simp] theorem at_3 (x y z w : MV) (xs : List MV) : gIx (.tup (x :: y :: z :: w :: xs)) (.int 3) s = .ok w s := gIx_tup (atI_nat (j := 3) rfl)
/-- in, among flat values -/
theorem gIn_tup {neg : Bool} {x : MV} {xs : List MV} (h : (x.flat && xs.all MV.flat) = true) : gIn neg x (.tup xs) s = .ok (.bl (if neg then !(xs.any (eqF · x)) else xs.any (eqF · x))) s := by
  unfold gIn gOr gInS inM seqAtM
  simp only [h, if_true]
@[simp] theorem gIn_str2 (x a b : String) : gIn false (.str x) (.tup [.str a, .str b]) s = .ok (.bl (a == x || b == x)) s := by
  rw [gIn_tup rfl]; simp [eqF]
@[simp] theorem gIn_str4 (x a b c d : String) : gIn false (.str x) (.tup [.str a, .str b, .str c, .str d]) s = .ok (.bl (a == x || (b == x || (c == x || d == x)))) s := by
  rw [gIn_tup rfl]; simp [eqF]
end
end MP
namespace MP
open PySem PySem.Spec PyProof.Rows L2
@[simp] theorem ifR_ok {α : Type} (k : Bool) (a b : α) (s : Sto) : ifR k (Res.ok a s) (.ok b s) = .ok (ifR k a b) s := by cases k <;> rfl
@[simp] theorem ifR_bl (k a b : Bool) : ifR k (MV.bl a) (.bl b) = .bl (ifR k a b) := by cases k <;> rfl
@[simp] theorem ifR_false (k a : Bool) : ifR k a false = (k && a) := by cases k <;> rfl
@[simp] theorem ifR_true (k b : Bool) : ifR k true b = (k || b) := by cases k <;> rfl
@[simp] theorem calm_bad {α : Type} : (Res.bad : Res α).calm = .bad := rfl
/-! ### walks, generators, comprehensions -/
def seqB (x : MV) (s : Sto) : Res Src := match x with
  | .tup xs => .ok ⟨xs, []⟩ s
  | .lis xs => .ok ⟨xs, []⟩ s
  | .ref n => match s[n]? with
    | some (.lst xs) => .ok ⟨xs, [(n, xs)]⟩ s
    | _ => .bad
  | _ => .bad
@[simp] theorem seqB_tup (xs : List MV) (s : Sto) : seqB (.tup xs) s = .ok ⟨xs, []⟩ s := rfl
theorem seqB_ref {n : Nat} {xs : List MV} {s : Sto} (h : s[n]? = some (.lst xs)) : seqB (.ref n) s = .ok ⟨xs, [(n, xs)]⟩ s := by unfold seqB; simp only [h]
@[simp] theorem iSeq_ap (m : ME) (ρ : Loc) (s : Sto) : iSeq m ρ s = (m ρ s).bind seqB := rfl
@[simp] theorem iUse_ap (m : ML) (ρ : Loc) (s : Sto) : iUse m ρ s = (m ρ s).bind fun xs s => .ok ⟨xs, []⟩ s := rfl
@[simp] theorem liveOk_nil' (s : Sto) : liveOk [] s := liveOk_nil
@[simp] theorem liveOk_cons (n : Nat) (xs : List MV) (l : List (Nat × List MV)) (s : Sto) : liveOk ((n, xs) :: l) s ↔ s[n]? = some (.lst xs) ∧ liveOk l s := by
  constructor
  · intro h; exact ⟨h (n, xs) List.mem_cons_self, fun p hp => h p (List.mem_cons_of_mem _ hp)⟩
  · intro ⟨h1, h2⟩ p hp
    rcases List.mem_cons.mp hp with rfl | hp
    · exact h1
    · exact h2 p hp
@[simp] theorem tYesM_ap (ρ : Loc) (s : Sto) : tYesM ρ s = .ok true s := rfl
def stB {γ : Type} (o : Option (γ ⊕ MV)) (s : Sto) (k : γ → Res MV) : Res MV := match o with
  | some (.inl c) => k c
  | some (.inr r) => .ok r s
  | none => .bad
theorem stB_congr {γ : Type} {o o' : Option (γ ⊕ MV)} {s : Sto} {k : γ → Res MV} (h : o = o') : stB o s k = stB o' s k := by rw [h]
@[simp] theorem stB_inl {γ : Type} (c : γ) (s : Sto) (k : γ → Res MV) : stB (some (.inl c)) s k = k c := rfl
@[simp] theorem stB_inr {γ : Type} (r : MV) (s : Sto) (k : γ → Res MV) : stB (some (.inr r)) s k = .ok r s := rfl
section
variable {γ : Type} {live : List (Nat × List MV)} {g : MG} {t : MT} {e : ME} {ρ : Loc} {step : γ → MV → Sto → Option (γ ⊕ MV)} {fn : γ → Sto → Res MV} {s : Sto} {b : MS}
@[simp] theorem genF_nil0 (c : γ) : genF [] g t e ρ step fn [] c s = fn c s := by unfold genF; rw [if_pos liveOk_nil]
@[simp] theorem genF_cons0 (x : MV) (xs : List MV) (c : γ) : genF [] g t e ρ step fn (x :: xs) c s = (g x ρ s).one.bind fun ρ1 s1 => (t ρ1 s1).calm.bind fun k s2 => ifR k ((e ρ1 s2).calm.bind fun y s3 => stB (step c y s3) s3 fun c' => genF [] g t e ρ step fn xs c' s3) (genF [] g t e ρ step fn xs c s2) := by
  conv => lhs; unfold genF
  rw [if_pos liveOk_nil]
  congr 1 <;> (funext ρ1 s1; congr 1 <;> (funext k s2; cases k <;> first | rfl | (show _ = _; simp only [ifR_t]; congr 1 <;> (funext y s3; rcases step c y s3 with _ | (_ | _) <;> rfl))))
@[simp] theorem eGen_ap (c0 : γ) (mi : MI) (vs : List Nat) : eGen step fn c0 mi vs g t e ρ s = (mi ρ s).bind fun c s => genF c.live g t e (wipeM ρ vs) step fn c.items c0 s := rfl
theorem stepAA_of {stop k : Bool} {u : Unit} {y : MV} (h : truth s y = some k) : stepAA stop u y s = if k = stop then some (.inr (.bl stop)) else some (.inl ()) := by unfold stepAA; rw [h]
@[simp] theorem stepAA_bl (stop k : Bool) (u : Unit) : stepAA stop u (.bl k) s = if k = stop then some (.inr (.bl stop)) else some (.inl ()) := rfl
@[simp] theorem finAA_ap (stop : Bool) (u : Unit) : finAA stop u s = .ok (.bl (!stop)) s := rfl
theorem compL_nil (acc : List MV) (h : liveOk live s) : compL live g t e ρ [] acc s = .ok acc s := by unfold compL; rw [if_pos h]
theorem compL_cons (x : MV) (xs acc : List MV) (h : liveOk live s) : compL live g t e ρ (x :: xs) acc s = (g x ρ s).one.bind fun ρ1 s1 => (t ρ1 s1).calm.bind fun k s2 => ifR k ((e ρ1 s2).calm.bind fun y s3 => compL live g t e ρ xs (acc ++ [y]) s3) (compL live g t e ρ xs acc s2) := by
  conv => lhs; unfold compL
  rw [if_pos h]
  congr 1 <;> (funext ρ1 s1; congr 1 <;> (funext k s2; cases k <;> rfl))
theorem lComp_ap {mi : MI} {vs : List Nat} {c : Src} {s1 : Sto} (h : mi ρ s = .ok c s1) (hl : c.items.length ≤ 16777216) : lComp mi vs g t e ρ s = compL c.live g t e (wipeM ρ vs) c.items [] s1 := by
  unfold lComp
  rw [h]
  show (if _ then _ else _) = _
  rw [if_pos (Nat.le_trans hl (by decide))]
theorem forL_nil (h : liveOk live s) : forL live g b [] ρ s = .nx ρ s := by unfold forL; rw [if_pos h]
theorem forL_nx {x : MV} {xs : List MV} {ρ1 ρ2 : Loc} {s1 s2 : Sto} (h : liveOk live s) (h1 : g x ρ s = .nx ρ1 s1) (h2 : b ρ1 s1 = .nx ρ2 s2) : forL live g b (x :: xs) ρ s = forL live g b xs ρ2 s2 := by
  conv => lhs; unfold forL
  rw [if_pos h, h1]
  simp only [nxOnly_nx, h2]
/-- a loop by an invariant -/
theorem for_inv (I : Loc → Sto → Prop) (hb : ∀ x ρ s, I ρ s → ∃ ρ1 s1, g x ρ s = .nx ρ1 s1 ∧ ∃ ρ2 s2, b ρ1 s1 = .nx ρ2 s2 ∧ I ρ2 s2) : ∀ (xs : List MV) (ρ : Loc) (s : Sto), I ρ s → ∃ ρ' s', forL [] g b xs ρ s = .nx ρ' s' ∧ I ρ' s'
  | [], ρ, s, h => ⟨ρ, s, forL_nil liveOk_nil, h⟩
  | x :: xs, ρ, s, h => by
    obtain ⟨ρ1, s1, h1, ρ2, s2, h2, h3⟩ := hb x ρ s h
    rw [forL_nx liveOk_nil h1 h2]
    exact for_inv I hb xs ρ2 s2 h3
@[simp] theorem wipeM_nil (ρ : Loc) : wipeM ρ [] = ρ := rfl
@[simp] theorem wipeM_cons (ρ : Loc) (v : Nat) (vs : List Nat) : wipeM ρ (v :: vs) = (wipeM ρ vs).set v none := rfl
theorem fin_ref {s' : Sto} {m : Nat} (h : s.length ≤ m) : MP.fin s s' (.ref m) = .ok (.ref m) s' := by
  unfold MP.fin
  rw [if_neg (by simp [MV.pure]), if_neg (by simp [MV.low]; intro z; omega)]
end
end MP

set_option Elab.async false
set_option linter.all false
set_option maxRecDepth 100000
set_option maxHeartbeats 4000000
namespace L_k02_language
open PySem PySem.Spec PyProof.Rows L2 MP
inductive Ex where
  | n (i : Int) | x (s : String) | add (a b : Ex) | sub (a b : Ex) | mul (i : Int) (a : Ex) | div (a : Ex) (i : Int) | mod (a : Ex) (i : Int)
def Ex.emb : Ex → MV
  | .n i => .tup [.str "n", .int i]
  | .x s => .tup [.str "x", .str s]
  | .add a b => .tup [.str "+", a.emb, b.emb]
  | .sub a b => .tup [.str "-", a.emb, b.emb]
  | .mul i a => .tup [.str "*", .int i, a.emb]
  | .div a i => .tup [.str "/", a.emb, .int i]
  | .mod a i => .tup [.str "mod", a.emb, .int i]
def Ex.h : Ex → Nat
  | .n _ => 0
  | .x _ => 0
  | .add a b => max a.h b.h + 1
  | .sub a b => max a.h b.h + 1
  | .mul _ a => a.h + 1
  | .div a _ => a.h + 1
  | .mod a _ => a.h + 1
/-- the numbers in it are small -/
def Ex.ok : Ex → Prop
  | .n i => -50 ≤ i ∧ i ≤ 50
  | .x _ => True
  | .add a b => a.ok ∧ b.ok
  | .sub a b => a.ok ∧ b.ok
  | .mul i a => (-50 ≤ i ∧ i ≤ 50) ∧ a.ok
  | .div a i => a.ok ∧ 1 ≤ i ∧ i ≤ 50
  | .mod a i => a.ok ∧ 1 ≤ i ∧ i ≤ 50
def Ex.names : Ex → List String
  | .n _ => []
  | .x s => [s]
  | .add a b => a.names ++ b.names
  | .sub a b => a.names ++ b.names
  | .mul _ a => a.names
  | .div a _ => a.names
  | .mod a _ => a.names
def Ex.ev (f : String → Int) : Ex → Int
  | .n i => i
  | .x s => f s
  | .add a b => a.ev f + b.ev f
  | .sub a b => a.ev f - b.ev f
  | .mul i a => i * a.ev f
  | .div a i => a.ev f / i
  | .mod a i => a.ev f % i
def Ex.size : Ex → Int
  | .n _ => 1
  | .x _ => 1
  | .add a b => a.size + b.size + 1
  | .sub a b => a.size + b.size + 1
  | .mul _ a => a.size + 1
  | .div a _ => a.size + 1
  | .mod a _ => a.size + 1
theorem Ex.size_pos (e : Ex) : 0 < e.size := by
  induction e <;> simp only [Ex.size] <;> omega
theorem bne_pos {i : Int} (h : 0 < i) : (i != 0) = true := by simp; omega
theorem is_int_int {D : Nat} (hD : 0 < D) (i : Int) (s : Sto) : (callN D).d_is_int [.int i] s = .ok (.bl true) s := by
  obtain ⟨D, rfl⟩ := Nat.exists_eq_add_of_lt hD
  simp [callN, step, b_d_is_int]
theorem is_number_int {D : Nat} (hD : 1 < D) (i : Int) (s : Sto) : (callN D).d_is_number [.int i] s = .ok (.bl (decide (-50 ≤ i ∧ i ≤ 50))) s := by
  obtain ⟨D, rfl⟩ := Nat.exists_eq_add_of_lt hD
  have h := is_int_int (D := 1 + D) (by omega) i s
  simp [callN, step, b_d_is_number, h]
theorem mul_ok {i j : Int} {s : Sto} (h : -50 ≤ i ∧ i ≤ 50) : gMul (.int i) (.int j) s = .ok (.int (i * j)) s := gIC_int (.inl ⟨by omega, by omega⟩)
theorem div_ok {i j : Int} {s : Sto} (h : 1 ≤ j ∧ j ≤ 50) : gDiv (.int i) (.int j) s = .ok (.int (i / j)) s := gIC_int ⟨by omega, by omega⟩
theorem mod_ok {i j : Int} {s : Sto} (h : 1 ≤ j) : gMod (.int i) (.int j) s = .ok (.int (i % j)) s := gIC_int (by omega)
/-- a dict of names and numbers -/
def Env (kvs : List (MK × MV)) (f : String → Int) (ns : List String) : Prop := ∀ x ∈ ns, valM kvs (.s x) = some (.int (f x))
theorem Env.l {kvs : List (MK × MV)} {f : String → Int} {a b : List String} (h : Env kvs f (a ++ b)) : Env kvs f a := fun x hx => h x (by simp [hx])
theorem Env.r {kvs : List (MK × MV)} {f : String → Int} {a b : List String} (h : Env kvs f (a ++ b)) : Env kvs f b := fun x hx => h x (by simp [hx])
theorem value_ok {s : Sto} {n : Nat} {kvs : List (MK × MV)} {f : String → Int} (hs : s[n]? = some (.dic kvs)) (e : Ex) : ∀ D, e.h < D → e.ok → Env kvs f e.names → (callN D).l_value [e.emb, .ref n] s = .ok (.int (e.ev f)) s := by
  induction e <;> intro D hD ho he <;> (cases D with | zero => omega | succ D => ?_) <;> simp only [Ex.h, Ex.ok, Ex.names] at hD ho he
  case n i => simp [callN, step, b_l_value, Ex.emb, Ex.ev]
  case x z => simp [callN, step, b_l_value, Ex.emb, Ex.ev, gIx_dic (k := .str z) hs rfl (he z (by simp))]
  case add a b iha ihb => simp [callN, step, b_l_value, Ex.emb, Ex.ev, iha D (by omega) ho.1 he.l, ihb D (by omega) ho.2 he.r]
  case sub a b iha ihb => simp [callN, step, b_l_value, Ex.emb, Ex.ev, iha D (by omega) ho.1 he.l, ihb D (by omega) ho.2 he.r]
  case mul i a ih => simp [callN, step, b_l_value, Ex.emb, Ex.ev, ih D (by omega) ho.2 he, mul_ok ho.1]
  case div a i ih => simp [callN, step, b_l_value, Ex.emb, Ex.ev, ih D (by omega) ho.1 he, div_ok ho.2]
  case mod a i ih => simp [callN, step, b_l_value, Ex.emb, Ex.ev, ih D (by omega) ho.1 he, mod_ok ho.2.1]
theorem gIn_dic {s : Sto} {n : Nat} {kvs : List (MK × MV)} (hs : s[n]? = some (.dic kvs)) (neg : Bool) (z : String) : gIn neg (.str z) (.ref n) s = .ok (.bl (if neg then !(valM kvs (.s z)).isSome else (valM kvs (.s z)).isSome)) s := by
  have e : gInS neg (.str z) (.ref n) s = .bad := by
    unfold gInS inM seqAtM
    simp [hs]
  unfold gIn gOr
  rw [e]
  show gInD neg (.str z) (.ref n) s = _
  unfold gInD dicAt
  simp only [hs, MV.mk]
theorem reckon_ok {s : Sto} {n : Nat} {kvs : List (MK × MV)} {f : String → Int} (hs : s[n]? = some (.dic kvs)) (e : Ex) : ∀ D, e.h < D → e.ok → Env kvs f e.names → (callN D).d_reckon [e.emb, .ref n] s = .ok (.int (e.ev f)) s := by
  induction e <;> intro D hD ho he <;> (cases D with | zero => omega | succ D => ?_) <;> simp only [Ex.h, Ex.ok, Ex.names] at hD ho he
  case n i => simp [callN, step, b_d_reckon, Ex.emb, Ex.ev]
  case x z => simp [callN, step, b_d_reckon, Ex.emb, Ex.ev, gIx_dic (k := .str z) hs rfl (he z (by simp)), gIn_dic hs, he z (by simp)]
  case add a b iha ihb => simp [callN, step, b_d_reckon, Ex.emb, Ex.ev, iha D (by omega) ho.1 he.l, ihb D (by omega) ho.2 he.r]
  case sub a b iha ihb => simp [callN, step, b_d_reckon, Ex.emb, Ex.ev, iha D (by omega) ho.1 he.l, ihb D (by omega) ho.2 he.r]
  case mul i a ih => simp [callN, step, b_d_reckon, Ex.emb, Ex.ev, ih D (by omega) ho.2 he, mul_ok ho.1]
  case div a i ih => simp [callN, step, b_d_reckon, Ex.emb, Ex.ev, ih D (by omega) ho.1 he, div_ok ho.2]
  case mod a i ih => simp [callN, step, b_d_reckon, Ex.emb, Ex.ev, ih D (by omega) ho.1 he, mod_ok ho.2.1]
theorem reckon_d {s : Sto} {n : Nat} {kvs : List (MK × MV)} {f : String → Int} (hs : s[n]? = some (.dic kvs)) (hd : valM kvs (.s "d") = none) (e : Ex) (D : Nat) (hD : e.h + 1 < D) (ho : e.ok) (he : Env kvs f e.names) :
    (callN D).d_reckon [.tup [.str "+", e.emb, .tup [.str "x", .str "d"]], .ref n] s = .exc ⟨"NotThere", []⟩ s := by
  cases D with
  | zero => omega
  | succ D =>
    have h2 : (callN D).d_reckon [.tup [.str "x", .str "d"], .ref n] s = .exc ⟨"NotThere", []⟩ s := by
      cases D with
      | zero => omega
      | succ D => simp [callN, step, b_d_reckon, gIn_dic hs, hd]
    simp [callN, step, b_d_reckon, reckon_ok hs e D (by omega) ho he, h2]
theorem eparts_ok {s : Sto} (e : Ex) : ∀ D, e.h + 2 < D → e.ok → (callN D).d_expression_parts [e.emb, .non] s = .ok (.int e.size) s := by
  induction e <;> intro D hD ho <;> (cases D with | zero => omega | succ D => ?_) <;> simp only [Ex.h, Ex.ok] at hD ho
  case n i => simp [callN, step, b_d_expression_parts, Ex.emb, Ex.size, is_number_int (D := D) (by omega) i, ho]
  case x z =>
    have h : (callN D).d_is_there [.str z, .non] s = .ok (.bl true) s := by
      cases D with
      | zero => omega
      | succ D => simp [callN, step, b_d_is_there, isM]
    simp [callN, step, b_d_expression_parts, Ex.emb, Ex.size, h]
  case add a b iha ihb =>
    have p := a.size_pos; have q := b.size_pos
    simp [callN, step, b_d_expression_parts, Ex.emb, Ex.size, iha D (by omega) ho.1, ihb D (by omega) ho.2, bne_pos a.size_pos, bne_pos b.size_pos]
  case sub a b iha ihb =>
    have p := a.size_pos; have q := b.size_pos
    simp [callN, step, b_d_expression_parts, Ex.emb, Ex.size, iha D (by omega) ho.1, ihb D (by omega) ho.2, bne_pos a.size_pos, bne_pos b.size_pos]
  case mul i a ih =>
    have p := a.size_pos
    simp [callN, step, b_d_expression_parts, Ex.emb, Ex.size, ih D (by omega) ho.2, is_number_int (D := D) (by omega) i, ho.1, bne_pos a.size_pos]
  case div a i ih =>
    have p := a.size_pos
    simp [callN, step, b_d_expression_parts, Ex.emb, Ex.size, ih D (by omega) ho.1, is_number_int (D := D) (by omega) i, show -50 ≤ i ∧ i ≤ 50 by omega, ho.2.1, bne_pos a.size_pos]
  case mod a i ih =>
    have p := a.size_pos
    simp [callN, step, b_d_expression_parts, Ex.emb, Ex.size, ih D (by omega) ho.1, is_number_int (D := D) (by omega) i, show -50 ≤ i ∧ i ≤ 50 by omega, ho.2.1, bne_pos a.size_pos]

/-! ### conditions -/
inductive Cop where | lt | le | eq | ne
def Cop.str : Cop → String | .lt => "<" | .le => "<=" | .eq => "=" | .ne => "!="
def Cop.ev : Cop → Int → Int → Bool | .lt, i, j => decide (i < j) | .le, i, j => decide (i ≤ j) | .eq, i, j => i == j | .ne, i, j => !(i == j)
inductive Cd where
  | no (a : Cd) | an (a b : Cd) | orr (a b : Cd) | cmp (o : Cop) (a b : Ex)
def Cd.emb : Cd → MV
  | .no a => .tup [.str "not", a.emb]
  | .an a b => .tup [.str "and", a.emb, b.emb]
  | .orr a b => .tup [.str "or", a.emb, b.emb]
  | .cmp o a b => .tup [.str o.str, a.emb, b.emb]
def Cd.h : Cd → Nat
  | .no a => a.h + 1
  | .an a b => max a.h b.h + 1
  | .orr a b => max a.h b.h + 1
  | .cmp _ a b => max a.h b.h + 1
def Cd.ok : Cd → Prop
  | .no a => a.ok
  | .an a b => a.ok ∧ b.ok
  | .orr a b => a.ok ∧ b.ok
  | .cmp _ a b => a.ok ∧ b.ok
def Cd.names : Cd → List String
  | .no a => a.names
  | .an a b => a.names ++ b.names
  | .orr a b => a.names ++ b.names
  | .cmp _ a b => a.names ++ b.names
def Cd.ev (f : String → Int) : Cd → Bool
  | .no a => !a.ev f
  | .an a b => a.ev f && b.ev f
  | .orr a b => a.ev f || b.ev f
  | .cmp o a b => o.ev (a.ev f) (b.ev f)
def Cd.size : Cd → Int
  | .no a => a.size + 1
  | .an a b => a.size + b.size + 1
  | .orr a b => a.size + b.size + 1
  | .cmp _ a b => a.size + b.size + 1
theorem Cd.size_pos (e : Cd) : 0 < e.size := by
  induction e <;> simp only [Cd.size]
  case no a ih => omega
  case an a b h1 h2 => omega
  case orr a b h1 h2 => omega
  case cmp o a b => have := a.size_pos; have := b.size_pos; omega
theorem cparts_ok {s : Sto} (e : Cd) : ∀ D, e.h + 2 < D → e.ok → (callN D).d_condition_parts [e.emb, .non] s = .ok (.int e.size) s := by
  induction e <;> intro D hD ho <;> (cases D with | zero => omega | succ D => ?_) <;> simp only [Cd.h, Cd.ok] at hD ho
  case no a ih => simp [callN, step, b_d_condition_parts, Cd.emb, Cd.size, ih D (by omega) ho, bne_pos a.size_pos]
  case an a b iha ihb => simp [callN, step, b_d_condition_parts, Cd.emb, Cd.size, iha D (by omega) ho.1, ihb D (by omega) ho.2, bne_pos a.size_pos, bne_pos b.size_pos]
  case orr a b iha ihb => simp [callN, step, b_d_condition_parts, Cd.emb, Cd.size, iha D (by omega) ho.1, ihb D (by omega) ho.2, bne_pos a.size_pos, bne_pos b.size_pos]
  case cmp o a b =>
    have ha := eparts_ok (s := s) a D (by omega) ho.1
    have hb := eparts_ok (s := s) b D (by omega) ho.2
    cases o <;> simp [callN, step, b_d_condition_parts, Cd.emb, Cd.size, Cop.str, ha, hb, bne_pos a.size_pos, bne_pos b.size_pos]
theorem ltrue_ok {s : Sto} {n : Nat} {kvs : List (MK × MV)} {f : String → Int} (hs : s[n]? = some (.dic kvs)) (e : Cd) : ∀ D, e.h < D → e.ok → Env kvs f e.names → (callN D).l_true [e.emb, .ref n] s = .ok (.bl (e.ev f)) s := by
  induction e <;> intro D hD ho he <;> (cases D with | zero => omega | succ D => ?_) <;> simp only [Cd.h, Cd.ok, Cd.names] at hD ho he
  case no a ih => simp [callN, step, b_l_true, Cd.emb, Cd.ev, ih D (by omega) ho he]
  case an a b iha ihb => cases h : a.ev f <;> simp [callN, step, b_l_true, Cd.emb, Cd.ev, iha D (by omega) ho.1 he.l, ihb D (by omega) ho.2 he.r, h]
  case orr a b iha ihb => cases h : a.ev f <;> simp [callN, step, b_l_true, Cd.emb, Cd.ev, iha D (by omega) ho.1 he.l, ihb D (by omega) ho.2 he.r, h]
  case cmp o a b =>
    have ha := value_ok hs a D (by omega) ho.1 he.l
    have hb := value_ok hs b D (by omega) ho.2 he.r
    cases o <;> simp [callN, step, b_l_true, Cd.emb, Cd.ev, Cop.str, Cop.ev, ha, hb]
theorem dtrue_ok {s : Sto} {n : Nat} {kvs : List (MK × MV)} {f : String → Int} (hs : s[n]? = some (.dic kvs)) (e : Cd) : ∀ D, e.h < D → e.ok → Env kvs f e.names → (callN D).d_true [e.emb, .ref n] s = .ok (.bl (e.ev f)) s := by
  induction e <;> intro D hD ho he <;> (cases D with | zero => omega | succ D => ?_) <;> simp only [Cd.h, Cd.ok, Cd.names] at hD ho he
  case no a ih => simp [callN, step, b_d_true, Cd.emb, Cd.ev, ih D (by omega) ho he]
  case an a b iha ihb => cases h : a.ev f <;> simp [callN, step, b_d_true, Cd.emb, Cd.ev, iha D (by omega) ho.1 he.l, ihb D (by omega) ho.2 he.r, h]
  case orr a b iha ihb => cases h : a.ev f <;> simp [callN, step, b_d_true, Cd.emb, Cd.ev, iha D (by omega) ho.1 he.l, ihb D (by omega) ho.2 he.r, h]
  case cmp o a b =>
    have ha := reckon_ok hs a D (by omega) ho.1 he.l
    have hb := reckon_ok hs b D (by omega) ho.2 he.r
    have ix : ∀ (kvs : List (MK × MV)) (k : String) (x : MV), valM kvs (.s k) = some x → gIx (.ref s.length) (.str k) (s ++ [.dic kvs]) = .ok x (s ++ [.dic kvs]) := fun kvs k x h => gIx_dic (k := .str k) (by simp) rfl h
    cases o <;> simp [callN, step, b_d_true, Cd.emb, Cd.ev, Cop.str, Cop.ev, ha, hb, eDisp, pairsM, MV.mk, mergeM, putM, ix, valM]
end L_k02_language

set_option Elab.async false
set_option linter.all false
set_option maxRecDepth 100000
set_option maxHeartbeats 4000000
namespace MP
open PySem PySem.Spec PyProof.Rows L2
@[simp] theorem isM_non (x : MV) : isM x .non = some (match x with | .non => true | _ => false) := rfl
@[simp] theorem isM_bl (x : MV) (k : Bool) : isM x (.bl k) = some (match x with | .bl j => j == k | _ => false) := rfl
theorem setM_dic {n : Nat} {kvs : List (MK × MV)} {s : Sto} {z : String} {x : MV} (hs : s[n]? = some (.dic kvs)) (hl : kvs.length ≤ 1000000) : setM (.ref n) (.str z) x s = some (s.set n (.dic (putM kvs (.s z) x))) := by
  have e : setL (.ref n) (.str z) x s = none := rfl
  unfold setM
  rw [e]
  show setD _ _ _ _ = _
  unfold setD
  simp only [MV.mk, hs]
  rw [if_pos hl]
theorem setM_lst {n : Nat} {xs : List MV} {s : Sto} {i : Int} {j : Nat} {x : MV} (hs : s[n]? = some (.lst xs)) (hi : ixN xs.length i = some j) : setM (.ref n) (.int i) x s = some (s.set n (.lst (xs.set j x))) := by
  unfold setM setL
  simp only [hs, hi, Option.map_some]
@[simp] theorem set_end (s : Sto) (c c' : Cell) : (s ++ [c]).set s.length c' = s ++ [c'] := by
  rw [List.set_append_right _ _ (Nat.le_refl _)]
  simp
def toldR (rd : MF) : Res MV → Res MV
  | .ok v s1 => (rd [v] s1).calm.bind fun r s2 => .ok (.tup [.int 0, r]) s2
  | .exc x s1 => match toldM x.cls, x.fs with
    | some r, [] => .ok (.tup [.int 1, .str r]) s1
    | _, _ => .bad
  | .bad => .bad
@[simp] theorem eTold_ap (rd : MF) (mb : ME) (ρ : Loc) (s : Sto) : eTold rd mb ρ s = toldR rd (mb ρ s) := by
  unfold eTold toldR
  cases mb ρ s <;> rfl
@[simp] theorem toldR_ok (rd : MF) (v : MV) (s1 : Sto) : toldR rd (.ok v s1) = (rd [v] s1).calm.bind fun r s2 => .ok (.tup [.int 0, r]) s2 := rfl
@[simp] theorem told_there (rd : MF) (s1 : Sto) : toldR rd (.exc ⟨"NotThere", []⟩ s1) = .ok (.tup [.int 1, .str "there"]) s1 := rfl
@[simp] theorem told_run (rd : MF) (s1 : Sto) : toldR rd (.exc ⟨"BadRun", []⟩ s1) = .ok (.tup [.int 1, .str "run"]) s1 := rfl
@[simp] theorem told_program (rd : MF) (s1 : Sto) : toldR rd (.exc ⟨"BadProgram", []⟩ s1) = .ok (.tup [.int 1, .str "program"]) s1 := rfl
@[simp] theorem told_question (rd : MF) (s1 : Sto) : toldR rd (.exc ⟨"BadQuestion", []⟩ s1) = .ok (.tup [.int 1, .str "question"]) s1 := rfl
@[simp] theorem isi_int (i : Int) (s : Sto) : fIsi [.int i, .ty "int"] s = .ok (.bl true) s := rfl
/-- a pair told is the pair wanted -/
@[simp] theorem eqD_int2 (s : Sto) (a b c d : Int) : eqD s (.tup [.int a, .int b]) (.tup [.int c, .int d]) = some (a == c && (b == d && true)) := rfl
@[simp] theorem eqD_bl2 (s : Sto) (a c : Int) (b d : Bool) : eqD s (.tup [.int a, .bl b]) (.tup [.int c, .bl d]) = some (a == c && (b == d && true)) := rfl
@[simp] theorem eqD_there (s : Sto) : eqD s (.tup [.int 1, .str "there"]) (.tup [.int 1, .str "there"]) = some true := by
  show (if SeqAt.shaped _ && SeqAt.shaped _ then _ else _) = _
  rw [if_pos (by decide +kernel)]
  decide +kernel
end MP
namespace L_k02_language
open PySem PySem.Spec PyProof.Rows L2 MP
def tbl (i j k : Int) : List (MK × MV) := [(.s "a", .int i), (.s "b", .int j), (.s "c", .int k)]
def tld (i j k : Int) : MV := .tup [.tup [.str "a", .int i], .tup [.str "b", .int j], .tup [.str "c", .int k]]
def env3 (i j k : Int) (x : String) : Int := if x = "a" then i else if x = "b" then j else k
theorem env_tbl {i j k : Int} {ns : List String} (h : ∀ x ∈ ns, x = "a" ∨ x = "b" ∨ x = "c") : Env (tbl i j k) (env3 i j k) ns := by
  intro x hx
  rcases h x hx with rfl | rfl | rfl <;> simp [valM, tbl, env3]
def env4 (i j k v : Int) (x : String) : Int := if x = "v" then v else env3 i j k x
theorem env_tbl4 {i j k v : Int} {ns : List String} (h : ∀ x ∈ ns, x = "v" ∨ x = "a" ∨ x = "b" ∨ x = "c") : Env (putM (tbl i j k) (.s "v") (.int v)) (env4 i j k v) ns := by
  intro x hx
  rcases h x hx with rfl | rfl | rfl | rfl <;> simp [valM, tbl, env3, env4, putM]
theorem read_int {D : Nat} (hD : 0 < D) (i : Int) (s : Sto) : (callN D).l_read [.int i] s = .ok (.int i) s := by
  obtain ⟨D, rfl⟩ := Nat.exists_eq_add_of_lt hD
  simp [callN, step, b_l_read]
theorem read_bl {D : Nat} (hD : 0 < D) (i : Bool) (s : Sto) : (callN D).l_read [.bl i] s = .ok (.bl i) s := by
  obtain ⟨D, rfl⟩ := Nat.exists_eq_add_of_lt hD
  cases i <;> simp [callN, step, b_l_read]
theorem form_ok {D : Nat} (hD : 0 < D) (s : Sto) : (callN D).d_form [.bl true] s = .ok .non s := by
  obtain ⟨D, rfl⟩ := Nat.exists_eq_add_of_lt hD
  simp [callN, step, b_d_form]
theorem table_ok {D : Nat} (hD : 1 < D) (i j k : Int) (s : Sto) : (callN D).d_table [tld i j k] s = .ok (.ref (s.length + 1)) (s ++ [.dic (tbl i j k), .dic (tbl i j k)]) := by
  obtain ⟨D, rfl⟩ := Nat.exists_eq_add_of_lt hD
  have h := fun i s => is_int_int (D := 1 + D) (by omega) i s
  have hd : ∀ s, dictM [tld i j k] s = .ok (.ref s.length) (s ++ [.dic (tbl i j k)]) := fun s => by
    simp [dictM, f1, tld, asPairs, MV.mk, mergeM, putM, tbl]
  have hl : ∀ s : Sto, fLen [.ref s.length] (s ++ [.dic (tbl i j k)]) = .ok (.int 3) (s ++ [.dic (tbl i j k)]) := fun s => by
    simp [fLen, fOr, f1, lenM, lenD, tbl, dicAt]
  simp only [tld] at hd ⊢
  simp [callN, step, b_d_table, h, hd, hl]
  rw [fin_ref (by omega)]
theorem value_of_ok {D : Nat} {s : Sto} {i j k : Int} (e : Ex) (hD : e.h + 3 < D) (ho : e.ok) (hn : ∀ x ∈ e.names, x = "a" ∨ x = "b" ∨ x = "c") : (callN D).d_value_of [e.emb, tld i j k] s = .ok (.int (e.ev (env3 i j k))) s := by
  cases D with
  | zero => omega
  | succ D =>
    have h := reckon_ok (s := s ++ [.dic (tbl i j k), .dic (tbl i j k)]) (n := s.length + 1) (kvs := tbl i j k) (f := env3 i j k) (by simp) e D (by omega) ho (env_tbl hn)
    simp [callN, step, b_d_value_of, eparts_ok e D (by omega) ho, e.size_pos, form_ok (D := D) (by omega), table_ok (D := D) (by omega), h]
theorem value_of_d {D : Nat} {s : Sto} {i j k : Int} (e : Ex) (hD : e.h + 4 < D) (ho : e.ok) (hn : ∀ x ∈ e.names, x = "a" ∨ x = "b" ∨ x = "c") : (callN D).d_value_of [.tup [.str "+", e.emb, .tup [.str "x", .str "d"]], tld i j k] s = .exc ⟨"NotThere", []⟩ s := by
  cases D with
  | zero => omega
  | succ D =>
    have h := reckon_d (s := s ++ [.dic (tbl i j k), .dic (tbl i j k)]) (n := s.length + 1) (kvs := tbl i j k) (f := env3 i j k) (by simp) (by simp [valM, tbl]) e D (by omega) ho (env_tbl hn)
    have hp := eparts_ok (s := s) (Ex.add e (.x "d")) D (by simp only [Ex.h]; omega) ⟨ho, trivial⟩
    have hq := (Ex.add e (.x "d")).size_pos
    simp only [Ex.emb] at hp
    simp [callN, step, b_d_value_of, hp, hq, form_ok (D := D) (by omega), table_ok (D := D) (by omega), h]
theorem is_true_ok {D : Nat} {s : Sto} {i j k : Int} (e : Cd) (hD : e.h + 3 < D) (ho : e.ok) (hn : ∀ x ∈ e.names, x = "a" ∨ x = "b" ∨ x = "c") : (callN D).d_is_true [e.emb, tld i j k] s = .ok (.bl (e.ev (env3 i j k))) s := by
  cases D with
  | zero => omega
  | succ D =>
    have h := dtrue_ok (s := s ++ [.dic (tbl i j k), .dic (tbl i j k)]) (n := s.length + 1) (kvs := tbl i j k) (f := env3 i j k) (by simp) e D (by omega) ho (env_tbl hn)
    simp [callN, step, b_d_is_true, cparts_ok e D (by omega) ho, e.size_pos, form_ok (D := D) (by omega), table_ok (D := D) (by omega), h]
theorem fit_ok {D : Nat} {s : Sto} {n : Nat} {i j k v lo hi : Int} (e : Cd) (hD : e.h + 1 < D) (ho : e.ok) (hs : s[n]? = some (.dic (tbl i j k))) (hn : ∀ x ∈ e.names, x = "v" ∨ x = "a" ∨ x = "b" ∨ x = "c") :
    (callN D).d_fit [.int v, .tup [.int lo, .int hi, e.emb], .ref n] s = .ok (.bl (decide (lo ≤ v) && (decide (v ≤ hi) && e.ev (env4 i j k v)))) s := by
  cases D with
  | zero => omega
  | succ D =>
    have h := dtrue_ok (s := s ++ [.dic (putM (tbl i j k) (.s "v") (.int v))]) (n := s.length) (kvs := putM (tbl i j k) (.s "v") (.int v)) (f := env4 i j k v) (by simp) e D (by omega) ho (env_tbl4 hn)
    have hd : dictM [.ref n] s = .ok (.ref s.length) (s ++ [.dic (tbl i j k)]) := by simp [dictM, f1, hs]
    have hm := setM_dic (n := s.length) (s := s ++ [.dic (tbl i j k)]) (kvs := tbl i j k) (z := "v") (x := .int v) (by simp) (by simp [tbl])
    simp only [set_end] at hm
    by_cases h1 : lo ≤ v <;> by_cases h2 : v ≤ hi <;> simp [callN, step, b_d_fit, hd, hm, h, h1, h2]
theorem lfits_ok {D : Nat} {s : Sto} {n : Nat} {i j k v lo hi : Int} (e : Cd) (hD : e.h + 1 < D) (ho : e.ok) (hs : s[n]? = some (.dic (tbl i j k))) (hn : ∀ x ∈ e.names, x = "v" ∨ x = "a" ∨ x = "b" ∨ x = "c") :
    (callN D).l_fits [.int v, .tup [.int lo, .int hi, e.emb], .ref n] s = .ok (.bl (decide (lo ≤ v) && (decide (v ≤ hi) && e.ev (env4 i j k v)))) s := by
  cases D with
  | zero => omega
  | succ D =>
    have h := ltrue_ok (s := s ++ [.dic (putM (tbl i j k) (.s "v") (.int v))]) (n := s.length) (kvs := putM (tbl i j k) (.s "v") (.int v)) (f := env4 i j k v) (by simp) e D (by omega) ho (env_tbl4 hn)
    have hd : dictM [.ref n] s = .ok (.ref s.length) (s ++ [.dic (tbl i j k)]) := by simp [dictM, f1, hs]
    have hm := setM_dic (n := s.length) (s := s ++ [.dic (tbl i j k)]) (kvs := tbl i j k) (z := "v") (x := .int v) (by simp) (by simp [tbl])
    simp only [set_end] at hm
    by_cases h1 : lo ≤ v <;> by_cases h2 : v ≤ hi <;> simp [callN, step, b_l_fits, hd, hm, h, h1, h2]
theorem fits_ok {D : Nat} {s : Sto} {i j k v lo hi : Int} (e : Cd) (hD : e.h + 3 < D) (ho : e.ok) (hn : ∀ x ∈ e.names, x = "v" ∨ x = "a" ∨ x = "b" ∨ x = "c") :
    (callN D).d_fits [.int v, .tup [.int lo, .int hi, e.emb], tld i j k] s = .ok (.bl (decide (lo ≤ v) && (decide (v ≤ hi) && e.ev (env4 i j k v)))) s := by
  cases D with
  | zero => omega
  | succ D =>
    have h := fit_ok (D := D) (s := s ++ [.dic (tbl i j k), .dic (tbl i j k)]) (n := s.length + 1) (i := i) (j := j) (k := k) (v := v) (lo := lo) (hi := hi) e (by omega) ho (by simp) hn
    simp [callN, step, b_d_fits, cparts_ok e D (by omega) ho, e.size_pos, form_ok (D := D) (by omega), table_ok (D := D) (by omega), is_int_int (D := D) (by omega), h]
end L_k02_language

set_option Elab.async false
set_option linter.all false
set_option maxRecDepth 100000
set_option maxHeartbeats 4000000
namespace MP
open PySem PySem.Spec PyProof.Rows L2
/-- a def's end whose store is as long as it was -/
theorem fin_len {s s' : Sto} {x : MV} (h : x.pure = true) (hl : s'.length = s.length) : MP.fin s s' x = .ok x s' := by
  unfold MP.fin
  rw [List.take_of_length_le (by omega)]
  by_cases e : s' = s
  · rw [if_pos ⟨h, e⟩, e]
  · rw [if_neg (fun z => e z.2)]
    split <;> rfl
def Dry (s : Sto) : Prop := ∀ c ∈ s, ∀ n, c.low n = true
mutual
theorem MV.pure_low (n : Nat) : ∀ x : MV, x.pure = true → x.low n = true
  | .non, _ => rfl
  | .bl _, _ => rfl
  | .int _, _ => rfl
  | .str _, _ => rfl
  | .ty _, _ => rfl
  | .ref _, h => by cases h
  | .tup xs, h => by show MV.lows n xs = true; exact MV.pures_low n xs h
  | .lis xs, h => by show MV.lows n xs = true; exact MV.pures_low n xs h
theorem MV.pures_low (n : Nat) : ∀ xs : List MV, MV.pures xs = true → MV.lows n xs = true
  | [], _ => rfl
  | x :: xs, h => by
    simp only [MV.pures, Bool.and_eq_true] at h
    simp only [MV.lows, Bool.and_eq_true]
    exact ⟨MV.pure_low n x h.1, MV.pures_low n xs h.2⟩
end
theorem fin_dry {s s' : Sto} {x : MV} (h : x.pure = true) (hd : Dry (s'.take s.length)) : MP.fin s s' x = .ok x (s'.take s.length) := by
  unfold MP.fin
  by_cases e : s'.take s.length = s
  · rw [if_pos ⟨h, e⟩, e]
  · rw [if_neg (fun z => e z.2), if_pos ⟨MV.pure_low _ _ h, fun c hc => hd c hc _⟩]
/-- a box of two numbers -/
abbrev bx (i j : Int) : Cell := .lst [.int i, .int j]
/-- a store that differs in the box, and has some more behind -/
def Near (b : Nat) (s s' : Sto) : Prop := ∃ i j g, s' = s.set b (bx i j) ++ g ∧ Dry g
/-- a box stands here, and nothing points behind the store -/
structure Boxed (b : Nat) (s : Sto) : Prop where
  dry : Dry s
  box : ∃ i j, s[b]? = some (bx i j)
theorem Boxed.lt {b : Nat} {s : Sto} (h : Boxed b s) : b < s.length := by
  obtain ⟨i, j, h⟩ := h.box
  exact (List.getElem?_eq_some_iff.mp h).1
theorem Boxed.near {b : Nat} {s : Sto} (h : Boxed b s) : Near b s s := by
  obtain ⟨i, j, e⟩ := h.box
  refine ⟨i, j, [], ?_, fun c hc => nomatch hc⟩
  rw [List.append_nil]
  apply List.ext_getElem?
  intro k
  rw [List.getElem?_set]
  split
  · rename_i z; subst z; rw [if_pos h.lt, e]
  · rfl
theorem Near.boxed {b : Nat} {s s' : Sto} (h : Boxed b s) (n : Near b s s') : Boxed b s' := by
  obtain ⟨i, j, g, rfl, hg⟩ := n
  refine ⟨fun c hc m => ?_, i, j, ?_⟩
  · rcases List.mem_append.mp hc with hc | hc
    · rcases List.mem_or_eq_of_mem_set hc with hc | rfl
      · exact h.dry c hc m
      · rfl
    · exact hg c hc m
  · rw [List.getElem?_append_left (by simpa using h.lt)]
    simp [h.lt]
theorem Near.len {b : Nat} {s s' : Sto} (n : Near b s s') : s.length ≤ s'.length := by
  obtain ⟨i, j, g, rfl, hg⟩ := n; simp
theorem Near.other {b n : Nat} {s s' : Sto} (hn : n ≠ b) (h : Near b s s') {c : Cell} (e : s[n]? = some c) : s'[n]? = some c := by
  obtain ⟨i, j, g, rfl, hg⟩ := h
  rw [List.getElem?_append_left (by simpa using (List.getElem?_eq_some_iff.mp e).1)]
  rw [List.getElem?_set_ne (Ne.symm hn), e]
theorem Near.set {b : Nat} {s s' : Sto} (hb : b < s.length) (h : Near b s s') (i j : Int) : Near b s (s'.set b (bx i j)) := by
  obtain ⟨i', j', g, rfl, hg⟩ := h
  refine ⟨i, j, g, ?_, hg⟩
  rw [List.set_append_left _ _ (by simpa using hb), List.set_set]
theorem Near.more {b : Nat} {s s' : Sto} (h : Near b s s') {c : Cell} (hc : ∀ n, c.low n = true) : Near b s (s' ++ [c]) := by
  obtain ⟨i', j', g, rfl, hg⟩ := h
  refine ⟨i', j', g ++ [c], by simp, fun x hx => ?_⟩
  rcases List.mem_append.mp hx with hx | hx
  · exact hg x hx
  · simp only [List.mem_singleton] at hx; subst hx; exact hc
theorem Near.fin {b : Nat} {s s' : Sto} {x : MV} (hb : Boxed b s) (h : Near b s s') (hx : x.pure = true) : ∃ i j, MP.fin s s' x = .ok x (s.set b (bx i j)) := by
  have hbx := h.boxed hb
  obtain ⟨i, j, g, rfl, hg⟩ := h
  refine ⟨i, j, ?_⟩
  have e : (s.set b (bx i j) ++ g).take s.length = s.set b (bx i j) := by
    rw [List.take_append_of_le_length (by simp)]
    rw [List.take_of_length_le (by simp)]
  rw [fin_dry hx, e]
  rw [e]
  exact fun c hc => hbx.dry c (List.mem_append_left _ hc)
/-- an expression that draws: its value is of the kind wanted, the store near -/
def Drawn (b : Nat) (s : Sto) (r : Res MV) (P : MV → Prop) : Prop := ∃ v s', r = .ok v s' ∧ P v ∧ Near b s s'
end MP
namespace L_k02_language
open PySem PySem.Spec PyProof.Rows L2 MP
theorem beq_f {i j : Int} (h : ¬ i = j) : (i == j) = false := by simpa using h
theorem draw_ok {D : Nat} (hD : 0 < D) {b : Nat} {s : Sto} {i j m : Int} (hs : s[b]? = some (bx i j)) (h0 : 0 < m) (h1 : m < 1000000) : ∃ v i' j', 0 ≤ v ∧ v < m ∧ (callN D).l_draw [.ref b, .int m] s = .ok (.int v) (s.set b (bx i' j')) := by
  obtain ⟨D, rfl⟩ := Nat.exists_eq_add_of_lt hD
  have hb : b < s.length := (List.getElem?_eq_some_iff.mp hs).1
  have a0 : gIx (.ref b) (.int 0) s = .ok (.int i) s := gIx_lst hs (MP.atI_nat (j := 0) rfl)
  have a1 : gIx (.ref b) (.int 1) s = .ok (.int j) s := gIx_lst hs (MP.atI_nat (j := 1) rfl)
  have m0 : ∀ z : Int, gMod (.int z) (.int m) s = .ok (.int (z % m)) s := fun z => gIC_int h0
  have m0' : ∀ (z : Int) s, gMod (.int z) (.int m) s = .ok (.int (z % m)) s := fun z s => gIC_int h0
  have m1 : gDiv (.int i) (.int m) s = .ok (.int (i / m)) s := gIC_int ⟨h0, by omega⟩
  have s0 : setM (.ref b) (.int 0) (.int (i / m)) s = some (s.set b (bx (i / m) j)) := setM_lst hs (j := 0) rfl
  by_cases hi : 0 < i
  · refine ⟨i % m, i / m, j, Int.emod_nonneg _ (by omega), Int.emod_lt_of_pos _ h0, ?_⟩
    simp [callN, step, b_l_draw, a0, hi, m0, m1, s0]
    exact fin_len rfl (by simp)
  · have e1 : gMul (.int j) (.int 48271) s = .ok (.int (j * 48271)) s := gIC_int (.inr ⟨by omega, by omega⟩)
    have e2 : ∀ z : Int, gMod (.int z) (.int 2147483647) s = .ok (.int (z % 2147483647)) s := fun z => gIC_int (by omega)
    have s1 : ∀ z : Int, setM (.ref b) (.int 1) (.int z) s = some (s.set b (bx i z)) := fun z => setM_lst hs (j := 1) rfl
    have e3 : ∀ (z : Int) s, gDiv (.int z) (.int 64) s = .ok (.int (z / 64)) s := fun z s => gIC_int ⟨by omega, by omega⟩
    have a2 : ∀ z : Int, gIx (.ref b) (.int 1) (s.set b (bx i z)) = .ok (.int z) (s.set b (bx i z)) := fun z => gIx_lst (xs := [.int i, .int z]) (by simp [hb]) (MP.atI_nat (j := 1) rfl)
    refine ⟨((j * 48271 + 12345) % 2147483647 / 64) % m, i, (j * 48271 + 12345) % 2147483647, Int.emod_nonneg _ (by omega), Int.emod_lt_of_pos _ h0, ?_⟩
    simp [callN, step, b_l_draw, a0, a1, hi, e1, e2, s1, e3, a2, m0']
    exact fin_len rfl (by simp)
theorem draw_near {D : Nat} (hD : 0 < D) {b : Nat} {s0 s : Sto} (hb : Boxed b s0) (hn : Near b s0 s) {m : Int} (h0 : 0 < m) (h1 : m < 1000000) : ∃ v s', (callN D).l_draw [.ref b, .int m] s = .ok (.int v) s' ∧ (0 ≤ v ∧ v < m) ∧ Near b s0 s' := by
  obtain ⟨i, j, e⟩ := (hn.boxed hb).box
  obtain ⟨v, i', j', p, q, r⟩ := draw_ok hD e h0 h1
  exact ⟨v, _, r, ⟨p, q⟩, hn.set hb.lt i' j'⟩
@[simp] theorem Ex.emb_pure (e : Ex) : e.emb.pure = true := by
  induction e <;> simp_all [Ex.emb, MV.pure, MV.pures]
@[simp] theorem Cd.emb_pure (e : Cd) : e.emb.pure = true := by
  induction e <;> simp_all [Cd.emb, MV.pure, MV.pures]
theorem eq_nil {n : Nat} {s : Sto} {nm : List String} (hs : s[n]? = some (.lst (nm.map .str))) (h : nm ≠ []) (hl : SeqAt.shaped (.list (nm.map fun x => .str (sf x))) = true) : eqD (s ++ [.lst []]) (.ref n) (.ref s.length) = some false := by
  have hn : n < s.length := (List.getElem?_eq_some_iff.mp hs).1
  have e : (s ++ [.lst []])[n]? = some (.lst (nm.map .str)) := by rw [List.getElem?_append_left hn, hs]
  have d : ∀ nm : List String, MV.dats (nm.map .str) = some (nm.map fun x => .str (sf x)) := fun nm => by
    induction nm with
    | nil => rfl
    | cons a r ih => simp [MV.dats, MV.dat, ih]
  have h1 : MV.datS (s ++ [.lst []]) (.ref n) = some (.list (nm.map fun x => .str (sf x))) := by unfold MV.datS; simp only [e, d, Option.map_some]
  have h2 : MV.datS (s ++ [.lst []]) (.ref s.length) = some (.list []) := by unfold MV.datS; simp [MV.dats]
  unfold eqD
  simp only [h1, h2]
  rw [hl]
  cases nm with
  | nil => exact absurd rfl h
  | cons a r => rfl

theorem Near.trans' {b : Nat} {s s1 s2 : Sto} (hb : b < s.length) (h : Near b s s1) {i j : Int} : Near b s (s1.set b (bx i j)) := h.set hb i j
/-- the names' list -/
structure Names (b n : Nat) (nm : List String) (s : Sto) : Prop where
  bx : Boxed b s
  at_ : s[n]? = some (.lst (nm.map .str))
theorem Names.go {b n : Nat} {nm : List String} {s s' : Sto} (h : Names b n nm s) (hn : n ≠ b) (g : Near b s s') : Names b n nm s' := ⟨g.boxed h.bx, g.other hn h.at_⟩
theorem low_nil (n : Nat) : (Cell.lst []).low n = true := rfl
theorem expr_ok {b n : Nat} {nm : List String} (hne : nm ≠ []) (hsh : SeqAt.shaped (.list (nm.map fun x => .str (sf x))) = true) (hlen : nm.length < 1000) (hnb : n ≠ b) :
    ∀ (d D : Nat), d + 1 < D → ∀ s, Names b n nm s → ∃ e i j, Ex.ok e ∧ e.h ≤ d ∧ (∀ x ∈ e.names, x ∈ nm) ∧ (callN D).l_expr [.ref b, .ref n, .int d] s = .ok e.emb (s.set b (bx i j)) := by
  intro d
  induction d with
  | zero =>
    intro D hD s N
    cases D with
    | zero => omega
    | succ D =>
      have hb := N.bx
      obtain ⟨v, s1, e1, hv, n1⟩ := draw_near (D := D) (by omega) hb hb.near (m := 7) (by omega) (by omega)
      have N1 := N.go hnb n1
      have q1 := eq_nil N1.at_ hne hsh
      have n1' := n1.more low_nil
      obtain ⟨v3, s2, e2, hv3, n2⟩ := draw_near (D := D) (by omega) hb n1' (m := 3) (by omega) (by omega)
      by_cases hz : v3 = 0
      · obtain ⟨v6, s3, e3, hv6, n3⟩ := draw_near (D := D) (by omega) hb n2 (m := 6) (by omega) (by omega)
        obtain ⟨i, j, f⟩ := n3.fin hb (x := (Ex.n (v6 - 1)).emb) (by simp)
        refine ⟨.n (v6 - 1), i, j, ⟨by omega, by omega⟩, by simp [Ex.h], by simp [Ex.names], ?_⟩
        simp only [Ex.emb] at f ⊢
        simp [callN, step, b_l_expr, e1, q1, e2, hz, e3, f]
      · have hl : fLen [.ref n] s2 = .ok (.int nm.length) s2 := by
          have := (N.go hnb n2).at_
          simp [fLen, fOr, f1, lenM, this]
        obtain ⟨vl, s3, e3, hvl, n3⟩ := draw_near (D := D) (by omega) hb n2 (m := nm.length) (by have := List.length_pos_iff.mpr hne; omega) (by omega)
        obtain ⟨x, hx⟩ : ∃ x, nm[vl.toNat]? = some x := ⟨_, List.getElem?_eq_getElem (by omega)⟩
        have hix : gIx (.ref n) (.int vl) s3 = .ok (.str x) s3 := by
          refine gIx_lst (N.go hnb n3).at_ ?_
          rw [show vl = (vl.toNat : Int) by omega]
          exact MP.atI_nat (by rw [List.getElem?_map, hx]; rfl)
        obtain ⟨i, j, f⟩ := n3.fin hb (x := (Ex.x x).emb) (by simp)
        refine ⟨.x x, i, j, trivial, by simp [Ex.h], fun y hy => ?_, ?_⟩
        · simp only [Ex.names, List.mem_singleton] at hy; subst hy; exact List.mem_of_getElem? hx
        · simp only [Ex.emb] at f ⊢
          simp [callN, step, b_l_expr, e1, q1, e2, beq_f hz, hl, e3, hix, f]
  | succ d ih =>
    intro D hD s N
    cases D with
    | zero => omega
    | succ D =>
      have hb := N.bx
      have hd0 : ((d : Int) + 1 == 0) = false := by simp; omega
      obtain ⟨v, s1, e1, hv, n1⟩ := draw_near (D := D) (by omega) hb hb.near (m := 7) (by omega) (by omega)
      have N1 := N.go hnb n1
      have q1 := eq_nil N1.at_ hne hsh
      have n1' := n1.more low_nil
      by_cases hv2 : v < 2
      · obtain ⟨v3, s2, e2, hv3, n2⟩ := draw_near (D := D) (by omega) hb n1' (m := 3) (by omega) (by omega)
        by_cases hz : v3 = 0
        · obtain ⟨v6, s3, e3, hv6, n3⟩ := draw_near (D := D) (by omega) hb n2 (m := 6) (by omega) (by omega)
          obtain ⟨i, j, f⟩ := n3.fin hb (x := (Ex.n (v6 - 1)).emb) (by simp)
          refine ⟨.n (v6 - 1), i, j, ⟨by omega, by omega⟩, by simp [Ex.h], by simp [Ex.names], ?_⟩
          simp only [Ex.emb] at f ⊢
          simp [callN, step, b_l_expr, e1, hd0, hv2, q1, e2, hz, e3, f]
        · have hl : fLen [.ref n] s2 = .ok (.int nm.length) s2 := by
            have := (N.go hnb n2).at_
            simp [fLen, fOr, f1, lenM, this]
          obtain ⟨vl, s3, e3, hvl, n3⟩ := draw_near (D := D) (by omega) hb n2 (m := nm.length) (by have := List.length_pos_iff.mpr hne; omega) (by omega)
          obtain ⟨x, hx⟩ : ∃ x, nm[vl.toNat]? = some x := ⟨_, List.getElem?_eq_getElem (by omega)⟩
          have hix : gIx (.ref n) (.int vl) s3 = .ok (.str x) s3 := by
            refine gIx_lst (N.go hnb n3).at_ ?_
            rw [show vl = (vl.toNat : Int) by omega]
            exact MP.atI_nat (by rw [List.getElem?_map, hx]; rfl)
          obtain ⟨i, j, f⟩ := n3.fin hb (x := (Ex.x x).emb) (by simp)
          refine ⟨.x x, i, j, trivial, by simp [Ex.h], fun y hy => ?_, ?_⟩
          · simp only [Ex.names, List.mem_singleton] at hy; subst hy; exact List.mem_of_getElem? hx
          · simp only [Ex.emb] at f ⊢
            simp [callN, step, b_l_expr, e1, hd0, hv2, q1, e2, beq_f hz, hl, e3, hix, f]
      · obtain ⟨a, i1, j1, oa, ha, na, e2⟩ := ih D (by omega) _ (N.go hnb n1')
        have n2 := n1'.set hb.lt i1 j1
        generalize hs2 : (s1 ++ [Cell.lst []]).set b (bx i1 j1) = s2 at e2 n2
        by_cases hv4 : v ≤ 4
        · obtain ⟨c, i2, j2, oc, hc, nc, e3⟩ := ih D (by omega) _ (N.go hnb n2)
          have n3 := n2.set hb.lt i2 j2
          generalize hs3 : s2.set b (bx i2 j2) = s3 at e3 n3
          by_cases hv3 : v < 4
          · obtain ⟨i, j, f⟩ := n3.fin hb (x := (Ex.add a c).emb) (by simp)
            refine ⟨.add a c, i, j, ⟨oa, oc⟩, by simp [Ex.h]; omega, fun y hy => ?_, ?_⟩
            · rcases List.mem_append.mp hy with hy | hy
              · exact na y hy
              · exact nc y hy
            · simp only [Ex.emb] at f ⊢
              simp [callN, step, b_l_expr, e1, hd0, hv2, q1, e2, hv3, e3, f]
          · obtain ⟨i, j, f⟩ := n3.fin hb (x := (Ex.sub a c).emb) (by simp)
            have hv5 : v = 4 := by omega
            subst hv5
            refine ⟨.sub a c, i, j, ⟨oa, oc⟩, by simp [Ex.h]; omega, fun y hy => ?_, ?_⟩
            · rcases List.mem_append.mp hy with hy | hy
              · exact na y hy
              · exact nc y hy
            · simp only [Ex.emb] at f ⊢
              simp [callN, step, b_l_expr, e1, hd0, q1, e2, e3, f]
        · by_cases hv5 : v = 5
          · subst hv5
            obtain ⟨w, s3, e3, hw, n3⟩ := draw_near (D := D) (by omega) hb n2 (m := 5) (by omega) (by omega)
            obtain ⟨i, j, f⟩ := n3.fin hb (x := (Ex.mul (w - 2) a).emb) (by simp)
            refine ⟨.mul (w - 2) a, i, j, ⟨by omega, oa⟩, by simp [Ex.h]; omega, na, ?_⟩
            simp only [Ex.emb] at f ⊢
            simp [callN, step, b_l_expr, e1, hd0, q1, e2, e3, f]
          · have hv6 : v = 6 := by omega
            subst hv6
            obtain ⟨w, s3, e3, hw, n3⟩ := draw_near (D := D) (by omega) hb n2 (m := 2) (by omega) (by omega)
            by_cases hw0 : w = 0
            · obtain ⟨u, s4, e4, hu, n4⟩ := draw_near (D := D) (by omega) hb n3 (m := 3) (by omega) (by omega)
              obtain ⟨i, j, f⟩ := n4.fin hb (x := (Ex.div a (1 + u)).emb) (by simp)
              refine ⟨.div a (1 + u), i, j, ⟨oa, by omega, by omega⟩, by simp [Ex.h]; omega, na, ?_⟩
              simp only [Ex.emb] at f ⊢
              simp [callN, step, b_l_expr, e1, hd0, q1, e2, e3, hw0, e4, f]
            · obtain ⟨u, s4, e4, hu, n4⟩ := draw_near (D := D) (by omega) hb n3 (m := 4) (by omega) (by omega)
              obtain ⟨i, j, f⟩ := n4.fin hb (x := (Ex.mod a (1 + u)).emb) (by simp)
              refine ⟨.mod a (1 + u), i, j, ⟨oa, by omega, by omega⟩, by simp [Ex.h]; omega, na, ?_⟩
              simp only [Ex.emb] at f ⊢
              simp [callN, step, b_l_expr, e1, hd0, q1, e2, e3, beq_f hw0, e4, f]
theorem cond_ok {b n : Nat} {nm : List String} (hne : nm ≠ []) (hsh : SeqAt.shaped (.list (nm.map fun x => .str (sf x))) = true) (hlen : nm.length < 1000) (hnb : n ≠ b) :
    ∀ (d D : Nat), d + 3 < D → ∀ s, Names b n nm s → ∃ e i j, Cd.ok e ∧ e.h ≤ d + 2 ∧ (∀ x ∈ e.names, x ∈ nm) ∧ (callN D).l_cond [.ref b, .ref n, .int d] s = .ok e.emb (s.set b (bx i j)) := by
  intro d
  -- a comparison
  have cm : ∀ (d D : Nat), d + 2 < D → ∀ (s0 s1 : Sto) (v : Int), Names b n nm s0 → Near b s0 s1 → (callN D).l_draw [.ref b, .int 8] s0 = .ok (.int v) s1 → ¬ (0 < d ∧ v < 3) → ∃ e i j, Cd.ok e ∧ e.h ≤ d + 2 ∧ (∀ x ∈ e.names, x ∈ nm) ∧ (callN (D + 1)).l_cond [.ref b, .ref n, .int d] s0 = .ok e.emb (s0.set b (bx i j)) := by
    intro d D hD s0 s1 v N n1 e1 hv
    have hb := N.bx
    obtain ⟨k, s2, e2, hk, n2⟩ := draw_near (D := D) (by omega) hb n1 (m := 4) (by omega) (by omega)
    obtain ⟨o, ho⟩ : ∃ o : Cop, gIx (.tup [.str "<", .str "<=", .str "=", .str "!="]) (.int k) s2 = .ok (.str o.str) s2 := by
      have : k = 0 ∨ k = 1 ∨ k = 2 ∨ k = 3 := by omega
      rcases this with rfl | rfl | rfl | rfl
      · exact ⟨.lt, at_0 ..⟩
      · exact ⟨.le, at_1 ..⟩
      · exact ⟨.eq, at_2 ..⟩
      · exact ⟨.ne, at_3 ..⟩
    obtain ⟨a, i1, j1, oa, ha, na, e3⟩ := expr_ok hne hsh hlen hnb 1 D (by omega) _ (N.go hnb n2)
    have n3 := n2.set hb.lt i1 j1
    generalize hs3 : s2.set b (bx i1 j1) = s3 at e3 n3
    obtain ⟨c, i2, j2, oc, hc, nc, e4⟩ := expr_ok hne hsh hlen hnb 1 D (by omega) _ (N.go hnb n3)
    have n4 := n3.set hb.lt i2 j2
    generalize hs4 : s3.set b (bx i2 j2) = s4 at e4 n4
    obtain ⟨i, j, f⟩ := n4.fin hb (x := (Cd.cmp o a c).emb) (by simp)
    refine ⟨.cmp o a c, i, j, ⟨oa, oc⟩, by simp [Cd.h]; omega, fun y hy => ?_, ?_⟩
    · rcases List.mem_append.mp hy with hy | hy
      · exact na y hy
      · exact nc y hy
    · simp only [Cd.emb] at f ⊢
      change (callN D).l_expr [.ref b, .ref n, .int 1] _ = _ at e3
      change (callN D).l_expr [.ref b, .ref n, .int 1] _ = _ at e4
      by_cases h0 : 0 < d
      · have h3 : ¬ v < 3 := fun z => hv ⟨h0, z⟩
        simp [callN, step, b_l_cond, e1, h0, h3, e2, ho, e3, e4, f]
      · simp [callN, step, b_l_cond, e1, h0, e2, ho, e3, e4, f]
  induction d with
  | zero =>
    intro D hD s N
    cases D with
    | zero => omega
    | succ D =>
      have hb := N.bx
      obtain ⟨v, s1, e1, hv, n1⟩ := draw_near (D := D) (by omega) hb hb.near (m := 8) (by omega) (by omega)
      exact cm 0 D (by omega) s s1 v N n1 e1 (by omega)
  | succ d ih =>
    intro D hD s N
    cases D with
    | zero => omega
    | succ D =>
      have hb := N.bx
      obtain ⟨v, s1, e1, hv, n1⟩ := draw_near (D := D) (by omega) hb hb.near (m := 8) (by omega) (by omega)
      by_cases hv3 : v < 3
      · obtain ⟨a, i1, j1, oa, ha, na, e2⟩ := ih D (by omega) _ (N.go hnb n1)
        have n2 := n1.set hb.lt i1 j1
        generalize hs2 : s1.set b (bx i1 j1) = s2 at e2 n2
        by_cases hv0 : v = 0
        · subst hv0
          obtain ⟨i, j, f⟩ := n2.fin hb (x := (Cd.no a).emb) (by simp)
          refine ⟨.no a, i, j, oa, by simp [Cd.h]; omega, na, ?_⟩
          simp only [Cd.emb] at f ⊢
          simp [callN, step, b_l_cond, e1, e2, f, show 0 < (d : Int) + 1 by omega]
        · obtain ⟨c, i2, j2, oc, hc, nc, e3⟩ := ih D (by omega) _ (N.go hnb n2)
          have n3 := n2.set hb.lt i2 j2
          generalize hs3 : s2.set b (bx i2 j2) = s3 at e3 n3
          have hv1 : v = 1 ∨ v = 2 := by omega
          rcases hv1 with rfl | rfl
          · obtain ⟨i, j, f⟩ := n3.fin hb (x := (Cd.an a c).emb) (by simp)
            refine ⟨.an a c, i, j, ⟨oa, oc⟩, by simp [Cd.h]; omega, fun y hy => ?_, ?_⟩
            · rcases List.mem_append.mp hy with hy | hy
              · exact na y hy
              · exact nc y hy
            · simp only [Cd.emb] at f ⊢
              simp [callN, step, b_l_cond, e1, e2, e3, f, show 0 < (d : Int) + 1 by omega]
          · obtain ⟨i, j, f⟩ := n3.fin hb (x := (Cd.orr a c).emb) (by simp)
            refine ⟨.orr a c, i, j, ⟨oa, oc⟩, by simp [Cd.h]; omega, fun y hy => ?_, ?_⟩
            · rcases List.mem_append.mp hy with hy | hy
              · exact na y hy
              · exact nc y hy
            · simp only [Cd.emb] at f ⊢
              simp [callN, step, b_l_cond, e1, e2, e3, f, show 0 < (d : Int) + 1 by omega]
      · exact cm (d + 1) D (by omega) s s1 v N n1 e1 (by omega)
end L_k02_language

set_option Elab.async false
set_option linter.all false
set_option maxRecDepth 100000
set_option maxHeartbeats 4000000
namespace MP
open PySem PySem.Spec PyProof.Rows L2
/-- a loop by an invariant, over what is walked -/
theorem for_invM {g : MG} {b : MS} (I : Loc → Sto → Prop) : ∀ (xs : List MV), (∀ x ∈ xs, ∀ ρ s, I ρ s → ∃ ρ1 s1, g x ρ s = .nx ρ1 s1 ∧ ∃ ρ2 s2, b ρ1 s1 = .nx ρ2 s2 ∧ I ρ2 s2) → ∀ (ρ : Loc) (s : Sto), I ρ s → ∃ ρ' s', forL [] g b xs ρ s = .nx ρ' s' ∧ I ρ' s'
  | [], _, ρ, s, h => ⟨ρ, s, forL_nil liveOk_nil, h⟩
  | x :: xs, hb, ρ, s, h => by
    obtain ⟨ρ1, s1, h1, ρ2, s2, h2, h3⟩ := hb x List.mem_cons_self ρ s h
    rw [forL_nx liveOk_nil h1 h2]
    exact for_invM I xs (fun x hx => hb x (List.mem_cons_of_mem _ hx)) ρ2 s2 h3
theorem gAdd_lst {s : Sto} {p q : Nat} {xs ys : List MV} (h1 : s[p]? = some (.lst xs)) (h2 : s[q]? = some (.lst ys)) (hl : xs.length + ys.length ≤ 1000000) : gAdd (.ref p) (.ref q) s = .ok (.ref s.length) (s ++ [.lst (xs ++ ys)]) := by
  show gLstA (.ref p) (.ref q) s = _
  unfold gLstA
  simp only [h1, h2]
  rw [if_pos hl]
theorem range6 (ρ : Loc) (s : Sto) : iRange1 (aCons (eC (.int 6)) aNil) ρ s = .ok ⟨rangeM 0 6, []⟩ s := by
  simp [iRange1]
theorem fin_nil {s' : Sto} {x : MV} (h : x.pure = true) : MP.fin [] s' x = .ok x [] := by
  unfold MP.fin; rw [if_pos ⟨h, rfl⟩]
end MP
namespace L_k02_language
open PySem PySem.Spec PyProof.Rows L2 MP
abbrev abc : List String := ["a", "b", "c"]
theorem sh_abc : SeqAt.shaped (.list (abc.map fun x => .str (sf x))) = true := by decide +kernel
theorem sh_vabc : SeqAt.shaped (.list (("v" :: abc).map fun x => .str (sf x))) = true := by decide +kernel
theorem merge_tbl (i j k : Int) : mergeM [] [((MK.s "a"), MV.int i), (.s "b", .int j), (.s "c", .int k)] = tbl i j k := by simp [mergeM, putM, tbl]
/-- the values drawn -/
theorem values_ok {D : Nat} (hD : 0 < D) {s : Sto} (N : Names 0 1 abc s) {ρ : MP.Loc} (h1 : ρ[1]? = some (some (.ref 0))) (h2 : ρ[2]? = some (some (.ref 1))) (hl : ρ.length = 12) :
    ∃ i j k s', Near 0 s s' ∧ eUse uDict (lComp (iSeq (eVar 2)) [11] (gN 11) (tYesM) (eTup (aCons (eVar 11) (aCons (eOp gSub (eCall (callN D).l_draw (aCons (eVar 1) (aCons (eC (.int 61)) (aNil)))) (eC (.int 30))) (aNil))))) ρ s = .ok (.ref s'.length) (s' ++ [.dic (tbl i j k)]) := by
  have hb := N.bx
  obtain ⟨v1, s1, e1, _, n1⟩ := draw_near (D := D) hD hb hb.near (m := 61) (by omega) (by omega)
  obtain ⟨v2, s2, e2, _, n2⟩ := draw_near (D := D) hD hb n1 (m := 61) (by omega) (by omega)
  obtain ⟨v3, s3, e3, _, n3⟩ := draw_near (D := D) hD hb n2 (m := 61) (by omega) (by omega)
  have a0 : s[1]? = some (.lst [.str "a", .str "b", .str "c"]) := N.at_
  have a1 : s1[1]? = some (.lst [.str "a", .str "b", .str "c"]) := (N.go (by omega) n1).at_
  have a2 : s2[1]? = some (.lst [.str "a", .str "b", .str "c"]) := (N.go (by omega) n2).at_
  have a3 : s3[1]? = some (.lst [.str "a", .str "b", .str "c"]) := (N.go (by omega) n3).at_
  refine ⟨v1 - 30, v2 - 30, v3 - 30, s3, n3, ?_⟩
  obtain ⟨x0, x1, x2, x3, x4, x5, x6, x7, x8, x9, x10, x11, rfl⟩ : ∃ x0 x1 x2 x3 x4 x5 x6 x7 x8 x9 x10 x11, ρ = [x0, x1, x2, x3, x4, x5, x6, x7, x8, x9, x10, x11] := by
    match ρ, hl with
    | [x0, x1, x2, x3, x4, x5, x6, x7, x8, x9, x10, x11], _ => exact ⟨_, _, _, _, _, _, _, _, _, _, _, _, rfl⟩
  simp only [List.getElem?_cons_succ, List.getElem?_cons_zero, Option.some.injEq] at h1 h2
  subst h1 h2
  rw [eUse_ap, lComp_ap (c := ⟨[.str "a", .str "b", .str "c"], [(1, [.str "a", .str "b", .str "c"])]⟩) (s1 := s) (by simp [seqB_ref a0]) (by simp)]
  simp [compL_cons, compL_nil, a0, a1, a2, a3, e1, e2, e3, uDict, asPairs, MV.mk, merge_tbl]
theorem tolds_ok {m : Nat} {i j k : Int} {s : Sto} (a0 : s[1]? = some (.lst [.str "a", .str "b", .str "c"])) (hm : s[m]? = some (.dic (tbl i j k))) {ρ : MP.Loc} (h4 : ρ[4]? = some (some (.ref m))) (h2 : ρ[2]? = some (some (.ref 1))) (hl : ρ.length = 12) :
    eUse uTuple (lComp (iSeq (eVar 2)) [11] (gN 11) (tYesM) (eTup (aCons (eVar 11) (aCons (eOp gIx (eVar 4) (eVar 11)) (aNil))))) ρ s = .ok (tld i j k) s := by
  obtain ⟨x0, x1, x2, x3, x4, x5, x6, x7, x8, x9, x10, x11, rfl⟩ : ∃ x0 x1 x2 x3 x4 x5 x6 x7 x8 x9 x10 x11, ρ = [x0, x1, x2, x3, x4, x5, x6, x7, x8, x9, x10, x11] := by
    match ρ, hl with
    | [x0, x1, x2, x3, x4, x5, x6, x7, x8, x9, x10, x11], _ => exact ⟨_, _, _, _, _, _, _, _, _, _, _, _, rfl⟩
  simp only [List.getElem?_cons_succ, List.getElem?_cons_zero, Option.some.injEq] at h4 h2
  subst h4 h2
  have ga : gIx (.ref m) (.str "a") s = .ok (.int i) s := gIx_dic hm rfl (by simp [valM, tbl])
  have gb : gIx (.ref m) (.str "b") s = .ok (.int j) s := gIx_dic hm rfl (by simp [valM, tbl])
  have gc : gIx (.ref m) (.str "c") s = .ok (.int k) s := gIx_dic hm rfl (by simp [valM, tbl])
  rw [eUse_ap, lComp_ap (c := ⟨[.str "a", .str "b", .str "c"], [(1, [.str "a", .str "b", .str "c"])]⟩) (s1 := s) (by simp [seqB_ref a0]) (by simp)]
  simp [compL_cons, compL_nil, a0, ga, gb, gc, uTuple, tld]
theorem low_tbl (i j k : Int) (n : Nat) : (Cell.dic (tbl i j k)).low n = true := rfl
theorem stream_ok {D : Nat} (hD : 1 < D) (ns : List Int) : ∃ i j, (callN D).l_stream [.lis (ns.map MV.int), .int 0] [] = .ok (.ref 0) [bx i j] := by
  obtain ⟨D, rfl⟩ := Nat.exists_eq_add_of_lt hD
  obtain ⟨c, hc⟩ : ∃ c, (callN (1 + D)).l_cell [.lis (ns.map MV.int), .int 0] [] = .ok (.int c) [] := by
    obtain ⟨D', hD'⟩ : ∃ D', 1 + D = D' + 1 := ⟨D, by omega⟩
    rw [hD']
    cases ns with
    | nil => exact ⟨0, by simp [callN, step, b_l_cell]⟩
    | cons z zs =>
      have h : gIx (.lis (.int z :: zs.map MV.int)) (.int 0) [] = .ok (.int z) [] := gIx_lis (MP.atI_nat (j := 0) rfl)
      have hp : (0 : Int) < (zs.length : Int) + 1 := by omega
      exact ⟨z, by simp [callN, step, b_l_cell, h, hp]⟩
  have hm : ∀ z : Int, gMod (.int z) (.int 1000003) [] = .ok (.int (z % 1000003)) [] := fun z => gIC_int (by omega)
  refine ⟨if c < 0 then -c else c, (if c < 0 then -c else c) % 1000003 + 7, ?_⟩
  simp [callN, step, b_l_stream, hc, hm]
  exact fin_ref (by simp)
end L_k02_language

set_option Elab.async false
set_option linter.all false
set_option maxRecDepth 100000
set_option maxHeartbeats 4000000
namespace MP
open PySem PySem.Spec PyProof.Rows L2
@[simp] theorem sFor_ap (i : MI) (g : MG) (b : MS) (ρ : MP.Loc) (s : Sto) : sFor i g b ρ s = (i ρ s).st ρ fun c s => forL c.live g b c.items ρ s := rfl
theorem loop_end {g : MG} {b : MS} (I : MP.Loc → Sto → Prop) {xs : List MV} {ρ : MP.Loc} {s : Sto} (h0 : I ρ s) (hb : ∀ x ∈ xs, ∀ ρ s, I ρ s → ∃ ρ1 s1, g x ρ s = .nx ρ1 s1 ∧ ∃ ρ2 s2, b ρ1 s1 = .nx ρ2 s2 ∧ I ρ2 s2) :
    ∃ s', SRes.fin [] ((forL [] g b xs ρ s).seq (sRet (eC (.bl true)))) = .ok (.bl true) s' := by
  obtain ⟨ρ', s', e, _⟩ := for_invM I xs hb ρ s h0
  refine ⟨[], ?_⟩
  rw [e]
  exact fin_nil rfl
theorem loop_on {g : MG} {b : MS} (I J : MP.Loc → Sto → Prop) {xs : List MV} {ρ : MP.Loc} {s : Sto} {k : MP.Loc → Sto → SRes} (h0 : I ρ s) (hb : ∀ x ∈ xs, ∀ ρ s, I ρ s → ∃ ρ1 s1, g x ρ s = .nx ρ1 s1 ∧ ∃ ρ2 s2, b ρ1 s1 = .nx ρ2 s2 ∧ I ρ2 s2)
    (hk : ∀ ρ s, I ρ s → ∃ ρ2 s2, k ρ s = .nx ρ2 s2 ∧ J ρ2 s2) : ∃ ρ2 s2, (forL [] g b xs ρ s).seq k = .nx ρ2 s2 ∧ J ρ2 s2 := by
  obtain ⟨ρ', s', e, h⟩ := for_invM I xs hb ρ s h0
  rw [e]
  exact hk ρ' s' h
end MP
namespace L_k02_language
open PySem PySem.Spec PyProof.Rows L2 MP
def Inv (sc : MV) (ρ : MP.Loc) (s : Sto) : Prop := Names 0 1 abc s ∧ ∃ x3 x4 x5 x6 x7 x8 x9 x10 x11, ρ = [some sc, some (.ref 0), some (.ref 1), x3, x4, x5, x6, x7, x8, x9, x10, x11]
theorem mem_abc {x : String} (h : x ∈ abc) : x = "a" ∨ x = "b" ∨ x = "c" := by simpa using h
theorem mem_vabc {x : String} (h : x ∈ "v" :: abc) : x = "v" ∨ x = "a" ∨ x = "b" ∨ x = "c" := by simpa using h
theorem plain : Plain 20 := by
  intro ns _ _
  obtain ⟨i0, j0, h0⟩ := stream_ok (D := 19) (by omega) ns
  show ∃ s', (step (callN 19)).d_law _ _ = _
  have hbx : Boxed 0 [bx i0 j0, .lst [.str "a", .str "b", .str "c"]] := by
    refine ⟨fun c hc n => ?_, i0, j0, rfl⟩
    simp only [List.mem_cons, List.not_mem_nil, or_false] at hc
    rcases hc with rfl | rfl <;> rfl
  simp only [step, runB_ap, b_d_law, sSeq_ap, sSet_ap, eCall_ap, aCons_ap, eVar_ap, eC_ap, aNil_ap, Res.bind_ok, List.map_cons, List.map_nil, List.length_cons, List.length_nil, List.cons_append, List.nil_append, List.getElem?_cons_zero, h0, Res.st_ok, SRes.seq_nx, eLst_ap, sFor_ap, range6]
  refine loop_end (Inv (.lis (ns.map MV.int))) ⟨⟨hbx, rfl⟩, _, _, _, _, _, _, _, _, _, rfl⟩ fun x _ ρ s ⟨N, x3, x4, x5, x6, x7, x8, x9, x10, x11, hρ⟩ => ?_
  subst hρ
  refine ⟨_, s, rfl, ?_⟩
  have hb := N.bx
  obtain ⟨i, j, k, s1, n1, hv⟩ := values_ok (D := 19) (by omega) N (ρ := [some (.lis (ns.map MV.int)), some (.ref 0), some (.ref 1), some x, x4, x5, x6, x7, x8, x9, x10, x11]) rfl rfl rfl
  have hs0 : 0 < s1.length := (n1.boxed hb).lt
  have m0 : (s1 ++ [.dic (tbl i j k)])[s1.length]? = some (.dic (tbl i j k)) := by simp
  have n2 := n1.more (low_tbl i j k)
  generalize hm : s1.length = m at *
  have N2 := N.go (by omega) n2
  have ht := tolds_ok (m := m) N2.at_ m0 (ρ := [some (.lis (ns.map MV.int)), some (.ref 0), some (.ref 1), some x, some (.ref m), x5, x6, x7, x8, x9, x10, x11]) rfl rfl rfl
  simp only [sSeq_ap, sSet_ap, List.set_cons_succ, List.set_cons_zero, hv, ht, Res.st_ok, SRes.seq_nx]
  generalize hs2 : s1 ++ [.dic (tbl i j k)] = s2 at *
  clear hv ht
  -- e, c
  have hb2 := N2.bx
  obtain ⟨e, i1, j1, oe, he, ne, e1⟩ := expr_ok (nm := abc) (by simp) sh_abc (by simp) (by omega) 3 19 (by omega) s2 N2
  have p1 := hb2.near.set hb2.lt i1 j1
  generalize hs3 : s2.set 0 (bx i1 j1) = s3 at e1 p1
  obtain ⟨c, i2, j2, oc, hc, nc, e2⟩ := cond_ok (nm := abc) (by simp) sh_abc (by simp) (by omega) 2 19 (by omega) s3 (N2.go (by omega) p1)
  have p2 := p1.set hb2.lt i2 j2
  generalize hs4 : s3.set 0 (bx i2 j2) = s4 at e2 p2
  have m2 : s4[m]? = some (.dic (tbl i j k)) := p2.other (by omega) m0
  have f1 := value_of_ok (D := 19) (s := s4) (i := i) (j := j) (k := k) e (by omega) oe (fun x hx => mem_abc (ne x hx))
  have f2 := value_ok m2 e 19 (by omega) oe (env_tbl fun x hx => mem_abc (ne x hx))
  have f3 := is_true_ok (D := 19) (s := s4) (i := i) (j := j) (k := k) c (by omega) oc (fun x hx => mem_abc (nc x hx))
  have f4 := ltrue_ok m2 c 19 (by omega) oc (env_tbl fun x hx => mem_abc (nc x hx))
  have r1 := fun i s => read_int (D := 19) (by omega) i s
  have r2 := fun i s => read_bl (D := 19) (by omega) i s
  change (callN 19).l_expr [.ref 0, .ref 1, .int 3] _ = _ at e1
  change (callN 19).l_cond [.ref 0, .ref 1, .int 2] _ = _ at e2
  -- the type
  obtain ⟨lo, s5, e3, _, p3⟩ := draw_near (D := 19) (by omega) hb2 p2 (m := 40) (by omega) (by omega)
  obtain ⟨wi, s6, e4, _, p4⟩ := draw_near (D := 19) (by omega) hb2 p3 (m := 12) (by omega) (by omega)
  have p5 := p4.more (c := .lst [.str "v"]) (fun _ => rfl)
  have p6 := p5.more (c := .lst [.str "v", .str "a", .str "b", .str "c"]) (fun _ => rfl)
  have ga : gAdd (.ref s6.length) (.ref 1) (s6 ++ [.lst [.str "v"]]) = .ok (.ref (s6 ++ [Cell.lst [.str "v"]]).length) ((s6 ++ [.lst [.str "v"]]) ++ [.lst ([.str "v"] ++ [.str "a", .str "b", .str "c"])]) :=
    gAdd_lst (by simp) (N2.go (by omega) p5).at_ (by simp)
  have hl6 : 0 < s6.length := (p4.boxed hb2).lt
  have q : ((s6 ++ [.lst [.str "v"]]) ++ [.lst [.str "v", .str "a", .str "b", .str "c"]])[(s6 ++ [Cell.lst [.str "v"]]).length]? = some (.lst (("v" :: abc).map MV.str)) := by simp
  simp only [List.cons_append, List.nil_append] at ga
  generalize hs7 : (s6 ++ [.lst [.str "v"]]) ++ [.lst [.str "v", .str "a", .str "b", .str "c"]] = s7 at *
  generalize hn7 : (s6 ++ [Cell.lst [.str "v"]]).length = n7 at *
  have hn0 : n7 ≠ 0 := by rw [← hn7]; simp
  obtain ⟨t, i3, j3, ot, hth, nt, e5⟩ := cond_ok (nm := "v" :: abc) (by simp) sh_vabc (by simp) hn0 2 19 (by omega) s7 ⟨p6.boxed hb2, q⟩
  have p7 := p6.set hb2.lt i3 j3
  generalize hs8 : s7.set 0 (bx i3 j3) = s8 at e5 p7
  change (callN 19).l_cond [.ref 0, .ref n7, .int 2] _ = _ at e5
  obtain ⟨w2, s9, e6, _, p8⟩ := draw_near (D := 19) (by omega) hb2 p7 (m := 12) (by omega) (by omega)
  have m9 : s9[m]? = some (.dic (tbl i j k)) := p8.other (by omega) m0
  simp [e1, e2, f1, f2, f3, f4, r1, r2, e3, e4, ga, e5, e6]
  have N9 := N2.go (by omega) p8
  refine loop_on (fun ρ s => s = s9 ∧ ∃ y8, ρ = [some (.lis (ns.map MV.int)), some (.ref 0), some (.ref 1), some x, some (.ref m), some (tld i j k), some (.int (lo - 20)), some (.tup [.int (lo - 20), .int (lo - 20 + wi), t.emb]), y8, some e.emb, some c.emb, x11]) _ ⟨rfl, _, rfl⟩ ?_ ?_
  · rintro y hy ρ s ⟨rfl, y8, rfl⟩
    have hy : ∃ v : Int, y = .int v := by
      simp only [List.mem_cons, List.not_mem_nil, or_false] at hy
      rcases hy with rfl | rfl | rfl | rfl | rfl <;> exact ⟨_, rfl⟩
    obtain ⟨v, rfl⟩ := hy
    have g1 := fits_ok (D := 19) (s := s) (i := i) (j := j) (k := k) (v := v) (lo := lo - 20) (hi := lo - 20 + wi) t (by omega) ot fun x hx => mem_vabc (nt x hx)
    have g2 := lfits_ok (D := 19) (v := v) (lo := lo - 20) (hi := lo - 20 + wi) t (by omega) ot m9 fun x hx => mem_vabc (nt x hx)
    refine ⟨_, _, rfl, ?_⟩
    simp [g1, g2, r2]
    exact ⟨_, _, ⟨rfl, rfl⟩, rfl, _, rfl⟩
  · rintro ρ s ⟨rfl, y8, rfl⟩
    have g1 := value_of_d (D := 19) (s := s) (i := i) (j := j) (k := k) e (by omega) oe (fun x hx => mem_abc (ne x hx))
    simp [g1]
    exact ⟨_, _, ⟨rfl, rfl⟩, N9, _, _, _, _, _, _, _, _, _, rfl⟩
end L_k02_language

set_option Elab.async false
set_option maxRecDepth 100000
open PySem PySem.W PyProof.Rows
set_option maxHeartbeats 0 in
theorem PySem.Challenge.cw_truetotype_k02_language_holds : PySem.Challenge.rw_truetotype_k02_language.Holds := by
  w_on; o_law
  refine L_k02_language.holds_of (d := 20) (by decide) L_k02_language.plain ?_
  w_witness2

