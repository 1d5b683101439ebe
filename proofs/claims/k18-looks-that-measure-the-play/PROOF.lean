import PyProof.Rows.All
import Wide.All
import OpenK.AllK
import Wide.FinOn
import HandS.Base
import HandS.Call
import HandS.List
import HandS.Lambda
import KE.KeyNested
import KE.KDictKeyed
import HandS.Dict
import HandS.Iter
import HandS.ForMost
import HandS.ForExc
import HandS.Wide
import HandS.TupAny
import HandS.Conv
import HandS.Zip
import HandS.NoneIn
import HandS.IsInst
import HandS.CallLocal
import HandS.Style
import HandS.Deep
import HandS.Flow
import HandS.ExcCtx
import HandS.ExcOwn
import HandS.TupMul
import KE.DataEq
import KE.KTupSum
import HandS.Hot
import HandS.HotCalls
import HandS.ExcIs
import HandS.EndTab
import KE.GoesZip
import HandS.Head0
import HandS.Head1
import HandS.Head2
import HandS.HeadEnd
import HandS.HeadHook1
import HandS.HeadHook2
import HandS.HeadHook3
import HandS.HeadHook4
import HandS.HeadNt
import HandS.HeadWalk
import KE.KDictWalk
import KE.SortData
import KE.KDictCopyH
import KE.KDictSum
import HandS.SortInts
import PySem.Challenge.RW_screwplay_k18_looks_that_measure_the_pla
set_option Elab.async false
set_option linter.all false
set_option maxRecDepth 100000
set_option maxHeartbeats 4000000
set_option exponentiation.threshold 2000
/-! DLnd: dicts whose keys are of any depth (ints, truths, texts, None, tuples of these): at the level of the layer L2. -/
namespace L2
open PySem PySem.Spec PyProof.Rows
mutual
/-- a value as a key -/
inductive NkIs (K : PySem.W.Frag) (H : Hp) : V → NestedKey → Prop
  | non : NkIs K H .non .none
  | bl (b : Bool) : NkIs K H (.bl b) (.num (if b = true then 1 else 0))
  | int (i : Int) : NkIs K H (.int i) (.num i)
  | str (x : Str) : NkIs K H (.str x) (.text x)
  | tup {a : Addr} {vs : List V} {ks : List NestedKey} : SqT K H a vs → NkAll K H vs ks → NkIs K H (.ref a) (.tup ks)
inductive NkAll (K : PySem.W.Frag) (H : Hp) : List V → List NestedKey → Prop
  | nil : NkAll K H [] []
  | cons {v : V} {k : NestedKey} {vs : List V} {ks : List NestedKey} : NkIs K H v k → NkAll K H vs ks → NkAll K H (v :: vs) (k :: ks)
end
section
variable {X : Cx} {pins : List (Addr × Obj)} {σ : St} {H : Hp} {s : Shared}
mutual
theorem NkIs.nested (I : Inv X pins σ H s) : ∀ {v : V} {k : NestedKey} {u : Value}, NkIs X.K H v k → RelV v u → NestedIs s.heap k u
  | _, _, _, .non, r => by cases r; exact .none
  | _, _, _, .bl b, r => by cases r; exact .bool rfl
  | _, _, _, .int i, r => by obtain ⟨t, rfl⟩ := r; exact .int _ _
  | _, _, _, .str x, r => by obtain ⟨t, rfl⟩ := r; exact .text _ _
  | _, _, _, .tup h hs, r => by
    cases r
    obtain ⟨its, r1, ht, _⟩ := I.tuple h
    obtain ⟨o, ho, hc, n, hd⟩ := ht
    exact .tup ho hc hd (by simpa using NkAll.nested I hs r1)
theorem NkAll.nested (I : Inv X pins σ H s) : ∀ {vs : List V} {ks : List NestedKey} {us : List Value}, NkAll X.K H vs ks → Vals vs us → NestedAll s.heap ks us
  | _, _, _, .nil, .nil => .nil
  | _, _, _, .cons h hs, .cons r rs => .cons (NkIs.nested I h r) (NkAll.nested I hs rs)
end
/-- a dict's entries: keys, where they stand, values -/
abbrev NEs := List (NestedKey × Addr × Value)
def ndP (P : Program) (w : World) (a : Addr) (xs : NEs) (ep : Nat) (h : Heap) : Prop := (a == sysModules) = false ∧ xs.length ≤ sizeLine ∧ (xs.map (·.1)).Nodup ∧ ∃ o es, h.get? a = some o ∧ o.ExactDict ∧ o.data = .dict es ep ∧ es.toList = xs.map (entryOfKey (nestedKind P w))
/-- such a dict at a -/
def ndO (P : Program) (w : World) (a : Addr) (xs : NEs) (ep : Nat) : HO := .ext (ndP P w a xs ep)
theorem ndP.ok {P : Program} {w : World} {a : Addr} {xs : NEs} {ep : Nat} {h : Heap} {H : Hp} (p : ndP P w a xs ep h) : ObjOk P w H h a (ndO P w a xs ep) :=
  ⟨p, let ⟨_, _, _, o, _, e, _⟩ := p; ⟨o, e⟩, fun h1 h2 q k => let ⟨a1, a2, a3, o, es, e, r⟩ := q; ⟨a1, a2, a3, o, es, k _ e, r⟩⟩
/-- its keys, as H tells them -/
def KeysAt (K : PySem.W.Frag) (H : Hp) (xs : NEs) : Prop := ∀ x ∈ xs, NkIs K H (.ref x.2.1) x.1 ∧ x.1.depth ≤ 8
theorem nd_of (I : Inv X pins σ H s) {a : Addr} {xs : NEs} {ep : Nat} (e : H a = some (ndO X.prog X.w a xs ep)) (ks : KeysAt X.K H xs) : (a == sysModules) = false ∧ xs.length ≤ sizeLine ∧ s.heap.DictOfH (nestedKind X.prog X.w) a xs := by
  obtain ⟨⟨h1, h2, h3, o, es, e1, e2, e3, e4⟩, _, _⟩ := I.hok a _ e
  exact ⟨h1, h2, o, es, ep, e1, e2, e3, e4, fun x hx => ⟨NkIs.nested I (ks x hx).1 rfl, (ks x hx).2⟩, h3⟩
theorem nd_empty {P : Program} {w : World} {H : Hp} (h : Heap) (hb : sysModules < h.objs.size) : ObjOk P w H (h.push { cls := .type "dict", data := .dict #[] }) h.objs.size (ndO P w h.objs.size [] 0) :=
  ndP.ok ⟨beq_eq_false_iff_ne.mpr (Ne.symm (Nat.ne_of_lt hb)), Nat.zero_le _, List.nodup_nil, _, #[], Heap.get?_push_size _ rfl, ⟨rfl, rfl, rfl⟩, rfl, rfl⟩
def tNdNew (P : Program) (w : World) : TE := fun _ H Q => ∀ p, H p = none → Q (.ref p) (upd H p (ndO P w p [] 0))
theorem pe_ndnew {pos : Pos} : PE X (.Dict [] [] pos) (tNdNew X.prog X.w) := ⟨fun pins s σ H Q I h =>
  wpAny_Dict_empty ⟨.ref s.heap.objs.size, _, I.laid (a := s.heap.objs.size) (o := ndO X.prog X.w s.heap.objs.size [] 0) (t' := s.toks) (fun _ _ q => Heap.get?_push_of_some _ q) (Nat.le_refl _) (nd_empty s.heap I.big), rfl, h _ (I.hok.fresh (Nat.le_refl _))⟩⟩
theorem storedH_len {xs : NEs} {k : NestedKey} {b : Addr} {v : Value} : (storedH xs k b v).length ≤ xs.length + 1 := by
  unfold storedH
  split <;> simp
variable {A : Around} {E : Value → Shared → Prop}
/-- d[k] = v -/
theorem nd_setItem {Q : Unit → Shared → Prop} {a b : Addr} {xs : NEs} {ep : Nat} {k : NestedKey} {r : Value} (hu : A.units + 10 < cLine) (I : Inv X pins σ H s) (e : H a = some (ndO X.prog X.w a xs ep)) (ks : KeysAt X.K H xs) (hk : NkIs X.K H (.ref b) k) (hd : k.depth ≤ 8) (hl : xs.length < sizeLine)
    (h : ∀ ep' s', Inv X pins σ (upd H a (ndO X.prog X.w a (storedH xs k b r) ep')) s' → Q () s') : wpAny (model X.prog X.w) A (setItem (.ref a) (.ref b) r) Q E s := by
  obtain ⟨h1, h2, dd⟩ := nd_of I e ks
  refine wpAny_setItem_heap (knd := nestedKind X.prog X.w) (hsz := h2) (by show A.units + 1 + 8 < cLine; omega) ⟨NkIs.nested I hk rfl, hd⟩ dd fun h' dd' hs => ?_
  obtain ⟨q, es, ep', hq, e2, e3, e4, _, e5⟩ := dd'
  refine h ep' _ ?_
  refine d_write I (by rw [e]; exact True.intro) hs ⟨q, hq⟩ (ndP.ok ⟨h1, ?_, e5, q, es, hq, e2, e3, e4⟩)
  have := storedH_len (xs := xs) (k := k) (b := b) (v := r)
  omega
/-- k in d -/
theorem nd_in {Q : Value → Shared → Prop} {a b : Addr} {xs : NEs} {ep : Nat} {k : NestedKey} (hu : A.units + 10 < cLine) (I : Inv X pins σ H s) (e : H a = some (ndO X.prog X.w a xs ep)) (ks : KeysAt X.K H xs) (hk : NkIs X.K H (.ref b) k) (hd : k.depth ≤ 8)
    (h : ∀ s', Inv X pins σ H s' → Q (.bool (atKey xs k).isSome) s') : wpAny (model X.prog X.w) A (compareOp .In (.ref b) (.ref a)) Q E s := by
  obtain ⟨h1, h2, dd⟩ := nd_of I e ks
  refine wpAny_in_heap (knd := nestedKind X.prog X.w) (by show A.units + 1 + 8 < cLine; omega) ⟨NkIs.nested I hk rfl, hd⟩ h1 dd ?_
  exact h _ (I.tok _)
theorem nd_notIn {Q : Value → Shared → Prop} {a b : Addr} {xs : NEs} {ep : Nat} {k : NestedKey} (hu : A.units + 10 < cLine) (I : Inv X pins σ H s) (e : H a = some (ndO X.prog X.w a xs ep)) (ks : KeysAt X.K H xs) (hk : NkIs X.K H (.ref b) k) (hd : k.depth ≤ 8)
    (h : ∀ s', Inv X pins σ H s' → Q (.bool (!(atKey xs k).isSome)) s') : wpAny (model X.prog X.w) A (compareOp .NotIn (.ref b) (.ref a)) Q E s := by
  obtain ⟨h1, h2, dd⟩ := nd_of I e ks
  refine wpAny_notIn_heap (knd := nestedKind X.prog X.w) (by show A.units + 1 + 8 < cLine; omega) ⟨NkIs.nested I hk rfl, hd⟩ h1 dd ?_
  exact h _ (I.tok _)
/-- d[k] -/
theorem nd_getItem {Q : Value → Shared → Prop} {a b : Addr} {xs : NEs} {ep : Nat} {k : NestedKey} {p : Addr × Value} (hu : A.units + 10 < cLine) (I : Inv X pins σ H s) (e : H a = some (ndO X.prog X.w a xs ep)) (ks : KeysAt X.K H xs) (hk : NkIs X.K H (.ref b) k) (hd : k.depth ≤ 8) (hp : atKey xs k = some p)
    (h : ∀ s', Inv X pins σ H s' → Q p.2 s') : wpAny (model X.prog X.w) A (getItem (.ref a) (.ref b)) Q E s := by
  obtain ⟨h1, h2, dd⟩ := nd_of I e ks
  refine wpAny_getItem_heap (knd := nestedKind X.prog X.w) (by show A.units + 1 + 8 < cLine; omega) ⟨NkIs.nested I hk rfl, hd⟩ dd hp ?_
  exact h _ (I.tok _)
/-- d.get(k, x) -/
theorem nd_get2 {Q : Value → Shared → Prop} {a b : Addr} {xs : NEs} {ep : Nat} {k : NestedKey} {r : Value} (hu : A.units + 10 < cLine) (I : Inv X pins σ H s) (e : H a = some (ndO X.prog X.w a xs ep)) (ks : KeysAt X.K H xs) (hk : NkIs X.K H (.ref b) k) (hd : k.depth ≤ 8)
    (h : ∀ s', Inv X pins σ H s' → Q (((atKey xs k).map (·.2)).getD r) s') : wpAny (model X.prog X.w) A (call (.builtin "dict.get") [.ref a, .ref b, r]) Q E s := by
  obtain ⟨h1, h2, dd⟩ := nd_of I e ks
  exact call_meetsIn PySem.F.slot_dict_get dd.typeIs PySem.F.entry_dict_get (PySem.F.args_dict_get_3 _ _ _) (meetsH_dict_get_default (nestedKind X.prog X.w) a b h1 r) ⟨by show A.units + 1 + 8 < cLine; omega, k, xs, ⟨NkIs.nested I hk rfl, hd⟩, dd, h _ (I.tok _)⟩
end
/-! ### as expressions and statements -/
/-- the dict at a, a key -/
structure NdAt (X : Cx) (H : Hp) (a b : Addr) (xs : NEs) (ep : Nat) (k : NestedKey) : Prop where
  at_ : H a = some (ndO X.prog X.w a xs ep)
  keys : KeysAt X.K H xs
  key : NkIs X.K H (.ref b) k
  deep : k.depth ≤ 8
section
variable {X : Cx} {o i e f value : Expr} {pos pos' apos cpos : Pos} {td ty tx tv : TE}
def sNdPut (X : Cx) (td ty tv : TE) : TS := fun D σ H => tv σ H fun v H1 => td σ H1 fun x H2 => ty σ H2 fun y H3 => ∃ a b xs ep k, x = .ref a ∧ y = .ref b ∧ NdAt X H3 a b xs ep k ∧ xs.length < sizeLine ∧ ∀ r ep', RelV v r → D.nx σ (upd H3 a (ndO X.prog X.w a (storedH xs k b r) ep'))
theorem ps_ndput (hu : X.A.units + 10 < cLine) (ho : PE X o td) (hi : PE X i ty) (hv : PE X value tv) (hs : swapsWith value (some (.Subscript o i pos')) pos.line X.env = pure false) :
    PS X (.Assign [.Subscript o i pos'] value pos) (sNdPut X td ty tv) := by
  refine ⟨fun pins s σ H D I h => ?_⟩
  refine wpAny_Assign_Subscript (thn (hv.run pins s σ H _ I h) fun r s1 ⟨v, H1, I1, rv, q1⟩ => thn (ho.run pins s1 σ H1 _ I1 q1) fun u s2 ⟨x, H2, I2, rx, q2⟩ => thn (hi.run pins s2 σ H2 _ I2 q2) fun iv s3 ⟨y, H3, I3, ry, a, b, xs, ep, k, ex, ey, g, hl, q3⟩ => ?_) hs
  subst ex ey
  obtain rfl : u = Value.ref a := rx
  obtain rfl : iv = Value.ref b := ry
  exact nd_setItem hu I3 g.at_ g.keys g.key g.deep hl fun ep' s4 I4 => ⟨σ, _, I4, q3 r ep' rv⟩
def tNdIn (X : Cx) (ty td : TE) : TE := fun σ H Q => ty σ H fun y H1 => td σ H1 fun x H2 => ∃ a b xs ep k, x = .ref a ∧ y = .ref b ∧ NdAt X H2 a b xs ep k ∧ Q (.bl (atKey xs k).isSome) H2
def tNdNotIn (X : Cx) (ty td : TE) : TE := fun σ H Q => ty σ H fun y H1 => td σ H1 fun x H2 => ∃ a b xs ep k, x = .ref a ∧ y = .ref b ∧ NdAt X H2 a b xs ep k ∧ Q (.bl (!(atKey xs k).isSome)) H2
theorem pc_ndin (hu : X.A.units + 10 < cLine) (hi : PE X i ty) (ho : PE X o td) : PC X .In i o (tNdIn X ty td) := by
  refine ⟨fun pins s σ H Q I h => ?_⟩
  refine thn (hi.run pins s σ H _ I h) fun iv s1 ⟨y, H1, I1, ry, q1⟩ => thn (ho.run pins s1 σ H1 _ I1 q1) fun u s2 ⟨x, H2, I2, rx, a, b, xs, ep, k, ex, ey, g, q2⟩ => ?_
  subst ex ey
  obtain rfl : u = Value.ref a := rx
  obtain rfl : iv = Value.ref b := ry
  exact nd_in hu I2 g.at_ g.keys g.key g.deep fun s3 I3 => ⟨.bl (atKey xs k).isSome, H2, I3, rfl, q2⟩
theorem pc_ndnotin (hu : X.A.units + 10 < cLine) (hi : PE X i ty) (ho : PE X o td) : PC X .NotIn i o (tNdNotIn X ty td) := by
  refine ⟨fun pins s σ H Q I h => ?_⟩
  refine thn (hi.run pins s σ H _ I h) fun iv s1 ⟨y, H1, I1, ry, q1⟩ => thn (ho.run pins s1 σ H1 _ I1 q1) fun u s2 ⟨x, H2, I2, rx, a, b, xs, ep, k, ex, ey, g, q2⟩ => ?_
  subst ex ey
  obtain rfl : u = Value.ref a := rx
  obtain rfl : iv = Value.ref b := ry
  exact nd_notIn hu I2 g.at_ g.keys g.key g.deep fun s3 I3 => ⟨.bl (!(atKey xs k).isSome), H2, I3, rfl, q2⟩
def tNdGet (X : Cx) (td ty : TE) : TE := fun σ H Q => td σ H fun x H1 => ty σ H1 fun y H2 => ∃ a b xs ep k p v, x = .ref a ∧ y = .ref b ∧ NdAt X H2 a b xs ep k ∧ atKey xs k = some p ∧ RelV v p.2 ∧ Q v H2
theorem pe_ndget (hu : X.A.units + 10 < cLine) (ho : PE X o td) (hi : PE X i ty) (hs : NoSl i) : PE X (.Subscript o i pos) (tNdGet X td ty) := by
  refine ⟨fun pins s σ H Q I h => ?_⟩
  refine subD_of PySem.F.slot_dict_getitem.lookup hs (thn (ho.run pins s σ H _ I h) fun u s1 ⟨x, H1, I1, rx, q1⟩ => thn (hi.run pins s1 σ H1 _ I1 q1) fun iv s2 ⟨y, H2, I2, ry, a, b, xs, ep, k, p, v, ex, ey, g, hp, rp, q2⟩ => ?_)
  subst ex ey
  obtain rfl : u = Value.ref a := rx
  obtain rfl : iv = Value.ref b := ry
  exact ⟨(nd_of I2 g.at_ g.keys).2.2.typeIs, nd_getItem hu I2 g.at_ g.keys g.key g.deep hp fun s3 I3 => ⟨v, H2, I3, rp, q2⟩⟩
def tNdGet2 (X : Cx) (td ty tx : TE) : TE := fun σ H Q => td σ H fun x H1 => ∃ a xs ep, x = .ref a ∧ H1 a = some (ndO X.prog X.w a xs ep) ∧ KeysAt X.K H1 xs ∧ ty σ H1 fun y H2 => tx σ H2 fun z H3 => ∃ b xs ep k, y = .ref b ∧ NdAt X H3 a b xs ep k ∧ ∃ v, (∀ r, RelV z r → RelV v (((atKey xs k).map (·.2)).getD r)) ∧ Q v H3
theorem pe_ndget2 (hu : X.A.units + 10 < cLine) (ho : PE X o td) (he : PE X e ty) (hf : PE X f tx) (m : M2 X o "get" apos e f cpos) : PE X (.Call (.Attribute o "get" apos) [e, f] [] cpos) (tNdGet2 X td ty tx) := by
  refine ⟨fun pins s σ H Q I h => ?_⟩
  refine wpAny_Call_method m.base m.few m.line PySem.F.plainAttrs_dict PySem.F.slot_dict_get PySem.F.type_dict_get (thn (ho.run pins s σ H _ I h) fun u s1 ⟨x, H1, I1, rx, a, xs, ep, ex, hx, hks, q1⟩ => ?_)
  subst ex
  obtain rfl : u = Value.ref a := rx
  obtain ⟨_, _, dd⟩ := nd_of I1 hx hks
  refine ⟨dd.typeIs, fun b q => ?_, ?_⟩
  · cases q
    obtain ⟨ob, _, _, h1, h2, _⟩ := dd
    exact ⟨ob, h1, h2.2.1⟩
  rw [m.trees]
  refine Calls.callWith_builtin rfl (Calls.evalArgs_plain (Calls.spliced_cons (thn (he.run pins s1 σ H1 _ I1 q1) fun iv s2 ⟨y, H2, I2, ry, q2⟩ =>
    Calls.spliced_cons (thn (hf.run pins s2 σ H2 _ I2 q2) fun fv s3 ⟨z, H3, I3, rz, b, xs', ep', k, ey, g, v, rv, q3⟩ => Calls.spliced_nil ?_))))
  subst ey
  obtain rfl : iv = Value.ref b := ry
  exact nd_get2 hu I3 g.at_ g.keys g.key g.deep fun s4 I4 => ⟨v, H3, I4, rv _ rz, q3⟩
end
/-! ### a walk over its keys -/
def ItN (P : Program) (w : World) (d : Addr) (xs : NEs) (ep : Nat) : It :=
  ⟨fun i H => H d = some (ndO P w d xs ep) ∧ i < xs.length, fun i H x H' => H' = H ∧ ∃ k q v, xs[i]? = some (k, q, v) ∧ x = .ref q, fun i H => H d = some (ndO P w d xs ep) ∧ xs.length ≤ i⟩
theorem nd_ent {X : Cx} {pins : List (Addr × Obj)} {σ : St} {H : Hp} {s : Shared} (I : Inv X pins σ H s) {d : Addr} {xs : NEs} {ep : Nat} (h : H d = some (ndO X.prog X.w d xs ep)) :
    (d == sysModules) = false ∧ ∃ (o : Obj) (es : Array DictEntry), s.heap.get? d = some o ∧ o.ExactDict ∧ o.data = .dict es ep ∧ es.size = xs.length ∧ ∀ (i : Nat) (k : NestedKey) (q : Addr) (v : Value), xs[i]? = some (k, q, v) → ∃ en : DictEntry, es[i]? = some en ∧ en.key = .ref q ∧ en.val = v := by
  obtain ⟨⟨h1, h2, h3, o, es, e1, e2, e3, e4⟩, _, _⟩ := I.hok d _ h
  refine ⟨h1, o, es, e1, e2, e3, size_of_entries e4, fun i k q v e => ?_⟩
  have z := entry_at e4 i
  rw [e] at z
  exact ⟨_, z, rfl, rfl⟩
theorem turn_keysN {P : Program} {w : World} {K : PySem.W.Frag} {tg : Expr} {d : Addr} {xs : NEs} {ep : Nat} (it : Addr) : Turn P w K tg (ItN P w d xs ep) [it] it (fun i h => h.IsKeyIter it d i xs.length ep) where
  mem := by simp
  obj := fun i h st b hb => by
    have e : b = it := by simpa using hb
    subst e
    obtain ⟨oi, e, c, dd⟩ := st
    exact ⟨oi, e, fun v z => by rw [dd] at z; cases z⟩
  keep := fun i h h' st k => st.at fun oi e => k it (by simp) oi e
  item := by
    intro X hP hw hK hc i pins s σ H E I hf st hg
    subst hP hw hK
    obtain ⟨hd, hi⟩ := hg
    obtain ⟨f0, f1, f2, f3, f4, f5⟩ := hf it (by simp)
    obtain ⟨hs, od, es, hgd, hx, hdt, hsz, ent⟩ := nd_ent I hd
    obtain ⟨⟨k, q, v⟩, hkv⟩ : ∃ p, xs[i]? = some p := ⟨xs[i], List.getElem?_eq_getElem hi⟩
    obtain ⟨en, hen, hkey, _⟩ := ent i k q v hkv
    refine next_key_item st hgd hdt hsz hen fun h' st' sb => ?_
    have I1 : Inv X pins σ H { s with heap := h' } := I.turned (t' := s.toks) (fun b ob hb e => (sb.2 b hb).trans e) f0 f1 f3 f4 f5
    obtain ⟨oi, e, c, dd⟩ := id st'
    exact ⟨en.key, rfl, go_of (s := { s with heap := h' }) e c dd (by decide) ⟨.ref q, H, I1, hkey, ⟨rfl, k, q, v, hkv, rfl⟩, st', fun b hb => (hf b hb).1⟩⟩
  done := by
    intro X hP hw hK hc i pins s σ H E I hf st hg
    subst hP hw hK
    obtain ⟨hd, hi⟩ := hg
    obtain ⟨f0, f1, f2, f3, f4, f5⟩ := hf it (by simp)
    obtain ⟨hs, od, es, hgd, hx, hdt, hsz, ent⟩ := nd_ent I hd
    exact next_key_end (I.ok.hd hc) st hgd hdt hsz hi fun h' eb => ⟨rfl, I.turned (t' := s.toks) (fun b ob hb e => eb b ob hb e) f0 f1 f3 f4 f5⟩
  self := fun A i s Q E st h => wpAny_pyIter_keyiter st h
def iKeysN (X : Cx) (td : TE) : TI := fun σ H R => td σ H fun x H1 => ∃ d xs ep, x = .ref d ∧ H1 d = some (ndO X.prog X.w d xs ep) ∧ R (ItN X.prog X.w d xs ep) H1
theorem pi_keysN {X : Cx} {tg e : Expr} {td : TE} (he : PE X e td) : PI X tg e (iKeysN X td) := by
  refine ⟨fun pins s σ H R I h => ?_⟩
  refine thn (he.run pins s σ H _ I h) fun u s1 ⟨x, H1, I1, rx, d, xs, ep, ex, hd, q⟩ => ?_
  subst ex
  obtain rfl : u = Value.ref d := rx
  obtain ⟨hs, od, es, hgd, hx, hdt, hsz, ent⟩ := nd_ent I1 hd
  refine iter_keys hs hgd hx hdt (pi_one (tk := s1.toks) I1 _ (turn_keysN (xs := xs) (ep := ep) _) ⟨_, Heap.get?_push_size _ rfl, rfl, ?_⟩ q)
  rw [hsz] <;> rfl
/-! ### a dict is no code object -/
theorem codeO_nd {P : Program} {w : World} {a c : Addr} {q : Str} {xs : NEs} {ep : Nat} : LamX.CodeO c q ≠ ndO P w a xs ep := fun z => by
  unfold LamX.CodeO ndO at z
  have e := HO.ext.inj z
  have q1 : (⟨Array.replicate (c + 1) { cls := .none, data := .fields #[.none, .str q 0] }, {}⟩ : Heap).get? c = some { cls := .none, data := .fields #[.none, .str q 0] } := by
    unfold Heap.get?
    simp [Array.getElem?_replicate]
  have q2 := congrFun e (⟨Array.replicate (c + 1) { cls := .none, data := .fields #[.none, .str q 0] }, {}⟩ : Heap)
  have q3 : ndP P w a xs ep (⟨Array.replicate (c + 1) { cls := .none, data := .fields #[.none, .str q 0] }, {}⟩ : Heap) := by
    rw [← q2]
    exact ⟨_, _, 0, q1, rfl, rfl⟩
  obtain ⟨_, _, _, o, es, e1, _, e3, _⟩ := q3
  unfold Heap.get? at e1
  simp only [Array.getElem?_replicate] at e1
  by_cases hb : a < c + 1
  · rw [if_pos hb] at e1
    cases e1
    cases e3
  · rw [if_neg hb] at e1
    cases e1
end L2
/-! DLa: data, memory, what a state says; readings by plain functions. -/
namespace DL
open PySem PySem.Spec PyProof.Rows L2

/-- data -/
inductive D where
  | non | bl (b : Bool) | int (i : Int) | str (x : Str) | tup (xs : List D) | lst (xs : List D)
  | ins (c : Nat) (fs : List (Str × D)) | fn (n : Nat) | scr (ns : List Int) | dct (kvs : List (D × D))

/-- a value: data, or the l-th mutable object -/
inductive Vl where
  | d (x : D) | p (l : Nat)
/-- a mutable object -/
inductive O where
  | lst (xs : List D) | ins (c : Nat) (fs : List (Str × D)) | dead | tab (n : Nat) (q : Str) | dct (kvs : List (D × D))
/-- an exception: its class, what its own dict holds under "line" -/
structure Exn where
  c : Nat
  pl : Option D
abbrev Mem := List O
abbrev Env := List (Option Vl)
inductive R (α : Type) where
  | ok (a : α) (m : Mem) | er (e : Exn) (m : Mem) | no

/-- the written part, where defs and classes stand -/
structure Z where
  K : PySem.W.Frag
  fa : Nat → Addr
  P : Program
  w : World

mutual
def keyD : D → Option NestedKey
  | .non => some .none
  | .bl b => some (.num (if b = true then 1 else 0))
  | .int i => some (.num i)
  | .str x => some (.text x)
  | .tup xs => (keyDs xs).map .tup
  | _ => none
def keyDs : List D → Option (List NestedKey)
  | [] => some []
  | x :: xs => (keyD x).bind fun k => (keyDs xs).map (k :: ·)
end
mutual
inductive Rp (z : Z) (H : Hp) : V → D → Prop
  | non : Rp z H .non .non
  | bl (b : Bool) : Rp z H (.bl b) (.bl b)
  | int (i : Int) : Rp z H (.int i) (.int i)
  | str (x : Str) : Rp z H (.str x) (.str x)
  | tup {a : Addr} {xs : List V} {ds : List D} : SqT z.K H a xs → RpL z H xs ds → Rp z H (.ref a) (.tup ds)
  | lst {a : Addr} {xs : List V} {ds : List D} : H a = some (.lst xs) → RpL z H xs ds → Rp z H (.ref a) (.lst ds)
  | ins {a dx : Addr} {c : Nat} {fs : List (Str × V)} {gs : List (Str × D)} : H a = some (.ins (z.fa c) dx fs) → RpF z H fs gs → Rp z H (.ref a) (.ins c gs)
  | fn (n : Nat) : Rp z H (.ref (z.fa n)) (.fn n)
  | scr {a : Addr} {ns : List Int} : SqL z.K H a (ns.map V.int) → Rp z H (.ref a) (.scr ns)
  | dct {a : Addr} {xs : NEs} {ep : Nat} {kvs : List (D × D)} : H a = some (ndO z.P z.w a xs ep) → RpE z H xs kvs → Rp z H (.ref a) (.dct kvs)
inductive RpL (z : Z) (H : Hp) : List V → List D → Prop
  | nil : RpL z H [] []
  | cons {v : V} {vs : List V} {d : D} {ds : List D} : Rp z H v d → RpL z H vs ds → RpL z H (v :: vs) (d :: ds)
inductive RpF (z : Z) (H : Hp) : List (Str × V) → List (Str × D) → Prop
  | nil : RpF z H [] []
  | cons {f : Str} {v : V} {vs : List (Str × V)} {d : D} {ds : List (Str × D)} : Rp z H v d → RpF z H vs ds → RpF z H ((f, v) :: vs) ((f, d) :: ds)
inductive RpE (z : Z) (H : Hp) : NEs → List (D × D) → Prop
  | nil : RpE z H [] []
  | cons {k : NestedKey} {q : Addr} {r : Value} {kd vd : D} {v : V} {xs : NEs} {kvs : List (D × D)} : Rp z H (.ref q) kd → keyD kd = some k → k.depth ≤ 8 → RelV v r → Rp z H v vd → RpE z H xs kvs → RpE z H ((k, q, r) :: xs) ((kd, vd) :: kvs)
end

/-- what was tracked stands -/
abbrev Ext (H H' : Hp) : Prop := ∀ b o, H b = some o → H' b = some o
theorem Ext.refl (H : Hp) : Ext H H := fun _ _ h => h
theorem Ext.trans {H H1 H2 : Hp} (a : Ext H H1) (b : Ext H1 H2) : Ext H H2 := fun x o h => b x o (a x o h)
theorem Ext.new {H : Hp} {p : Addr} {o : HO} (h : H p = none) : Ext H (upd H p o) := fun a u e => by
  rw [upd_ne (ne_of_none e h)]
  exact e
theorem ext_sqT {K : PySem.W.Frag} {H H' : Hp} {a : Addr} {xs : List V} (e : Ext H H') (h : SqT K H a xs) : SqT K H' a xs := by
  rcases h with (h | ⟨o, h⟩) | h
  · exact .inl (.inl (e _ _ h))
  · exact .inl (.inr ⟨o, e _ _ h⟩)
  · exact .inr h
theorem ext_sqL {K : PySem.W.Frag} {H H' : Hp} {a : Addr} {xs : List V} (e : Ext H H') (h : SqL K H a xs) : SqL K H' a xs := by
  rcases h with (h | ⟨o, h⟩) | h
  · exact .inl (.inl (e _ _ h))
  · exact .inl (.inr ⟨o, e _ _ h⟩)
  · exact .inr h

section
variable {z : Z} {H H' : Hp}
mutual
theorem Rp.ext (e : Ext H H') : ∀ {v : V} {d : D}, Rp z H v d → Rp z H' v d
  | _, _, .non => .non
  | _, _, .bl b => .bl b
  | _, _, .int i => .int i
  | _, _, .str x => .str x
  | _, _, .tup h r => .tup (ext_sqT e h) (RpL.ext e r)
  | _, _, .lst h r => .lst (e _ _ h) (RpL.ext e r)
  | _, _, .ins h r => .ins (e _ _ h) (RpF.ext e r)
  | _, _, .fn n => .fn n
  | _, _, .scr h => .scr (ext_sqL e h)
  | _, _, .dct h r => .dct (e _ _ h) (RpE.ext e r)
theorem RpL.ext (e : Ext H H') : ∀ {v : List V} {d : List D}, RpL z H v d → RpL z H' v d
  | _, _, .nil => .nil
  | _, _, .cons h r => .cons (Rp.ext e h) (RpL.ext e r)
theorem RpF.ext (e : Ext H H') : ∀ {v : List (Str × V)} {d : List (Str × D)}, RpF z H v d → RpF z H' v d
  | _, _, .nil => .nil
  | _, _, .cons h r => .cons (Rp.ext e h) (RpF.ext e r)
theorem RpE.ext (e : Ext H H') : ∀ {xs : NEs} {kvs : List (D × D)}, RpE z H xs kvs → RpE z H' xs kvs
  | _, _, .nil => .nil
  | _, _, .cons h a b c d r => .cons (Rp.ext e h) a b c (Rp.ext e d) (RpE.ext e r)
end
theorem RpL.length : ∀ {v : List V} {d : List D}, RpL z H v d → v.length = d.length
  | _, _, .nil => rfl
  | _, _, .cons _ r => by simp [RpL.length r]
theorem RpL.append : ∀ {v v2 : List V} {d d2 : List D}, RpL z H v d → RpL z H v2 d2 → RpL z H (v ++ v2) (d ++ d2)
  | _, _, _, _, .nil, h => h
  | _, _, _, _, .cons h r, h2 => .cons h (RpL.append r h2)
theorem RpL.get : ∀ {v : List V} {d : List D} {i : Nat} {x : V}, RpL z H v d → v[i]? = some x → ∃ y, d[i]? = some y ∧ Rp z H x y
  | _, _, _, _, .nil, h => by simp at h
  | _, _, 0, _, .cons h _, e => by simp at e; subst e; exact ⟨_, by simp, h⟩
  | _, _, i + 1, x, .cons _ r, e => by
    obtain ⟨y, h1, h2⟩ := RpL.get (i := i) r (by simpa using e)
    exact ⟨y, by simpa using h1, h2⟩
theorem RpL.get' : ∀ {v : List V} {d : List D} {i : Nat} {y : D}, RpL z H v d → d[i]? = some y → ∃ x, v[i]? = some x ∧ Rp z H x y
  | _, _, _, _, .nil, h => by simp at h
  | _, _, 0, _, .cons h _, e => by simp at e; subst e; exact ⟨_, by simp, h⟩
  | _, _, i + 1, x, .cons _ r, e => by
    obtain ⟨y, h1, h2⟩ := RpL.get' (i := i) r (by simpa using e)
    exact ⟨y, by simpa using h1, h2⟩
theorem RpL.set {x : V} {y : D} (h : Rp z H x y) : ∀ {v : List V} {d : List D} (i : Nat), RpL z H v d → RpL z H (v.set i x) (d.set i y)
  | _, _, _, .nil => .nil
  | _, _, 0, .cons _ r => .cons h r
  | _, _, i + 1, .cons q r => .cons q (RpL.set h i r)
theorem RpL.take : ∀ {v : List V} {d : List D} (n : Nat), RpL z H v d → RpL z H (v.take n) (d.take n)
  | _, _, 0, _ => .nil
  | _, _, _ + 1, .nil => .nil
  | _, _, n + 1, .cons r t => .cons r (RpL.take n t)
theorem RpL.drop : ∀ {v : List V} {d : List D} (n : Nat), RpL z H v d → RpL z H (v.drop n) (d.drop n)
  | _, _, 0, r => r
  | _, _, _ + 1, .nil => .nil
  | _, _, n + 1, .cons _ t => RpL.drop n t
theorem RpL.reverse : ∀ {v : List V} {d : List D}, RpL z H v d → RpL z H v.reverse d.reverse
  | _, _, .nil => .nil
  | _, _, .cons h r => by
    rw [List.reverse_cons, List.reverse_cons]
    exact (RpL.reverse r).append (.cons h .nil)
theorem RpL.dropLast : ∀ {v : List V} {d : List D}, RpL z H v d → RpL z H v.dropLast d.dropLast
  | _, _, .nil => .nil
  | _, _, .cons _ .nil => .nil
  | _, _, .cons h (.cons h2 r) => .cons h (RpL.dropLast (.cons h2 r))
theorem RpL.rep {v : List V} {d : List D} (h : RpL z H v d) : ∀ n : Nat, RpL z H (List.replicate n v).flatten (List.replicate n d).flatten
  | 0 => .nil
  | n + 1 => by
    rw [List.replicate_succ, List.replicate_succ, List.flatten_cons, List.flatten_cons]
    exact h.append (RpL.rep h n)
theorem RpL.ints : ∀ (ns : List Int), RpL z H (ns.map V.int) (ns.map D.int)
  | [] => .nil
  | n :: ns => .cons (.int n) (RpL.ints ns)
theorem RpL.int_of : ∀ {v : List V} {ns : List Int}, RpL z H v (ns.map D.int) → v = ns.map V.int
  | _, [], h => by cases h; rfl
  | _, n :: ns, h => by
    cases h with
    | cons h r =>
      cases h
      rw [RpL.int_of r]
      rfl
theorem RpL.strs : ∀ (ns : List Str), RpL z H (ns.map V.str) (ns.map D.str)
  | [] => .nil
  | n :: ns => .cons (.str n) (RpL.strs ns)
theorem RpL.str_of : ∀ {v : List V} {ns : List Str}, RpL z H v (ns.map D.str) → v = ns.map V.str
  | _, [], h => by cases h; rfl
  | _, n :: ns, h => by
    cases h with
    | cons h r =>
      cases h
      rw [RpL.str_of r]
      rfl
theorem RpL.bl_of : ∀ {v : List V} {ns : List Bool}, RpL z H v (ns.map D.bl) → v = ns.map V.bl
  | _, [], h => by cases h; rfl
  | _, n :: ns, h => by
    cases h with
    | cons h r =>
      cases h
      rw [RpL.bl_of r]
      rfl
theorem RpF.lookup {f : Str} : ∀ {v : List (Str × V)} {d : List (Str × D)} {y : D}, RpF z H v d → d.lookup f = some y → ∃ x, v.lookup f = some x ∧ Rp z H x y
  | _, _, _, .nil, h => by simp at h
  | (g, x) :: vs, (_, y) :: ds, w, .cons h r, e => by
    rw [List.lookup_cons] at e ⊢
    cases q : f == g with
    | true =>
      rw [q] at e
      simp only [Option.some.injEq] at e
      subst e
      exact ⟨x, rfl, h⟩
    | false =>
      rw [q] at e
      exact RpF.lookup r e
theorem RpF.lookup_none {f : Str} : ∀ {v : List (Str × V)} {d : List (Str × D)}, RpF z H v d → d.lookup f = none → v.lookup f = none
  | _, _, .nil, h => rfl
  | (g, x) :: vs, (_, y) :: ds, .cons h r, e => by
    rw [List.lookup_cons] at e ⊢
    cases q : f == g with
    | true => rw [q] at e; cases e
    | false =>
      rw [q] at e
      exact RpF.lookup_none r e
theorem RpF.length : ∀ {v : List (Str × V)} {d : List (Str × D)}, RpF z H v d → v.length = d.length
  | _, _, .nil => rfl
  | _, _, .cons _ r => by simp [RpF.length r]
end

/-! ### hidden addresses, memory -/
def O.live : O → Bool
  | .dead => false
  | _ => true
/-- where the live objects stand -/
def liv : List Addr → Mem → List Addr
  | a :: ι, o :: m => if o.live then a :: liv ι m else liv ι m
  | _, _ => []
def hid (L : List Addr) (H : Hp) : Hp := fun b => if b ∈ L then none else H b
theorem hid_some {L : List Addr} {H : Hp} {b : Addr} {o : HO} : hid L H b = some o ↔ b ∉ L ∧ H b = some o := by
  unfold hid
  split
  · rename_i h; constructor
    · intro q; cases q
    · intro q; exact absurd h q.1
  · rename_i h; exact ⟨fun q => ⟨h, q⟩, fun q => q.2⟩
theorem hid_ext {L : List Addr} {H : Hp} : Ext (hid L H) H := fun b o h => (hid_some.mp h).2
theorem hid_mono {L : List Addr} {H H' : Hp} (e : Ext H H') : Ext (hid L H) (hid L H') := fun b o h => hid_some.mpr ⟨(hid_some.mp h).1, e b o (hid_some.mp h).2⟩

theorem mem_liv : ∀ {ι : List Addr} {m : Mem} {a : Addr}, a ∈ liv ι m → ∃ (l : Nat) (o : O), ι[l]? = some a ∧ m[l]? = some o ∧ o.live = true
  | [], _, _, h => by simp [liv] at h
  | _ :: _, [], _, h => by simp [liv] at h
  | b :: ι, o :: m, a, h => by
    unfold liv at h
    split at h
    · rename_i ho
      rcases List.mem_cons.mp h with rfl | h
      · exact ⟨0, o, by simp, by simp, ho⟩
      · obtain ⟨l, o', h1, h2, h3⟩ := mem_liv h
        exact ⟨l + 1, o', by rw [List.getElem?_cons_succ]; exact h1, by rw [List.getElem?_cons_succ]; exact h2, h3⟩
    · obtain ⟨l, o', h1, h2, h3⟩ := mem_liv h
      exact ⟨l + 1, o', by rw [List.getElem?_cons_succ]; exact h1, by rw [List.getElem?_cons_succ]; exact h2, h3⟩
theorem liv_mem : ∀ {ι : List Addr} {m : Mem} {a : Addr} {l : Nat} {o : O}, ι[l]? = some a → m[l]? = some o → o.live = true → a ∈ liv ι m
  | [], _, _, _, _, h, _, _ => by simp at h
  | _ :: _, [], _, _, _, _, h, _ => by simp at h
  | b :: ι, o :: m, a, 0, o', h1, h2, h3 => by
    simp at h1 h2; subst h1 h2
    unfold liv; rw [if_pos h3]; exact List.mem_cons_self
  | b :: ι, o :: m, a, l + 1, o', h1, h2, h3 => by
    have := liv_mem (ι := ι) (m := m) (l := l) (by simpa using h1) (by simpa using h2) h3
    unfold liv
    split
    · exact List.mem_cons_of_mem _ this
    · exact this
theorem liv_sub {ι : List Addr} {m : Mem} {a : Addr} (h : a ∈ liv ι m) : a ∈ ι := by
  obtain ⟨l, o, h1, _⟩ := mem_liv h
  exact List.mem_of_getElem? h1


section
variable {z : Z} {H : Hp}
mutual
theorem Rp.nk : ∀ {v : V} {d : D} {k : NestedKey}, Rp z H v d → keyD d = some k → NkIs z.K H v k
  | _, _, _, .non, e => by cases e; exact .non
  | _, _, _, .bl b, e => by cases e; exact .bl b
  | _, _, _, .int i, e => by cases e; exact .int i
  | _, _, _, .str x, e => by cases e; exact .str x
  | _, _, _, .tup h r, e => by
    unfold keyD at e
    obtain ⟨ks, e1, e2⟩ := Option.map_eq_some_iff.mp e
    subst e2
    exact .tup h (RpL.nk r e1)
  | _, _, _, .lst h r, e => by cases e
  | _, _, _, .ins h r, e => by cases e
  | _, _, _, .fn n, e => by cases e
  | _, _, _, .scr h, e => by cases e
  | _, _, _, .dct h r, e => by cases e
theorem RpL.nk : ∀ {vs : List V} {ds : List D} {ks : List NestedKey}, RpL z H vs ds → keyDs ds = some ks → NkAll z.K H vs ks
  | _, _, _, .nil, e => by cases e; exact .nil
  | _, _, _, .cons h r, e => by
    unfold keyDs at e
    obtain ⟨k, e1, e2⟩ := Option.bind_eq_some_iff.mp e
    obtain ⟨ks, e3, e4⟩ := Option.map_eq_some_iff.mp e2
    subst e4
    exact .cons (Rp.nk h e1) (RpL.nk r e3)
end
end
/-- one entry of a dict -/
structure NdE (z : Z) (Hh : Hp) (x : NestedKey × Addr × Value) (p : D × D) : Prop where
  rk : Rp z Hh (.ref x.2.1) p.1
  key : keyD p.1 = some x.1
  deep : x.1.depth ≤ 8
  val : ∃ v, RelV v x.2.2 ∧ Rp z Hh v p.2
inductive NdR (z : Z) (Hh : Hp) : NEs → List (D × D) → Prop
  | nil : NdR z Hh [] []
  | cons {x : NestedKey × Addr × Value} {p : D × D} {xs : NEs} {kvs : List (D × D)} : NdE z Hh x p → NdR z Hh xs kvs → NdR z Hh (x :: xs) (p :: kvs)
theorem NdR.rpE {z : Z} {H : Hp} : ∀ {xs : NEs} {kvs : List (D × D)}, NdR z H xs kvs → RpE z H xs kvs
  | _, _, .nil => .nil
  | (k, q, r) :: _, (kd, vd) :: _, .cons h rr => let ⟨v, a, b⟩ := h.val; .cons h.rk h.key h.deep a b (NdR.rpE rr)
theorem RpE.ndR {z : Z} {H : Hp} : ∀ {xs : NEs} {kvs : List (D × D)}, RpE z H xs kvs → NdR z H xs kvs
  | _, _, .nil => .nil
  | _, _, .cons h a b c d r => .cons ⟨h, a, b, _, c, d⟩ (RpE.ndR r)
theorem NdE.ext {z : Z} {H H' : Hp} (e : Ext H H') {x : NestedKey × Addr × Value} {p : D × D} (h : NdE z H x p) : NdE z H' x p :=
  ⟨h.rk.ext e, h.key, h.deep, let ⟨v, a, b⟩ := h.val; ⟨v, a, b.ext e⟩⟩
theorem NdR.ext {z : Z} {H H' : Hp} (e : Ext H H') : ∀ {xs : NEs} {kvs : List (D × D)}, NdR z H xs kvs → NdR z H' xs kvs
  | _, _, .nil => .nil
  | _, _, .cons h r => .cons (h.ext e) (NdR.ext e r)
/-- a mutable object as it stands -/
def OOk (z : Z) (Hh H : Hp) (a : Addr) : O → Prop
  | .lst xs => ∃ vs, H a = some (.lst vs) ∧ RpL z Hh vs xs
  | .ins c gs => ∃ dx fs, H a = some (.ins (z.fa c) dx fs) ∧ RpF z Hh fs gs
  | .dead => True
  | .tab n q => a = z.fa n ∧ LamX.TabS H a q
  | .dct kvs => ∃ xs ep, H a = some (ndO z.P z.w a xs ep) ∧ NdR z Hh xs kvs
structure MOk (z : Z) (η ι : List Addr) (m : Mem) (H : Hp) : Prop where
  len : ι.length = m.length
  nd : ι.Nodup
  dj : ∀ a ∈ ι, a ∉ η
  ex : ∀ a, a ∈ η ∨ a ∈ ι → ∃ o, H a = some o
  obj : ∀ (l : Nat) (o : O) (a : Addr), m[l]? = some o → ι[l]? = some a → OOk z (hid (η ++ liv ι m) H) H a o
/-- what a value is -/
def RV (z : Z) (ι : List Addr) (Hh : Hp) (x : V) : Vl → Prop
  | .d d => Rp z Hh x d
  | .p l => ∃ a, ι[l]? = some a ∧ x = .ref a
structure SOk (z : Z) (η ι : List Addr) (m : Mem) (ρ : Env) (σ : L2.St) (H : Hp) : Prop where
  mem : MOk z η ι m H
  len : σ.length = ρ.length
  slot : ∀ (i : Nat) (v : Vl), ρ[i]? = some (some v) → ∃ x, σ[i]? = some (some x) ∧ RV z ι (hid (η ++ liv ι m) H) x v

/-- from one state of the memory to a later one -/
structure Stp (ι : List Addr) (m : Mem) (H : Hp) (ι' : List Addr) (m' : Mem) (H' : Hp) : Prop where
  pre : ∃ τ, ι' = ι ++ τ
  fr : ∀ b o, b ∉ liv ι m → H b = some o → H' b = some o ∧ b ∉ liv ι' m'
theorem Stp.refl {ι : List Addr} {m : Mem} {H : Hp} : Stp ι m H ι m H := ⟨⟨[], by simp⟩, fun _ _ h e => ⟨e, h⟩⟩
theorem Stp.trans {ι ι1 ι2 : List Addr} {m m1 m2 : Mem} {H H1 H2 : Hp} (a : Stp ι m H ι1 m1 H1) (b : Stp ι1 m1 H1 ι2 m2 H2) : Stp ι m H ι2 m2 H2 := by
  obtain ⟨⟨τ, rfl⟩, a⟩ := a
  obtain ⟨⟨τ', rfl⟩, b⟩ := b
  exact ⟨⟨τ ++ τ', by simp⟩, fun c o h e => let ⟨e1, n1⟩ := a c o h e; b c o n1 e1⟩
theorem Stp.vis {η ι ι' : List Addr} {m m' : Mem} {H H' : Hp} (a : Stp ι m H ι' m' H') : Ext (hid (η ++ liv ι m) H) (hid (η ++ liv ι' m') H') := fun b o h => by
  obtain ⟨n, e⟩ := hid_some.mp h
  have n1 : b ∉ η := fun q => n (List.mem_append_left _ q)
  have n2 : b ∉ liv ι m := fun q => n (List.mem_append_right _ q)
  obtain ⟨e1, n3⟩ := a.fr b o n2 e
  exact hid_some.mpr ⟨fun q => (List.mem_append.mp q).elim n1 n3, e1⟩
theorem Stp.get {ι ι' : List Addr} {m m' : Mem} {H H' : Hp} (a : Stp ι m H ι' m' H') {l : Nat} {x : Addr} (h : ι[l]? = some x) : ι'[l]? = some x := by
  obtain ⟨τ, rfl⟩ := a.pre
  rw [List.getElem?_append_left (List.getElem?_eq_some_iff.mp h).1]
  exact h
theorem RV.step {z : Z} {η ι ι' : List Addr} {m m' : Mem} {H H' : Hp} (a : Stp ι m H ι' m' H') {x : V} {v : Vl} (h : RV z ι (hid (η ++ liv ι m) H) x v) : RV z ι' (hid (η ++ liv ι' m') H') x v := by
  cases v with
  | d d => exact Rp.ext a.vis h
  | p l =>
    obtain ⟨b, h1, h2⟩ := h
    exact ⟨b, a.get h1, h2⟩
theorem SOk.step {z : Z} {η ι ι' : List Addr} {m m' : Mem} {ρ : Env} {σ : L2.St} {H H' : Hp} (a : Stp ι m H ι' m' H') (s : SOk z η ι m ρ σ H) (k : MOk z η ι' m' H') : SOk z η ι' m' ρ σ H' :=
  ⟨k, s.len, fun i v e => let ⟨x, h1, h2⟩ := s.slot i v e; ⟨x, h1, h2.step a⟩⟩
/-- a code object's table stays while its own address and the code objects do -/
theorem tab_stay {H H' : Hp} {P : Addr} {q : Str} (t : LamX.TabS H P q) (e1 : H' P = H P) (e2 : ∀ c, H c = some (LamX.CodeO c q) → H' c = some (LamX.CodeO c q)) : LamX.TabS H' P q := by
  obtain ⟨ps, a, b, c⟩ := t
  exact ⟨ps, e1.trans a, b, fun pos cv h => let ⟨d, x, y⟩ := c pos cv h; ⟨d, x, e2 d y⟩⟩
theorem codeO_lst {c : Addr} {q : Str} (xs : List V) : LamX.CodeO c q ≠ .lst xs := fun z => by unfold LamX.CodeO at z; cases z
theorem codeO_ins {c : Addr} {q : Str} (C dx : Addr) (xs : List (Str × V)) : LamX.CodeO c q ≠ .ins C dx xs := fun z => by unfold LamX.CodeO at z; cases z
/-- a live object is no code object -/
theorem live_ne {z : Z} {Hh H : Hp} {a c : Addr} {o : O} {q : Str} (k : OOk z Hh H a o) (h : o.live = true) (e : H c = some (LamX.CodeO c q)) : c ≠ a := fun w => by
  subst w
  cases o with
  | lst xs => obtain ⟨vs, e1, _⟩ := k; rw [e] at e1; exact codeO_lst _ (Option.some.inj e1)
  | ins C gs => obtain ⟨dx, fs, e1, _⟩ := k; rw [e] at e1; exact codeO_ins _ _ _ (Option.some.inj e1)
  | dead => cases h
  | tab n q => obtain ⟨_, ps, e1, _⟩ := k; rw [e] at e1; exact LamX.codeO_ne _ (Option.some.inj e1)
  | dct kvs => obtain ⟨xs, ep, e1, _⟩ := k; rw [e] at e1; exact codeO_nd (Option.some.inj e1)
/-- the heap has grown -/
theorem Stp.grow {z : Z} {η ι : List Addr} {m : Mem} {H H' : Hp} (k : MOk z η ι m H) (e : Ext H H') : Stp ι m H ι m H' ∧ MOk z η ι m H' := by
  refine ⟨⟨⟨[], by simp⟩, fun b o h q => ⟨e b o q, h⟩⟩, k.len, k.nd, k.dj, fun a h => let ⟨o, q⟩ := k.ex a h; ⟨o, e a o q⟩, fun l o a h1 h2 => ?_⟩
  have q := k.obj l o a h1 h2
  cases o with
  | lst xs =>
    obtain ⟨vs, h3, h4⟩ := q
    exact ⟨vs, e _ _ h3, h4.ext (hid_mono e)⟩
  | ins c gs =>
    obtain ⟨dx, fs, h3, h4⟩ := q
    exact ⟨dx, fs, e _ _ h3, h4.ext (hid_mono e)⟩
  | dead => trivial
  | dct kvs =>
    obtain ⟨xs, ep, h3, h4⟩ := q
    exact ⟨xs, ep, e _ _ h3, h4.ext (hid_mono e)⟩
  | tab n y => exact ⟨q.1, q.2.ext e⟩
end DL
/-! DLb: readings of expressions by plain functions. -/
namespace DL
open PySem PySem.Spec PyProof.Rows L2

def R.bind {α β : Type} (r : R α) (f : α → Mem → R β) : R β :=
  match r with
  | .ok a m => f a m
  | .er e m => .er e m
  | .no => .no
@[simp] theorem R.bind_ok {α β : Type} (a : α) (m : Mem) (f : α → Mem → R β) : (R.ok a m).bind f = f a m := rfl
@[simp] theorem R.bind_er {α β : Type} (e : Exn) (m : Mem) (f : α → Mem → R β) : (R.er e m : R α).bind f = .er e m := rfl
@[simp] theorem R.bind_no {α β : Type} (f : α → Mem → R β) : (R.no : R α).bind f = .no := rfl

abbrev Sem := Env → Mem → R Vl
abbrev SemA := Env → Mem → R (List Vl)
abbrev SemT := Env → Mem → R Bool

/-- what an exception bears -/
def EOk (z : Z) (Hh H : Hp) (e : Exn) (d : Option Addr) : Prop :=
  match e.pl with
  | none => d = none
  | some x => ∃ p v, d = some p ∧ H p = some (.xd [("line", v)]) ∧ Rp z Hh v x
/-- the wish of an exception holds -/
def EW (z : Z) (W : XK) (η ι : List Addr) (m : Mem) (H : Hp) (e : Exn) (m' : Mem) : Prop :=
  ∀ (d : Option Addr) (H' : Hp) (ι' : List Addr), Stp ι m H ι' m' H' → MOk z η ι' m' H' → EOk z (hid (η ++ liv ι' m') H') H' e d → W (.ref (z.fa e.c)) d H'
def Post (z : Z) (W : XK) (η ι : List Addr) (m : Mem) (H : Hp) {α : Type} (P : List Addr → Mem → Hp → α → Prop) : R α → Prop
  | .ok a m' => ∀ (H' : Hp) (ι' : List Addr), Stp ι m H ι' m' H' → MOk z η ι' m' H' → P ι' m' H' a
  | .er e m' => EW z W η ι m H e m'
  | .no => False
inductive RVL (z : Z) (ι : List Addr) (Hh : Hp) : List V → List Vl → Prop
  | nil : RVL z ι Hh [] []
  | cons {x : V} {xs : List V} {v : Vl} {vs : List Vl} : RV z ι Hh x v → RVL z ι Hh xs vs → RVL z ι Hh (x :: xs) (v :: vs)

def tE (z : Z) (W : XK) (s : Sem) : TE := fun σ H Q => ∃ η ι ρ m, SOk z η ι m ρ σ H ∧
  Post z W η ι m H (fun ι' m' H' v => ∀ x, RV z ι' (hid (η ++ liv ι' m') H') x v → Q x H') (s ρ m)
def tT (z : Z) (W : XK) (s : SemT) : TT := fun σ H Q => ∃ η ι ρ m, SOk z η ι m ρ σ H ∧
  Post z W η ι m H (fun _ _ H' b => Q b H') (s ρ m)
def tA (z : Z) (W : XK) (s : SemA) : TA := fun σ H Q => ∃ η ι ρ m, SOk z η ι m ρ σ H ∧
  Post z W η ι m H (fun ι' m' H' vs => ∀ xs, RVL z ι' (hid (η ++ liv ι' m') H') xs vs → Q xs H') (s ρ m)

abbrev CE (z : Z) (W : XK) (X : Cx) (e : Expr) (s : Sem) : Prop := PE X e (tE z W s)
abbrev CT (z : Z) (W : XK) (X : Cx) (e : Expr) (s : SemT) : Prop := PT X e (tT z W s)
abbrev CW (z : Z) (W : XK) (X : Cx) (e : Expr) (s : SemT) : Prop := PW X e (tT z W s)
abbrev CA (z : Z) (W : XK) (X : Cx) (es : List Expr) (s : SemA) : Prop := PA X es (tA z W s)

theorem pe_mono {X : Cx} {e : Expr} {t t' : TE} (h : PE X e t) (k : ∀ σ H Q, t' σ H Q → t σ H Q) : PE X e t' := ⟨fun pins s σ H Q I q => h.run pins s σ H Q I (k _ _ _ q)⟩
theorem pt_mono {X : Cx} {e : Expr} {t t' : TT} (h : PT X e t) (k : ∀ σ H Q, t' σ H Q → t σ H Q) : PT X e t' := ⟨fun pins s σ H Q I q => h.run pins s σ H Q I (k _ _ _ q)⟩
theorem pw_mono {X : Cx} {e : Expr} {t t' : TT} (h : PW X e t) (k : ∀ σ H Q, t' σ H Q → t σ H Q) : PW X e t' := ⟨fun wh pins s σ H Q I q => h.run wh pins s σ H Q I (k _ _ _ q)⟩
theorem pa_mono {X : Cx} {e : List Expr} {t t' : TA} (h : PA X e t) (k : ∀ σ H Q, t' σ H Q → t σ H Q) : PA X e t' := ⟨fun pos pins s σ H Q I q => h.run pos pins s σ H Q I (k _ _ _ q)⟩

section
variable {z : Z} {W : XK} {η ι : List Addr} {m : Mem} {H : Hp}
theorem EW.back {ι1 : List Addr} {m1 m2 : Mem} {H1 : Hp} {e : Exn} (a : Stp ι m H ι1 m1 H1) (h : EW z W η ι m H e m2) : EW z W η ι1 m1 H1 e m2 :=
  fun d H' ι' b k q => h d H' ι' (a.trans b) k q
theorem Post.back {α : Type} {ι1 : List Addr} {m1 : Mem} {H1 : Hp} {P : List Addr → Mem → Hp → α → Prop} (a : Stp ι m H ι1 m1 H1) : ∀ {r : R α}, Post z W η ι m H P r → Post z W η ι1 m1 H1 P r
  | .ok x m', h => fun H' ι' b k => h H' ι' (a.trans b) k
  | .er e m', h => EW.back a h
  | .no, h => h
theorem Post.mono {α : Type} {P P' : List Addr → Mem → Hp → α → Prop} (k : ∀ ι' m' H' x, Stp ι m H ι' m' H' → MOk z η ι' m' H' → P ι' m' H' x → P' ι' m' H' x) : ∀ {r : R α}, Post z W η ι m H P r → Post z W η ι m H P' r
  | .ok x m', h => fun H' ι' b q => k _ _ _ _ b q (h H' ι' b q)
  | .er e m', h => h
  | .no, h => h
/-- one thing, then another -/
theorem Post.bind {α β : Type} {P : List Addr → Mem → Hp → β → Prop} {f : α → Mem → R β} : ∀ {r : R α}, Post z W η ι m H P (r.bind f) →
    Post z W η ι m H (fun ι' m' H' x => Post z W η ι' m' H' P (f x m')) r
  | .ok x m', h => fun H' ι' b k => Post.back b h
  | .er e m', h => h
  | .no, h => h
theorem SOk.grow {ρ : Env} {σ : L2.St} {H' : Hp} (s : SOk z η ι m ρ σ H) (e : Ext H H') : Stp ι m H ι m H' ∧ SOk z η ι m ρ σ H' :=
  let ⟨a, k⟩ := Stp.grow s.mem e
  ⟨a, s.step a k⟩
end

section
variable {X : Cx} {z : Z} {W : XK} {a b c : Expr} {sa sb sc : Sem} {pos : Pos}

/-! ### constants, names -/
def sC (d : D) : Sem := fun _ m => .ok (.d d) m
theorem c_of {e : Expr} {v : V} {d : D} (h : PE X e (tC v)) (r : ∀ Hh, Rp z Hh v d) : CE z W X e (sC d) :=
  pe_mono h fun σ H Q ⟨η, ι, ρ, m, ok, q⟩ => q H ι Stp.refl ok.mem _ (r _)
theorem c_int {i : Int} {j} : CE z W X (.Constant (.int i) j pos) (sC (.int i)) := c_of pe_int fun _ => .int i
theorem c_bl {i : Bool} {j} : CE z W X (.Constant (.bool i) j pos) (sC (.bl i)) := c_of pe_bl fun _ => .bl i
theorem c_non {j} : CE z W X (.Constant .none j pos) (sC .non) := c_of pe_non fun _ => .non
theorem c_str {x : Str} {j} : CE z W X (.Constant (.str x) j pos) (sC (.str x)) := c_of pe_str fun _ => .str x
def sVar (i : Nat) : Sem := fun ρ m => match ρ[i]? with | some (some v) => .ok v m | _ => .no
theorem c_var (i : Nat) {x : Str} (hN : X.N[i]? = some x := by rfl) (hv : Vis X.env.scope x := by first | exact Or.inl rfl | exact Or.inr (Or.inl rfl) | exact Or.inr (Or.inr rfl)) (hd : (x == ("__debug__" : Str)) = false := by decide)
    (hcd : (x == ("__classdict__" : Str)) = false := by decide) : CE z W X (.Name x pos) (sVar i) :=
  pe_mono (pe_var hN hv hd hcd) fun σ H Q ⟨η, ι, ρ, m, ok, q⟩ => by
    unfold sVar at q
    split at q
    · rename_i v e
      obtain ⟨x, h1, h2⟩ := ok.slot i v e
      exact ⟨x, h1, q H ι Stp.refl ok.mem x h2⟩
    · exact q.elim
/-- a global constant -/
theorem c_glob {x : Str} {v : V} {u : Value} {d : D} (hg : Gl X x) (hm : X.mg x = some u) (r : RelV v u) (rp : ∀ Hh, Rp z Hh v d) (hd : (x == ("__debug__" : Str)) = false := by decide) : CE z W X (.Name x pos) (sC d) := c_of (pe_glob hg hm r hd) rp

/-! ### what may be read -/
def drf (m : Mem) : Vl → Option D
  | .d x => some x
  | .p l => match m[l]? with
    | some (.lst xs) => some (.lst xs)
    | _ => none
def Rq (z : Z) (L : List Addr) (H : Hp) (x : V) : D → Prop
  | .lst ds => ∃ a vs, x = .ref a ∧ H a = some (.lst vs) ∧ RpL z (hid L H) vs ds
  | d => Rp z (hid L H) x d
theorem Rq.of {L : List Addr} {H : Hp} {x : V} {d : D} (h : Rp z (hid L H) x d) : Rq z L H x d := by
  cases d with
  | lst ds =>
    cases h with
    | lst h r => exact ⟨_, _, rfl, hid_ext _ _ h, r⟩
  | _ => exact h
theorem rq_of {η ι : List Addr} {m : Mem} {H : Hp} {x : V} {v : Vl} {d : D} (k : MOk z η ι m H) (h : RV z ι (hid (η ++ liv ι m) H) x v) (e : drf m v = some d) : Rq z (η ++ liv ι m) H x d := by
  cases v with
  | d y =>
    cases e
    exact Rq.of h
  | p l =>
    obtain ⟨a, h1, rfl⟩ := h
    unfold drf at e
    dsimp only at e
    split at e
    · rename_i xs h2
      cases e
      obtain ⟨vs, h3, h4⟩ := k.obj l _ a h2 h1
      exact ⟨a, vs, rfl, h3, h4⟩
    · cases e
theorem MOk.hx {η ι : List Addr} {m : Mem} {H : Hp} (k : MOk z η ι m H) : ∀ a ∈ η ++ liv ι m, ∃ o, H a = some o := fun a h =>
  k.ex a ((List.mem_append.mp h).imp id liv_sub)
/-- a new object is seen -/
theorem hid_new {L : List Addr} {H : Hp} {p : Addr} {o : HO} (hL : ∀ a ∈ L, ∃ o, H a = some o) (h : H p = none) : hid L (upd H p o) p = some o :=
  hid_some.mpr ⟨fun q => (hL p q).elim (fun u e => absurd (h.symm.trans e) (by simp)), upd_same⟩
theorem hid_upd {L : List Addr} {H : Hp} {p : Addr} {o : HO} (h : H p = none) : Ext (hid L H) (hid L (upd H p o)) := hid_mono (Ext.new h)
theorem Rp.newT {L : List Addr} {H : Hp} {p : Addr} {vs : List V} {ds : List D} (hL : ∀ a ∈ L, ∃ o, H a = some o) (h : H p = none) (r : RpL z (hid L H) vs ds) : Rp z (hid L (upd H p (.tup vs))) (.ref p) (.tup ds) :=
  .tup (.inl (.inl (hid_new hL h))) (r.ext (hid_upd h))
theorem Rp.newL {L : List Addr} {H : Hp} {p : Addr} {vs : List V} {ds : List D} (hL : ∀ a ∈ L, ∃ o, H a = some o) (h : H p = none) (r : RpL z (hid L H) vs ds) : Rp z (hid L (upd H p (.lst vs))) (.ref p) (.lst ds) :=
  .lst (hid_new hL h) (r.ext (hid_upd h))

/-! ### operators by data -/
def OpS (z : Z) (r : R2) (g : D → D → Option D) : Prop := ∀ (L : List Addr) (H : Hp) (x y : V) (d e u : D) (Q : VK), (∀ a ∈ L, ∃ o, H a = some o) → Rq z L H x d → Rq z L H y e → g d e = some u →
  (∀ w H', Ext H H' → Rp z (hid L H') w u → Q w H') → r x y H Q
def UnS (z : Z) (r : V → Hp → VK → Prop) (g : D → Option D) : Prop := ∀ (L : List Addr) (H : Hp) (x : V) (d u : D) (Q : VK), (∀ a ∈ L, ∃ o, H a = some o) → Rq z L H x d → g d = some u →
  (∀ w H', Ext H H' → Rp z (hid L H') w u → Q w H') → r x H Q
def R.dat (o : Option D) (m : Mem) : R Vl := match o with | some u => .ok (.d u) m | none => .no
def sBin (g : D → D → Option D) (sa sb : Sem) : Sem := fun ρ m => (sa ρ m).bind fun v m1 => (sb ρ m1).bind fun w m2 =>
  match drf m2 v, drf m2 w with
  | some d, some e => R.dat (g d e) m2
  | _, _ => .no
theorem bin_of {r : R2} {g : D → D → Option D} (hr : OpS z r g) {σ : L2.St} {H : Hp} {Q : VK} (h : tE z W (sBin g sa sb) σ H Q) : tOp r (tE z W sa) (tE z W sb) σ H Q := by
  obtain ⟨η, ι, ρ, m, ok, h⟩ := h
  refine ⟨η, ι, ρ, m, ok, Post.mono (fun ι1 m1 H1 v st1 k1 h1 x rx => ?_) (Post.bind h)⟩
  refine ⟨η, ι1, ρ, m1, ok.step st1 k1, Post.mono (fun ι2 m2 H2 w st2 k2 h2 y ry => ?_) (Post.bind h1)⟩
  split at h2
  · rename_i d e ed ee
    cases q : g d e with
    | none => rw [q] at h2; exact h2.elim
    | some u =>
      rw [q] at h2
      refine hr _ H2 x y d e u Q k2.hx (rq_of k2 (rx.step st2) ed) (rq_of k2 ry ee) q fun w' H' ex r' => ?_
      obtain ⟨st3, k3⟩ := Stp.grow k2 ex
      exact h2 H' ι2 st3 k3 w' r'
  · exact h2.elim
theorem c_bin {op : Operator} {r : R2} {g : D → D → Option D} (ho : OpR X (binaryOp op) r) (hr : OpS z r g) (ha : CE z W X a sa) (hb : CE z W X b sb) : CE z W X (.BinOp a op b pos) (sBin g sa sb) :=
  pe_mono (pe_op ho ha hb) fun _ _ _ h => bin_of hr h
theorem c_cmp {op : CmpOp} {r : R2} {g : D → D → Option D} (ho : OpR X (compareOp op) r) (hr : OpS z r g) (ha : CE z W X a sa) (hb : CE z W X b sb) (hm : behindInMarks op b = false) : CE z W X (.Compare a [op] [b] pos) (sBin g sa sb) :=
  pe_mono (pe_cmpR ho ha hb hm) fun _ _ _ h => bin_of hr h
/-- a truth as a test -/
def sTb (s : Sem) : SemT := fun ρ m => (s ρ m).bind fun v m1 => match v with | .d (.bl b) => .ok b m1 | _ => .no
theorem tst_of {s : Sem} {σ : L2.St} {H : Hp} {Q : Bool → Hp → Prop} (h : tT z W (sTb s) σ H Q) : tE z W s σ H (fun x H' => ∃ k, x = .bl k ∧ Q k H') := by
  obtain ⟨η, ι, ρ, m, ok, h⟩ := h
  refine ⟨η, ι, ρ, m, ok, Post.mono (fun ι1 m1 H1 v st1 k1 h1 x rx => ?_) (Post.bind h)⟩
  split at h1
  · rename_i b
    cases rx
    exact ⟨b, rfl, h1 H1 ι1 Stp.refl k1⟩
  · exact h1.elim
theorem ct_cmp {op : CmpOp} {r : R2} {g : D → D → Option D} (ho : OpR X (compareOp op) r) (hr : OpS z r g) (ha : CE z W X a sa) (hb : CE z W X b sb) (hm : behindInMarks op b = false) : CT z W X (.Compare a [op] [b] pos) (sTb (sBin g sa sb)) :=
  pt_mono (pt_cmpR ho ha hb hm) fun _ _ _ h => by
    obtain ⟨η, ι, ρ, m, ok, h⟩ := tst_of h
    exact bin_of hr ⟨η, ι, ρ, m, ok, h⟩
theorem ct_val {e : Expr} {s : Sem} (h : CE z W X e s) (he : ∀ whole, isTrue e X.env whole = (do let v ← whole; standAt e.pos; holding [v] (truthy v)) := by intro _; rfl) : CT z W X e (sTb s) :=
  pt_mono (pt_val h he) fun _ _ _ h => tst_of h
def sChain (g g' : D → D → Option D) (sa sb sc : Sem) : Sem := fun ρ m => (sa ρ m).bind fun v m1 => (sb ρ m1).bind fun w m2 =>
  match drf m2 v, drf m2 w with
  | some d, some e => (match g d e with
    | some (.bl true) => (sc ρ m2).bind fun u m3 => match drf m3 w, drf m3 u with
      | some e, some f => R.dat (g' e f) m3
      | _, _ => .no
    | some (.bl false) => .ok (.d (.bl false)) m2
    | _ => .no)
  | _, _ => .no
theorem chain_of {r r' : R2} {g g' : D → D → Option D} (hr : OpS z r g) (hr' : OpS z r' g') {σ : L2.St} {H : Hp} {Q : VK} (h : tE z W (sChain g g' sa sb sc) σ H Q) : tChain r r' (tE z W sa) (tE z W sb) (tE z W sc) σ H Q := by
  obtain ⟨η, ι, ρ, m, ok, h⟩ := h
  refine ⟨η, ι, ρ, m, ok, Post.mono (fun ι1 m1 H1 v st1 k1 h1 x rx => ?_) (Post.bind h)⟩
  refine ⟨η, ι1, ρ, m1, ok.step st1 k1, Post.mono (fun ι2 m2 H2 w st2 k2 h2 y ry => ?_) (Post.bind h1)⟩
  split at h2
  · rename_i d e ed ee
    split at h2
    · rename_i q
      refine hr _ H2 x y d e _ _ k2.hx (rq_of k2 (rx.step st2) ed) (rq_of k2 ry ee) q fun w' H' ex r' => ?_
      cases r'
      refine ⟨true, rfl, ?_⟩
      rw [if_pos rfl]
      obtain ⟨st3, k3⟩ := Stp.grow k2 ex
      refine ⟨η, ι2, ρ, m2, ok.step ((st1.trans st2).trans st3) k3, Post.mono (fun ι4 m4 H4 u st4 k4 h4 y4 ry4 => ?_) (Post.back st3 (Post.bind h2))⟩
      split at h4
      · rename_i e' f ee' ef
        cases q' : g' e' f with
        | none => rw [q'] at h4; exact h4.elim
        | some u' =>
          rw [q'] at h4
          refine hr' _ H4 y y4 e' f u' Q k4.hx (rq_of k4 ((ry.step st3).step st4) ee') (rq_of k4 ry4 ef) q' fun w' H' ex r' => ?_
          obtain ⟨st5, k5⟩ := Stp.grow k4 ex
          exact h4 H' ι4 st5 k5 w' r'
      · exact h4.elim
    · rename_i q
      refine hr _ H2 x y d e _ _ k2.hx (rq_of k2 (rx.step st2) ed) (rq_of k2 ry ee) q fun w' H' ex r' => ?_
      cases r'
      refine ⟨false, rfl, ?_⟩
      rw [if_neg Bool.false_ne_true]
      obtain ⟨st3, k3⟩ := Stp.grow k2 ex
      exact h2 H' ι2 st3 k3 (.bl false) (Rp.bl false)
    · exact h2.elim
  · exact h2.elim
theorem c_chain {op op' : CmpOp} {r r' : R2} {g g' : D → D → Option D} (ho : OpR X (compareOp op) r) (hr : OpS z r g) (ho' : OpR X (compareOp op') r') (hr' : OpS z r' g') (ha : CE z W X a sa) (hb : CE z W X b sb) (hc : CE z W X c sc) (hm : lastMarks [op, op'] [b, c] = false := by with_unfolding_all rfl) :
    CE z W X (.Compare a [op, op'] [b, c] pos) (sChain g g' sa sb sc) := pe_mono (pe_chain ho ho' ha hb hc hm) fun _ _ _ h => chain_of hr hr' h
theorem ct_chain {op op' : CmpOp} {r r' : R2} {g g' : D → D → Option D} (ho : OpR X (compareOp op) r) (hr : OpS z r g) (ho' : OpR X (compareOp op') r') (hr' : OpS z r' g') (ha : CE z W X a sa) (hb : CE z W X b sb) (hc : CE z W X c sc) (hm : lastMarks [op, op'] [b, c] = false := by with_unfolding_all rfl) :
    CT z W X (.Compare a [op, op'] [b, c] pos) (sTb (sChain g g' sa sb sc)) := pt_mono (pt_chain ho ho' ha hb hc hm) fun _ _ _ h => by
  obtain ⟨η, ι, ρ, m, ok, h⟩ := tst_of h
  exact chain_of hr hr' ⟨η, ι, ρ, m, ok, h⟩
def sUn (g : D → Option D) (sa : Sem) : Sem := fun ρ m => (sa ρ m).bind fun v m1 =>
  match drf m1 v with
  | some d => R.dat (g d) m1
  | _ => .no
theorem un_of {r : V → Hp → VK → Prop} {g : D → Option D} (hr : UnS z r g) {σ : L2.St} {H : Hp} {Q : VK} (h : tE z W (sUn g sa) σ H Q) : tUn r (tE z W sa) σ H Q := by
  obtain ⟨η, ι, ρ, m, ok, h⟩ := h
  refine ⟨η, ι, ρ, m, ok, Post.mono (fun ι1 m1 H1 v st1 k1 h1 x rx => ?_) (Post.bind h)⟩
  split at h1
  · rename_i d ed
    cases q : g d with
    | none => rw [q] at h1; exact h1.elim
    | some u =>
      rw [q] at h1
      refine hr _ H1 x d u Q k1.hx (rq_of k1 rx ed) q fun w' H' ex r' => ?_
      obtain ⟨st3, k3⟩ := Stp.grow k1 ex
      exact h1 H' ι1 st3 k3 w' r'
  · exact h1.elim
theorem c_un {op : UnaryOp} {r : V → Hp → VK → Prop} {g : D → Option D} (ho : UnR X (unaryOp op) r) (hr : UnS z r g) (ha : CE z W X a sa) : CE z W X (.UnaryOp op a pos) (sUn g sa) :=
  pe_mono (pe_un ho ha) fun _ _ _ h => un_of hr h

/-! ### and, or, not, if -/
def sAnd (sa sb : Sem) : Sem := fun ρ m => (sa ρ m).bind fun v m1 => match v with
  | .d (.bl b) => if b then sb ρ m1 else .ok (.d (.bl false)) m1
  | _ => .no
def sOr (sa sb : Sem) : Sem := fun ρ m => (sa ρ m).bind fun v m1 => match v with
  | .d (.bl b) => if b then .ok (.d (.bl true)) m1 else sb ρ m1
  | _ => .no
def sNot (sa : Sem) : Sem := fun ρ m => (sa ρ m).bind fun v m1 => match v with
  | .d (.bl b) => .ok (.d (.bl (!b))) m1
  | _ => .no
variable {rest : List Expr}
theorem c_one {op} (h : CE z W X a sa) : CE z W X (.BoolOp op [a] pos) sa := pe_one h
theorem c_and (ha : CE z W X a sa) (hb : CE z W X (.BoolOp .And (b :: rest) pos) sb) : CE z W X (.BoolOp .And (a :: b :: rest) pos) (sAnd sa sb) :=
  pe_mono (pe_and ha hb) fun σ H Q ⟨η, ι, ρ, m, ok, h⟩ => by
    refine ⟨η, ι, ρ, m, ok, Post.mono (fun ι1 m1 H1 v st1 k1 h1 x rx => ?_) (Post.bind h)⟩
    split at h1
    · rename_i c
      cases rx
      refine ⟨c, rfl, ?_⟩
      cases c with
      | true =>
        rw [if_pos rfl] at h1 ⊢
        exact ⟨η, ι1, ρ, m1, ok.step st1 k1, h1⟩
      | false =>
        rw [if_neg Bool.false_ne_true] at h1 ⊢
        exact h1 H1 ι1 Stp.refl k1 _ (Rp.bl false)
    · exact h1.elim
theorem c_or (ha : CE z W X a sa) (hb : CE z W X (.BoolOp .Or (b :: rest) pos) sb) : CE z W X (.BoolOp .Or (a :: b :: rest) pos) (sOr sa sb) :=
  pe_mono (pe_or ha hb) fun σ H Q ⟨η, ι, ρ, m, ok, h⟩ => by
    refine ⟨η, ι, ρ, m, ok, Post.mono (fun ι1 m1 H1 v st1 k1 h1 x rx => ?_) (Post.bind h)⟩
    split at h1
    · rename_i c
      cases rx
      refine ⟨c, rfl, ?_⟩
      cases c with
      | false =>
        rw [if_neg Bool.false_ne_true] at h1 ⊢
        exact ⟨η, ι1, ρ, m1, ok.step st1 k1, h1⟩
      | true =>
        rw [if_pos rfl] at h1 ⊢
        exact h1 H1 ι1 Stp.refl k1 _ (Rp.bl true)
    · exact h1.elim
theorem c_not (ha : CE z W X a sa) : CE z W X (.UnaryOp .Not a pos) (sNot sa) :=
  pe_mono (pe_not ha) fun σ H Q ⟨η, ι, ρ, m, ok, h⟩ => by
    refine ⟨η, ι, ρ, m, ok, Post.mono (fun ι1 m1 H1 v st1 k1 h1 x rx => ?_) (Post.bind h)⟩
    split at h1
    · rename_i c
      cases rx
      exact ⟨c, rfl, h1 H1 ι1 Stp.refl k1 _ (Rp.bl _)⟩
    · exact h1.elim
def sIte (t : SemT) (sa sb : Sem) : Sem := fun ρ m => (t ρ m).bind fun k m1 => if k then sa ρ m1 else sb ρ m1
variable {t u : SemT}
theorem c_ite (hc : CT z W X c t) (ha : CE z W X a sa) (hb : CE z W X b sb) : CE z W X (.IfExp c a b pos) (sIte t sa sb) :=
  pe_mono (pe_ifExp hc ha hb) fun σ H Q ⟨η, ι, ρ, m, ok, h⟩ => by
    refine ⟨η, ι, ρ, m, ok, Post.mono (fun ι1 m1 H1 k st1 k1 h1 => ?_) (Post.bind h)⟩
    cases k with
    | true =>
      rw [if_pos rfl] at h1 ⊢
      exact ⟨η, ι1, ρ, m1, ok.step st1 k1, h1⟩
    | false =>
      rw [if_neg Bool.false_ne_true] at h1 ⊢
      exact ⟨η, ι1, ρ, m1, ok.step st1 k1, h1⟩
/-- tests -/
def tAn (t u : SemT) : SemT := fun ρ m => (t ρ m).bind fun k m1 => if k then u ρ m1 else .ok false m1
def tOr' (t u : SemT) : SemT := fun ρ m => (t ρ m).bind fun k m1 => if k then .ok true m1 else u ρ m1
def tNo (t : SemT) : SemT := fun ρ m => (t ρ m).bind fun k m1 => .ok (!k) m1
theorem cw_and1 (h : CT z W X a t) : CW z W X (.BoolOp .And [a] pos) t := pw_and1 h
theorem cw_or1 (h : CT z W X a t) : CW z W X (.BoolOp .Or [a] pos) t := pw_or1 h
theorem cw_and (ha : CT z W X a t) (hb : CW z W X (.BoolOp .And (b :: rest) pos) u) : CW z W X (.BoolOp .And (a :: b :: rest) pos) (tAn t u) :=
  pw_mono (pw_and ha hb) fun σ H Q ⟨η, ι, ρ, m, ok, h⟩ => by
    refine ⟨η, ι, ρ, m, ok, Post.mono (fun ι1 m1 H1 k st1 k1 h1 => ?_) (Post.bind h)⟩
    cases k with
    | true =>
      rw [if_pos rfl] at h1 ⊢
      exact ⟨η, ι1, ρ, m1, ok.step st1 k1, h1⟩
    | false =>
      rw [if_neg Bool.false_ne_true] at h1 ⊢
      exact h1 H1 ι1 Stp.refl k1
theorem cw_or (ha : CT z W X a t) (hb : CW z W X (.BoolOp .Or (b :: rest) pos) u) : CW z W X (.BoolOp .Or (a :: b :: rest) pos) (tOr' t u) :=
  pw_mono (pw_or ha hb) fun σ H Q ⟨η, ι, ρ, m, ok, h⟩ => by
    refine ⟨η, ι, ρ, m, ok, Post.mono (fun ι1 m1 H1 k st1 k1 h1 => ?_) (Post.bind h)⟩
    cases k with
    | false =>
      rw [if_neg Bool.false_ne_true] at h1 ⊢
      exact ⟨η, ι1, ρ, m1, ok.step st1 k1, h1⟩
    | true =>
      rw [if_pos rfl] at h1 ⊢
      exact h1 H1 ι1 Stp.refl k1
theorem ct_w {e : Expr} (h : CW z W X e t) : CT z W X e t := PW.pt h
theorem ct_not (ha : CT z W X a t) : CT z W X (.UnaryOp .Not a pos) (tNo t) :=
  pt_mono (pt_not ha) fun σ H Q ⟨η, ι, ρ, m, ok, h⟩ => by
    refine ⟨η, ι, ρ, m, ok, Post.mono (fun ι1 m1 H1 k st1 k1 h1 => ?_) (Post.bind h)⟩
    exact h1 H1 ι1 Stp.refl k1

/-! ### arguments, displays -/
def aNil : SemA := fun _ m => .ok [] m
def aCons (s : Sem) (r : SemA) : SemA := fun ρ m => (s ρ m).bind fun v m1 => (r ρ m1).bind fun vs m2 => .ok (v :: vs) m2
variable {e : Expr} {es : List Expr} {s : Sem} {r : SemA}
theorem RVL.step {η ι ι' : List Addr} {m m' : Mem} {H H' : Hp} (a : Stp ι m H ι' m' H') : ∀ {xs : List V} {vs : List Vl}, RVL z ι (hid (η ++ liv ι m) H) xs vs → RVL z ι' (hid (η ++ liv ι' m') H') xs vs
  | _, _, .nil => .nil
  | _, _, .cons h r => .cons (h.step a) (RVL.step a r)
theorem ca_nil : CA z W X [] aNil := pa_mono pa_nil fun σ H Q ⟨η, ι, ρ, m, ok, h⟩ => h H ι Stp.refl ok.mem [] .nil
theorem ca_cons (ha : CE z W X e s) (hr : CA z W X es r) (hs : starEach (e :: es) X.env = (false, eval e X.env) :: starEach es X.env := by rfl) : CA z W X (e :: es) (aCons s r) :=
  pa_mono (pa_cons ha hr hs) fun σ H Q ⟨η, ι, ρ, m, ok, h⟩ => by
    refine ⟨η, ι, ρ, m, ok, Post.mono (fun ι1 m1 H1 v st1 k1 h1 x rx => ?_) (Post.bind h)⟩
    refine ⟨η, ι1, ρ, m1, ok.step st1 k1, Post.mono (fun ι2 m2 H2 vs st2 k2 h2 xs rxs => ?_) (Post.bind h1)⟩
    exact h2 H2 ι2 Stp.refl k2 (x :: xs) (.cons (rx.step st2) rxs)
/-- all of them data -/
def dats : List Vl → Option (List D)
  | [] => some []
  | .d x :: vs => (dats vs).map (x :: ·)
  | .p _ :: _ => none
theorem dats_rp {ι : List Addr} {Hh : Hp} : ∀ {xs : List V} {vs : List Vl} {ds : List D}, RVL z ι Hh xs vs → dats vs = some ds → RpL z Hh xs ds
  | _, _, _, .nil, e => by
    cases e; exact .nil
  | _, .d x :: vs, ds, .cons h r, e => by
    unfold dats at e
    cases q : dats vs with
    | none => rw [q] at e; cases e
    | some es => rw [q] at e; cases e; exact .cons h (dats_rp r q)
  | _, .p _ :: _, _, .cons _ _, e => by cases e
def sTup (r : SemA) : Sem := fun ρ m => (r ρ m).bind fun vs m1 => match dats vs with
  | some ds => if ds.length ≤ sizeLine then .ok (.d (.tup ds)) m1 else .no
  | none => .no
def sLst (r : SemA) : Sem := fun ρ m => (r ρ m).bind fun vs m1 => match dats vs with
  | some ds => if ds.length ≤ sizeLine then .ok (.d (.lst ds)) m1 else .no
  | none => .no
theorem c_tup {x1} (h : CA z W X es r) : CE z W X (.Tuple es x1 pos) (sTup r) :=
  pe_mono (pe_tup h) fun σ H Q ⟨η, ι, ρ, m, ok, h⟩ => by
    refine ⟨η, ι, ρ, m, ok, Post.mono (fun ι1 m1 H1 vs st1 k1 h1 xs rxs => ?_) (Post.bind h)⟩
    split at h1
    · rename_i ds q
      split at h1
      · rename_i hl
        have rp := dats_rp rxs q
        refine ⟨by rw [rp.length]; exact hl, fun p hp => ?_⟩
        obtain ⟨st2, k2⟩ := Stp.grow k1 (Ext.new hp)
        exact h1 _ ι1 st2 k2 _ (Rp.newT k1.hx hp rp)
      · exact h1.elim
    · exact h1.elim
theorem c_lst (h : CA z W X es r) : CE z W X (.List es pos) (sLst r) :=
  pe_mono (pe_lst h) fun σ H Q ⟨η, ι, ρ, m, ok, h⟩ => by
    refine ⟨η, ι, ρ, m, ok, Post.mono (fun ι1 m1 H1 vs st1 k1 h1 xs rxs => ?_) (Post.bind h)⟩
    split at h1
    · rename_i ds q
      split at h1
      · rename_i hl
        have rp := dats_rp rxs q
        refine ⟨by rw [rp.length]; exact hl, fun p hp => ?_⟩
        obtain ⟨st2, k2⟩ := Stp.grow k1 (Ext.new hp)
        exact h1 _ ι1 st2 k2 _ (Rp.newL k1.hx hp rp)
      · exact h1.elim
    · exact h1.elim
end
end DL
/-! DLm: tuple * int, the cases that the layer leaves out. -/
namespace DL
open PySem PySem.Spec PyProof.Rows L2
theorem tuple_mul_same (l : Addr) (items : Array Value) (n : Nat) (dd : Option Addr) (sl : Array (Option Value)) (x : Int) (u : Tok) (c0 : (decide (x < -(2 ^ 63)) || decide (x ≥ 2 ^ 63)) = false) (c1 : (items.isEmpty || x == 1) = true) :
    Meets (Builtin.«tuple.__mul__» ⟨[.ref l, .int x u], []⟩) (fun _ R s => s.heap.get? l = some { cls := .type "tuple", dict := dd, data := .seq items n, slots := sl } ∧ R (.ok (.ret (Value.ref l))) s) :=
  .of_wp fun prog w A R s h => by
    obtain ⟨hp, g, d, tk, os⟩ := s
    obtain ⟨hl, h⟩ := h
    have f1 := AutoSeq1.idx_int
    wp_walk using wpAny_loadPart' hl
    repeat (first
      | (refine wpAny_ite_false (decide_eq_false (by rw [c0]; exact Bool.false_ne_true)) ?_; wp_walk using wpAny_loadPart' hl)
      | (refine wpAny_ite_true (decide_eq_true (by rw [c1])) ?_; wp_walk using wpAny_loadPart' hl))
    exact ⟨_, rfl, h⟩
theorem tuple_mul_none (l : Addr) (items : Array Value) (n : Nat) (dd : Option Addr) (sl : Array (Option Value)) (x : Int) (u : Tok) (c0 : (decide (x < -(2 ^ 63)) || decide (x ≥ 2 ^ 63)) = false) (c1 : (items.isEmpty || x == 1) = false) (c2 : (decide (x ≤ 0) || items.isEmpty) = true) :
    Meets (Builtin.«tuple.__mul__» ⟨[.ref l, .int x u], []⟩) (fun _ R s => s.heap.get? l = some { cls := .type "tuple", dict := dd, data := .seq items n, slots := sl } ∧
      R (.ok (.ret (Value.ref s.heap.objs.size))) { s with heap := s.heap.push { cls := Value.type "tuple", data := Data.seq #[] }, toks := s.toks }) :=
  .of_wp fun prog w A R s h => by
    obtain ⟨hp, g, d, tk, os⟩ := s
    obtain ⟨hl, h⟩ := h
    have f1 := AutoSeq1.idx_int
    wp_walk using wpAny_loadPart' hl
    repeat (first
      | (refine wpAny_ite_false (decide_eq_false (by rw [c0]; exact Bool.false_ne_true)) ?_; wp_walk using wpAny_loadPart' hl)
      | (refine wpAny_ite_false (decide_eq_false (by rw [c1]; exact Bool.false_ne_true)) ?_; wp_walk using wpAny_loadPart' hl)
      | (refine wpAny_ite_true (decide_eq_true (by rw [c2])) ?_; wp_walk using wpAny_loadPart' hl))
    exact ⟨_, rfl, h⟩
def rRepA (K : PySem.W.Frag) : R2 := fun x y H Q => ∃ l k xs, x = .ref l ∧ y = .int k ∧ SqT K H l xs ∧ -(2 ^ 63) ≤ k ∧ k < 2 ^ 63 ∧ xs.length * k.toNat ≤ sizeLine ∧
  (xs = [] ∨ k = 1 → Q (.ref l) H) ∧ (∀ p, H p = none → Q (.ref p) (upd H p (.tup (List.replicate k.toNat xs).flatten)))
section
variable {X : Cx}
theorem op_repA : OpR X (binaryOp .Mult) (rRepA X.K) := by
  intro pins s σ H x y v u Q I rx ry h
  obtain ⟨l, k, xs, rfl, rfl, hT, h1, h2, hz, q0, q⟩ := h
  cases rx
  obtain ⟨t, rfl⟩ := ry
  obtain ⟨its, r, ⟨⟨cls, dd, data, sl⟩, ho, hc, n, hd⟩, hs⟩ := I.tuple hT
  simp only at hc hd
  subst hc hd
  have hle : its.length = xs.length := r.length.symm
  have hsz0 : its.toArray.size = xs.length := by rw [List.size_toArray, hle]
  have c0 : (decide (k < -(2 ^ 63)) || decide (k ≥ 2 ^ 63)) = false := by
    rw [decide_eq_false (by omega), decide_eq_false (by omega)] <;> rfl
  by_cases c1 : (its.toArray.isEmpty || k == 1) = true
  · have hx : xs = [] ∨ k = 1 := by
      rcases Bool.or_eq_true_iff.mp c1 with e | e
      · refine .inl (List.eq_nil_of_length_eq_zero ?_)
        have : its.toArray.size = 0 := by simpa using e
        omega
      · exact .inr (beq_iff_eq.mp e)
    exact wpAny_binaryOp_repeat_ref (T := "tuple") (U := "int") (by decide) ⟨_, ho, rfl⟩ (fun s' => typeIs_int s' k t) noFill_tuple_mul F.fills_int_mul F.slot_int_rmul repeat_tuple F.slot_int_index.lookup
      (call_meets F.slot_int_rmul (typeIs_int s k t) F.entry_int_rmul (F.args_int_rmul_2 _ _) (int_rmul_tuple k t l its.toArray n dd sl)
        ⟨ho, rfl, ⟨_, ho, rfl⟩, call_meets F.slot_tuple_mul ⟨_, ho, rfl⟩ F.entry_tuple_mul (F.args_tuple_mul_2 _ _) (tuple_mul_same l its.toArray n dd sl k t c0 c1) ⟨ho, ⟨.ref l, H, I, rfl, q0 hx⟩⟩⟩)
  · have c1 : (its.toArray.isEmpty || k == 1) = false := by simpa using c1
    have hi : its.toArray.isEmpty = false := (Bool.or_eq_false_iff.mp c1).1
    have k1 : k ≠ 1 := beq_eq_false_iff_ne.mp (Bool.or_eq_false_iff.mp c1).2
    by_cases hk : k ≤ 0
    · have c2 : (decide (k ≤ 0) || its.toArray.isEmpty) = true := by rw [decide_eq_true hk, Bool.true_or]
      have e0 : k.toNat = 0 := by omega
      refine wpAny_binaryOp_repeat_ref (T := "tuple") (U := "int") (by decide) ⟨_, ho, rfl⟩ (fun s' => typeIs_int s' k t) noFill_tuple_mul F.fills_int_mul F.slot_int_rmul repeat_tuple F.slot_int_index.lookup
        (call_meets F.slot_int_rmul (typeIs_int s k t) F.entry_int_rmul (F.args_int_rmul_2 _ _) (int_rmul_tuple k t l its.toArray n dd sl)
          ⟨ho, rfl, ⟨_, ho, rfl⟩, call_meets F.slot_tuple_mul ⟨_, ho, rfl⟩ F.entry_tuple_mul (F.args_tuple_mul_2 _ _) (tuple_mul_none l its.toArray n dd sl k t c0 c1 c2) ⟨ho, ?_⟩⟩)
      have q := q s.heap.objs.size (I.hok.fresh (Nat.le_refl _))
      rw [e0, List.replicate_zero, List.flatten_nil] at q
      refine ⟨.ref s.heap.objs.size, _, I.laid (t' := s.toks) (o := .tup []) (fun b ob q => Heap.get?_push_of_some _ q) (Nat.le_refl _) ?_, rfl, q⟩
      exact ⟨Nat.zero_le _, [], .nil, IsTup.new _ _⟩
    · have c2 : (decide (k ≤ 0) || its.toArray.isEmpty) = false := by rw [hi, decide_eq_false hk] <;> rfl
      have hm : ((its.toArray.size : Nat) : Int) * k ≤ (sizeLine : Int) := by
        rw [hsz0]
        have : (k.toNat : Int) = k := by omega
        rw [← this]
        exact_mod_cast hz
      have flen : (List.replicate k.toNat its).flatten.length ≤ sizeLine := by
        rw [PyProof.Rows.lm_len_rep_flat, hle, Nat.mul_comm]
        exact hz
      have c4 : Builtin.Tuple.tupleTooMany (((its.toArray.size : Nat) : Int) * k) = false := by
        unfold Builtin.Tuple.tupleTooMany
        exact decide_eq_false (by omega)
      have se := sizeLine_eq
      refine wpAny_binaryOp_repeat_ref (T := "tuple") (U := "int") (by decide) ⟨_, ho, rfl⟩ (fun s' => typeIs_int s' k t) noFill_tuple_mul F.fills_int_mul F.slot_int_rmul repeat_tuple F.slot_int_index.lookup
        (call_meets F.slot_int_rmul (typeIs_int s k t) F.entry_int_rmul (F.args_int_rmul_2 _ _) (int_rmul_tuple k t l its.toArray n dd sl)
          ⟨ho, rfl, ⟨_, ho, rfl⟩, call_meets F.slot_tuple_mul ⟨_, ho, rfl⟩ F.entry_tuple_mul (F.args_tuple_mul_2 _ _) (tuple_mulW l its.toArray n dd sl k t c0 c1 c2 (by omega) c4 (by rw [size_rep, List.size_toArray]; exact flen)) ⟨ho, ?_⟩⟩)
      rw [size_rep]
      refine ⟨.ref s.heap.objs.size, _, I.laid (t' := s.toks) (o := .tup (List.replicate k.toNat xs).flatten) (fun b ob q => Heap.get?_push_of_some _ q) (Nat.le_refl _) ?_, rfl, q _ (I.hok.fresh (Nat.le_refl _))⟩
      exact ⟨by rw [PyProof.Rows.lm_len_rep_flat, Nat.mul_comm]; exact hz, _, r.rep k.toNat, IsTup.new _ _⟩
end
end DL
/-! DLc: operators, items, slices, built-in functions, by data. -/
namespace DL
open PySem PySem.Spec PyProof.Rows L2

/-! ### data as the library's data; == -/
mutual
def pyD : D → PyData
  | .non => .none
  | .bl b => .bool b
  | .int i => .int i
  | .str x => .str x
  | .tup xs => .tuple (pyDs xs)
  | .lst xs => .list (pyDs xs)
  | .ins _ _ => .dict []
  | .fn _ => .dict []
  | .scr _ => .dict []
  | .dct _ => .dict []
def pyDs : List D → List PyData
  | [] => []
  | x :: xs => pyD x :: pyDs xs
end
/-- nothing but numbers, truths, None, texts, tuples and lists -/
def plD (d : D) : Bool := (pyD d).plain
def plDs (ds : List D) : Bool := PyData.plainAll (pyDs ds)
def dpD (d : D) : Nat := (pyD d).depth
def dpDs (ds : List D) : Nat := PyData.depthAll (pyDs ds)
def eqq (d e : D) : Bool := PyData.eqv (pyD d) (pyD e)
def eqqs (ds es : List D) : Bool := PyData.eqvAll (pyDs ds) (pyDs es)
section
variable {z : Z} {H : Hp}
mutual
theorem Rp.dp : ∀ {v : V} {d : D}, Rp z H v d → (pyD d).plain = true → Dp z.K H v (pyD d)
  | _, _, .non, _ => by rw [pyD]; exact .non
  | _, _, .bl b, _ => by rw [pyD]; exact .bl b
  | _, _, .int i, _ => by rw [pyD]; exact .int i
  | _, _, .str x, _ => by rw [pyD]; exact .str x
  | _, _, .tup h r, p => by
    rw [pyD] at p ⊢
    exact .tup h (RpL.dp r (by simpa only [PyData.plain] using p))
  | _, _, .lst h r, p => by
    rw [pyD] at p ⊢
    exact .lst (.inl (.inl h)) (RpL.dp r (by simpa only [PyData.plain] using p))
  | _, _, .ins h r, p => by rw [pyD] at p; simp [PyData.plain] at p
  | _, _, .fn n, p => by rw [pyD] at p; simp [PyData.plain] at p
  | _, _, .scr h, p => by rw [pyD] at p; simp [PyData.plain] at p
  | _, _, .dct h r, p => by rw [pyD] at p; simp [PyData.plain] at p
theorem RpL.dp : ∀ {v : List V} {d : List D}, RpL z H v d → PyData.plainAll (pyDs d) = true → DpAll z.K H v (pyDs d)
  | _, _, .nil, _ => by rw [pyDs]; exact .nil
  | _, _, .cons h r, p => by
    rw [pyDs] at p ⊢
    have p' := p
    simp only [PyData.plainAll, Bool.and_eq_true] at p'
    exact .cons (Rp.dp h p'.1) (RpL.dp r p'.2)
end
theorem Dp.mono {K : PySem.W.Frag} {H H' : Hp} (e : Ext H H') : (∀ {v : V} {d : PyData}, Dp K H v d → Dp K H' v d) := fun {v d} h =>
  Dp.rec (motive_1 := fun v d _ => Dp K H' v d) (motive_2 := fun vs ds _ => DpAll K H' vs ds) .non .bl .int .str (fun h _ r => .lst (ext_sqL e h) r) (fun h _ r => .tup (ext_sqT e h) r) .nil (fun _ _ a b => .cons a b) h
theorem Rq.dp {L : List Addr} {x : V} {d : D} (h : Rq z L H x d) (p : (pyD d).plain = true) : Dp z.K H x (pyD d) := by
  cases d with
  | lst ds =>
    obtain ⟨a, vs, rfl, h, r⟩ := h
    rw [pyD] at p ⊢
    have q : Dp z.K (fun b => if b = a then some (.lst vs) else hid L H b) (.ref a) (.list (pyDs ds)) := by
      refine .lst (.inl (.inl (if_pos rfl))) ?_
      refine RpL.dp (r.ext fun b o e => ?_) (by simpa only [PyData.plain] using p)
      show (if b = a then some (HO.lst vs) else hid L H b) = some o
      split
      · rename_i q; subst q; exact h.symm.trans (hid_ext _ _ e)
      · exact e
    refine Dp.mono (fun b o e => ?_) q
    change (if b = a then some (HO.lst vs) else hid L H b) = some o at e
    split at e
    · rename_i q; subst q; cases e; exact h
    · exact hid_ext _ _ e
  | _ => exact Dp.mono hid_ext (Rp.dp h p)
end
def eqD (d e : D) : Option D := if plD d && plD e && decide (min (dpD d) (dpD e) ≤ 64) then some (.bl (eqq d e)) else none
def neD (d e : D) : Option D := if plD d && plD e && decide (min (dpD d) (dpD e) ≤ 64) then some (.bl (!eqq d e)) else none
def sign? (x : Str) : Option Nat := match x.cps.toList with | [c] => some c | _ => none
def inD (d e : D) : Option D := match e with
  | .lst xs | .tup xs => if plD d && plDs xs && decide (min (dpDs xs) (dpD d) ≤ 64) then some (.bl (xs.any fun y => eqq y d)) else none
  | .str y => (match d with
    | .str x => (sign? x).map fun c => .bl (decide (c ∈ y.cps.toList))
    | _ => none)
  | _ => none
def notInD (d e : D) : Option D := match inD d e with
  | some (.bl b) => some (.bl (!b))
  | _ => none

/-! ### two-place operators, by data -/
def rG (z : Z) (g : D → D → Option D) : R2 := fun x y H Q => ∃ (L : List Addr) (d e u : D), (∀ a ∈ L, ∃ o, H a = some o) ∧ Rq z L H x d ∧ Rq z L H y e ∧ g d e = some u ∧ ∀ w H', Ext H H' → Rp z (hid L H') w u → Q w H'
theorem rG_S {z : Z} {g : D → D → Option D} : OpS z (rG z g) g := fun L H x y d e u Q hL hd he hg q => ⟨L, d, e, u, hL, hd, he, hg, q⟩
section
variable {X : Cx} {z : Z} {W : XK} {a b c : Expr} {sa sb sc : Sem} {pos : Pos} {g g' : D → D → Option D}
theorem c_binG {op : Operator} (ho : OpR X (binaryOp op) (rG z g)) (ha : CE z W X a sa) (hb : CE z W X b sb) : CE z W X (.BinOp a op b pos) (sBin g sa sb) := c_bin ho rG_S ha hb
theorem c_cmpG {op : CmpOp} (ho : OpR X (compareOp op) (rG z g)) (ha : CE z W X a sa) (hb : CE z W X b sb) (hm : behindInMarks op b = false := by first | exact nomark _ | rfl) : CE z W X (.Compare a [op] [b] pos) (sBin g sa sb) := c_cmp ho rG_S ha hb hm
theorem ct_cmpG {op : CmpOp} (ho : OpR X (compareOp op) (rG z g)) (ha : CE z W X a sa) (hb : CE z W X b sb) (hm : behindInMarks op b = false := by first | exact nomark _ | rfl) : CT z W X (.Compare a [op] [b] pos) (sTb (sBin g sa sb)) := ct_cmp ho rG_S ha hb hm
theorem c_chainG {op op' : CmpOp} (ho : OpR X (compareOp op) (rG z g)) (ho' : OpR X (compareOp op') (rG z g')) (ha : CE z W X a sa) (hb : CE z W X b sb) (hc : CE z W X c sc) (hm : lastMarks [op, op'] [b, c] = false := by with_unfolding_all rfl) :
    CE z W X (.Compare a [op, op'] [b, c] pos) (sChain g g' sa sb sc) := c_chain ho rG_S ho' rG_S ha hb hc hm
theorem ct_chainG {op op' : CmpOp} (ho : OpR X (compareOp op) (rG z g)) (ho' : OpR X (compareOp op') (rG z g')) (ha : CE z W X a sa) (hb : CE z W X b sb) (hc : CE z W X c sc) (hm : lastMarks [op, op'] [b, c] = false := by with_unfolding_all rfl) :
    CT z W X (.Compare a [op, op'] [b, c] pos) (sTb (sChain g g' sa sb sc)) := ct_chain ho rG_S ho' rG_S ha hb hc hm
end

def b01 (b : Bool) : Int := if b = true then 1 else 0
def addD : D → D → Option D
  | .int i, .int j => some (.int (i + j))
  | .bl b, .int j => some (.int (b01 b + j))
  | .str x, .str y => if x.length + y.length ≤ sizeLine then some (.str (x ++ y)) else none
  | .lst xs, .lst ys => if xs.length + ys.length ≤ sizeLine then some (.lst (xs ++ ys)) else none
  | .tup xs, .tup ys => if xs.length + ys.length ≤ sizeLine then some (.tup (xs ++ ys)) else none
  | _, _ => none
def subD : D → D → Option D
  | .int i, .int j => some (.int (i - j))
  | .bl b, .int j => some (.int (b01 b - j))
  | _, _ => none
def mulD : D → D → Option D
  | .int i, .int j => if i.natAbs.log2 + j.natAbs.log2 < 1000000 then some (.int (i * j)) else none
  | .lst xs, .int k => if -(2 ^ 63) ≤ k ∧ k < 2 ^ 63 ∧ xs.length * k.toNat ≤ sizeLine then some (.lst (List.replicate k.toNat xs).flatten) else none
  | .tup xs, .int k => if -(2 ^ 63) ≤ k ∧ k < 2 ^ 63 ∧ xs.length * k.toNat ≤ sizeLine then some (.tup (List.replicate k.toNat xs).flatten) else none
  | _, _ => none
def fdivD : D → D → Option D
  | .int i, .int j => if 0 < j ∧ j.natAbs.log2 < 9000 then some (.int (i / j)) else none
  | _, _ => none
def modD : D → D → Option D
  | .int i, .int j => if 0 < j then some (.int (i % j)) else none
  | _, _ => none
def powD : D → D → Option D
  | .int i, .int j => if 0 ≤ j ∧ j ≤ 1000000 ∧ i.natAbs < 2 ^ 64 then some (.int (i ^ j.toNat)) else none
  | _, _ => none
def ltD : D → D → Option D
  | .int i, .int j => some (.bl (decide (i < j)))
  | _, _ => none
def leD : D → D → Option D
  | .int i, .int j => some (.bl (decide (i ≤ j)))
  | _, _ => none
def gtD : D → D → Option D
  | .int i, .int j => some (.bl (decide (j < i)))
  | _, _ => none
def geD : D → D → Option D
  | .int i, .int j => some (.bl (decide (j ≤ i)))
  | _, _ => none
def isNonD : D → Bool
  | .non => true
  | _ => false
def isD : D → D → Option D
  | d, .non => some (.bl (isNonD d))
  | _, _ => none
def isNotD : D → D → Option D
  | d, .non => some (.bl (!isNonD d))
  | _, _ => none
section
variable {X : Cx} {z : Z}
theorem Rp.isNon {H : Hp} {x : V} {d : D} (h : Rp z H x d) : decide (x = V.non) = isNonD d := by
  cases h <;> first | rfl | simp [isNonD]
theorem Rq.isNon {L : List Addr} {H : Hp} {x : V} {d : D} (h : Rq z L H x d) : decide (x = V.non) = isNonD d := by
  cases d with
  | lst ds => obtain ⟨a, vs, rfl, _⟩ := h; simp [isNonD]
  | _ => exact Rp.isNon h
theorem og_add (hK : X.K = z.K) : OpR X (binaryOp .Add) (rG z addD) := by
  rintro pins s σ H x y v u Q I rx ry ⟨L, d, e, w, hL, hd, he, hg, q⟩
  unfold addD at hg
  split at hg
  · cases hd; cases he; cases hg
    exact op_add pins s σ H _ _ v u Q I rx ry ⟨_, _, rfl, rfl, q _ _ (Ext.refl _) (.int _)⟩
  · cases hd; cases he; cases hg
    cases rx
    obtain ⟨t, rfl⟩ := ry
    exact IntBool.add_bool_int ⟨.int _, H, I.tok _, ⟨_, rfl⟩, q _ _ (Ext.refl _) (.int _)⟩
  · cases hd; cases he
    split at hg
    · rename_i hz
      cases hg
      exact op_add_str pins s σ H _ _ v u Q I rx ry ⟨_, _, rfl, rfl, hz, q _ _ (Ext.refl _) (.str _)⟩
    · cases hg
  · obtain ⟨a, vs, rfl, h1, r1⟩ := hd
    obtain ⟨b, ws, rfl, h2, r2⟩ := he
    split at hg
    · rename_i hz
      cases hg
      exact op_cat pins s σ H _ _ v u Q I rx ry ⟨a, b, vs, ws, rfl, rfl, h1, h2, by rw [r1.length, r2.length]; exact hz, fun p hp => q _ _ (Ext.new hp) (Rp.newL hL hp (r1.append r2))⟩
    · cases hg
  · cases hd with | tup h1 r1 =>
    cases he with | tup h2 r2 =>
    split at hg
    · rename_i hz
      cases hg
      have e1 := r1.length
      have e2 := r2.length
      refine op_catA pins s σ H _ _ v u Q I rx ry ⟨_, _, _, _, rfl, rfl, by rw [hK]; exact ext_sqT hid_ext h1, by rw [hK]; exact ext_sqT hid_ext h2, by rw [e1, e2]; exact hz, fun h => ?_, fun _ h => ?_, fun _ _ p hp => q _ _ (Ext.new hp) (Rp.newT hL hp (r1.append r2))⟩
      · subst h; cases r1
        exact q _ _ (Ext.refl _) (.tup h2 r2)
      · subst h; cases r2
        rw [List.append_nil] at q
        exact q _ _ (Ext.refl _) (.tup h1 r1)
    · cases hg
  · cases hg
theorem og_sub : OpR X (binaryOp .Sub) (rG z subD) := by
  rintro pins s σ H x y v u Q I rx ry ⟨L, d, e, w, hL, hd, he, hg, q⟩
  unfold subD at hg
  split at hg
  · cases hd; cases he; cases hg
    exact op_sub pins s σ H _ _ v u Q I rx ry ⟨_, _, rfl, rfl, q _ _ (Ext.refl _) (.int _)⟩
  · cases hd; cases he; cases hg
    cases rx
    obtain ⟨t, rfl⟩ := ry
    exact IntBool.sub_bool_int ⟨.int _, H, I.tok _, ⟨_, rfl⟩, q _ _ (Ext.refl _) (.int _)⟩
  · cases hg
theorem og_mul (hK : X.K = z.K) : OpR X (binaryOp .Mult) (rG z mulD) := by
  rintro pins s σ H x y v u Q I rx ry ⟨L, d, e, w, hL, hd, he, hg, q⟩
  unfold mulD at hg
  split at hg
  · cases hd; cases he
    split at hg
    · rename_i hz
      cases hg
      exact op_mulW pins s σ H _ _ v u Q I rx ry ⟨_, _, rfl, rfl, hz, q _ _ (Ext.refl _) (.int _)⟩
    · cases hg
  · obtain ⟨a, vs, rfl, h1, r1⟩ := hd
    cases he
    split at hg
    · rename_i hz
      cases hg
      exact op_rep pins s σ H _ _ v u Q I rx ry ⟨a, _, vs, rfl, rfl, h1, hz.1, hz.2.1, by rw [r1.length]; exact hz.2.2, fun p hp => q _ _ (Ext.new hp) (Rp.newL hL hp (r1.rep _))⟩
    · cases hg
  · cases hd with | tup h1 r1 =>
    cases he
    split at hg
    · rename_i hz
      cases hg
      refine op_repA pins s σ H _ _ v u Q I rx ry ⟨_, _, _, rfl, rfl, by rw [hK]; exact ext_sqT hid_ext h1, hz.1, hz.2.1, by rw [r1.length]; exact hz.2.2, fun h => ?_, fun p hp => q _ _ (Ext.new hp) (Rp.newT hL hp (r1.rep _))⟩
      rcases h with h | h
      · subst h; cases r1
        have e0 : ∀ n : Nat, (List.replicate n ([] : List D)).flatten = [] := fun n => by simp
        rw [e0] at q
        exact q _ _ (Ext.refl _) (.tup h1 .nil)
      · subst h
        have e0 : ∀ l : List D, (List.replicate (1 : Int).toNat l).flatten = l := fun l => by simp
        rw [e0] at q
        exact q _ _ (Ext.refl _) (.tup h1 r1)
    · cases hg
  · cases hg
theorem og_fdiv : OpR X (binaryOp .FloorDiv) (rG z fdivD) := by
  rintro pins s σ H x y v u Q I rx ry ⟨L, d, e, w, hL, hd, he, hg, q⟩
  unfold fdivD at hg
  split at hg
  · cases hd; cases he
    split at hg
    · rename_i hz
      cases hg
      exact op_fdivW pins s σ H _ _ v u Q I rx ry ⟨_, _, rfl, rfl, hz, q _ _ (Ext.refl _) (.int _)⟩
    · cases hg
  · cases hg
theorem og_mod : OpR X (binaryOp .Mod) (rG z modD) := by
  rintro pins s σ H x y v u Q I rx ry ⟨L, d, e, w, hL, hd, he, hg, q⟩
  unfold modD at hg
  split at hg
  · cases hd; cases he
    split at hg
    · rename_i hz
      cases hg
      exact op_mod pins s σ H _ _ v u Q I rx ry ⟨_, _, rfl, rfl, hz, q _ _ (Ext.refl _) (.int _)⟩
    · cases hg
  · cases hg
theorem og_pow : OpR X (binaryOp .Pow) (rG z powD) := by
  rintro pins s σ H x y v u Q I rx ry ⟨L, d, e, w, hL, hd, he, hg, q⟩
  unfold powD at hg
  split at hg
  · cases hd; cases he
    split at hg
    · rename_i hz
      cases hg
      exact op_pow pins s σ H _ _ v u Q I rx ry ⟨_, _, rfl, rfl, hz, q _ _ (Ext.refl _) (.int _)⟩
    · cases hg
  · cases hg
theorem og_lt : OpR X (compareOp .Lt) (rG z ltD) := by
  rintro pins s σ H x y v u Q I rx ry ⟨L, d, e, w, hL, hd, he, hg, q⟩
  unfold ltD at hg
  split at hg
  · cases hd; cases he; cases hg
    exact op_lt pins s σ H _ _ v u Q I rx ry ⟨_, _, rfl, rfl, q _ _ (Ext.refl _) (.bl _)⟩
  · cases hg
theorem og_le : OpR X (compareOp .LtE) (rG z leD) := by
  rintro pins s σ H x y v u Q I rx ry ⟨L, d, e, w, hL, hd, he, hg, q⟩
  unfold leD at hg
  split at hg
  · cases hd; cases he; cases hg
    exact op_le pins s σ H _ _ v u Q I rx ry ⟨_, _, rfl, rfl, q _ _ (Ext.refl _) (.bl _)⟩
  · cases hg
theorem og_gt : OpR X (compareOp .Gt) (rG z gtD) := by
  rintro pins s σ H x y v u Q I rx ry ⟨L, d, e, w, hL, hd, he, hg, q⟩
  unfold gtD at hg
  split at hg
  · cases hd; cases he; cases hg
    exact op_gt pins s σ H _ _ v u Q I rx ry ⟨_, _, rfl, rfl, q _ _ (Ext.refl _) (.bl _)⟩
  · cases hg
theorem og_ge : OpR X (compareOp .GtE) (rG z geD) := by
  rintro pins s σ H x y v u Q I rx ry ⟨L, d, e, w, hL, hd, he, hg, q⟩
  unfold geD at hg
  split at hg
  · cases hd; cases he; cases hg
    exact op_ge pins s σ H _ _ v u Q I rx ry ⟨_, _, rfl, rfl, q _ _ (Ext.refl _) (.bl _)⟩
  · cases hg
theorem og_is : OpR X (compareOp .Is) (rG z isD) := by
  rintro pins s σ H x y v u Q I rx ry ⟨L, d, e, w, hL, hd, he, hg, q⟩
  unfold isD at hg
  split at hg
  · cases he; cases hg
    exact op_isN pins s σ H _ _ v u Q I rx ry ⟨rfl, q _ _ (Ext.refl _) (by rw [hd.isNon]; exact .bl _)⟩
  · cases hg
theorem og_isNot : OpR X (compareOp .IsNot) (rG z isNotD) := by
  rintro pins s σ H x y v u Q I rx ry ⟨L, d, e, w, hL, hd, he, hg, q⟩
  unfold isNotD at hg
  split at hg
  · cases he; cases hg
    exact op_notN pins s σ H _ _ v u Q I rx ry ⟨rfl, q _ _ (Ext.refl _) (by rw [hd.isNon]; exact .bl _)⟩
  · cases hg
theorem og_eq (hK : X.K = z.K) (hu : X.A.units + 100 < cLine) : OpR X (compareOp .Eq) (rG z eqD) := by
  rintro pins s σ H x y v u Q I rx ry ⟨L, d, e, w, hL, hd, he, hg, q⟩
  unfold eqD at hg
  split at hg
  · rename_i hc
    cases hg
    simp only [Bool.and_eq_true, decide_eq_true_eq] at hc
    obtain ⟨as, r1⟩ := Dp.reads I (pyD d) x v (by rw [hK]; exact hd.dp hc.1.1) rx
    obtain ⟨bs, r2⟩ := Dp.reads I (pyD e) y u (by rw [hK]; exact he.dp hc.1.2) ry
    exact SeqAt.eq_plain r1 r2 hc.1.1 hc.1.2 (by have := hc.2; unfold dpD at this; omega) ⟨.bl _, H, I, rfl, q _ _ (Ext.refl _) (.bl _)⟩
  · cases hg
theorem og_ne (hK : X.K = z.K) (hu : X.A.units + 100 < cLine) : OpR X (compareOp .NotEq) (rG z neD) := by
  rintro pins s σ H x y v u Q I rx ry ⟨L, d, e, w, hL, hd, he, hg, q⟩
  unfold neD at hg
  split at hg
  · rename_i hc
    cases hg
    simp only [Bool.and_eq_true, decide_eq_true_eq] at hc
    obtain ⟨as, r1⟩ := Dp.reads I (pyD d) x v (by rw [hK]; exact hd.dp hc.1.1) rx
    obtain ⟨bs, r2⟩ := Dp.reads I (pyD e) y u (by rw [hK]; exact he.dp hc.1.2) ry
    exact SeqAt.ne_plain r1 r2 hc.1.1 hc.1.2 (by have := hc.2; unfold dpD at this; omega) ⟨.bl _, H, I, rfl, q _ _ (Ext.refl _) (.bl _)⟩
  · cases hg
theorem any_py (d : D) : ∀ xs : List D, ((pyDs xs).any fun y => PyData.eqv y (pyD d)) = xs.any fun y => eqq y d
  | [] => by rw [pyDs]; rfl
  | x :: xs => by rw [pyDs, List.any_cons, List.any_cons, any_py d xs]; rfl
theorem og_in (hK : X.K = z.K) (hu : X.A.units + 100 < cLine) : OpR X (compareOp .In) (rG z inD) := by
  rintro pins s σ H x y v u Q I rx ry ⟨L, d, e, w, hL, hd, he, hg, q⟩
  unfold inD at hg
  split at hg
  · rename_i xs
    split at hg
    · rename_i hc
      cases hg
      simp only [Bool.and_eq_true, decide_eq_true_eq] at hc
      obtain ⟨as, r1⟩ := Dp.reads I (pyD d) x v (by rw [hK]; exact hd.dp hc.1.1) rx
      have p2 : (pyD (.lst xs)).plain = true := by rw [pyD]; simp only [PyData.plain]; exact hc.1.2
      obtain ⟨bs, r2⟩ := Dp.reads I (pyD (.lst xs)) y u (by rw [hK]; exact he.dp p2) ry
      rw [pyD] at r2
      exact SeqAt.in_list_data r2 r1 hc.1.2 hc.1.1 (by have := hc.2; unfold dpD dpDs at this; omega) ⟨.bl _, H, I, rfl, q _ _ (Ext.refl _) (by rw [any_py]; exact .bl _)⟩
    · cases hg
  · rename_i xs
    split at hg
    · rename_i hc
      cases hg
      simp only [Bool.and_eq_true, decide_eq_true_eq] at hc
      obtain ⟨as, r1⟩ := Dp.reads I (pyD d) x v (by rw [hK]; exact hd.dp hc.1.1) rx
      have p2 : (pyD (.tup xs)).plain = true := by rw [pyD]; simp only [PyData.plain]; exact hc.1.2
      obtain ⟨bs, r2⟩ := Dp.reads I (pyD (.tup xs)) y u (by rw [hK]; exact Rq.dp he p2) ry
      rw [pyD] at r2
      exact SeqAt.in_tuple_data r2 r1 hc.1.2 hc.1.1 (by have := hc.2; unfold dpD dpDs at this; omega) ⟨.bl _, H, I, rfl, q _ _ (Ext.refl _) (by rw [any_py]; exact .bl _)⟩
    · cases hg
  · rename_i yy
    split at hg
    · rename_i xx
      cases hd; cases he
      cases hs : sign? xx with
      | none => rw [hs] at hg; cases hg
      | some c =>
        rw [hs] at hg
        cases hg
        have hx : xx = ⟨#[c]⟩ := by
          unfold sign? at hs
          split at hs
          · rename_i c' hl
            cases hs
            obtain ⟨arr⟩ := xx
            congr 1
            exact Array.toList_inj.mp (by rw [hl])
          · cases hs
        subst hx
        exact op_in_sign pins s σ H _ _ v u Q I rx ry ⟨c, yy, rfl, rfl, q _ _ (Ext.refl _) (.bl _)⟩
    · cases hg
  · cases hg
theorem og_notIn (hK : X.K = z.K) (hu : X.A.units + 100 < cLine) : OpR X (compareOp .NotIn) (rG z notInD) := by
  rintro pins s σ H x y v u Q I rx ry ⟨L, d, e, w, hL, hd, he, hg, q⟩
  unfold notInD at hg
  cases hb : inD d e with
  | none => rw [hb] at hg; cases hg
  | some bb =>
  rw [hb] at hg
  unfold inD at hb
  split at hb
  · rename_i xs
    split at hb
    · rename_i hc
      cases hb
      cases hg
      simp only [Bool.and_eq_true, decide_eq_true_eq] at hc
      obtain ⟨as, r1⟩ := Dp.reads I (pyD d) x v (by rw [hK]; exact hd.dp hc.1.1) rx
      have p2 : (pyD (.lst xs)).plain = true := by rw [pyD]; simp only [PyData.plain]; exact hc.1.2
      obtain ⟨bs, r2⟩ := Dp.reads I (pyD (.lst xs)) y u (by rw [hK]; exact he.dp p2) ry
      rw [pyD] at r2
      exact SeqAt.notIn_list_data r2 r1 hc.1.2 hc.1.1 (by have := hc.2; unfold dpD dpDs at this; omega) ⟨.bl _, H, I, rfl, q _ _ (Ext.refl _) (by rw [any_py]; exact .bl _)⟩
    · cases hb
  · rename_i xs
    split at hb
    · rename_i hc
      cases hb
      cases hg
      simp only [Bool.and_eq_true, decide_eq_true_eq] at hc
      obtain ⟨as, r1⟩ := Dp.reads I (pyD d) x v (by rw [hK]; exact hd.dp hc.1.1) rx
      have p2 : (pyD (.tup xs)).plain = true := by rw [pyD]; simp only [PyData.plain]; exact hc.1.2
      obtain ⟨bs, r2⟩ := Dp.reads I (pyD (.tup xs)) y u (by rw [hK]; exact Rq.dp he p2) ry
      rw [pyD] at r2
      exact SeqAt.notIn_tuple_data r2 r1 hc.1.2 hc.1.1 (by have := hc.2; unfold dpD dpDs at this; omega) ⟨.bl _, H, I, rfl, q _ _ (Ext.refl _) (by rw [any_py]; exact .bl _)⟩
    · cases hb
  · rename_i yy
    split at hb
    · rename_i xx
      cases hd; cases he
      cases hs : sign? xx with
      | none => rw [hs] at hb; cases hb
      | some c =>
        rw [hs] at hb
        cases hb
        cases hg
        have hx : xx = ⟨#[c]⟩ := by
          unfold sign? at hs
          split at hs
          · rename_i c' hl
            cases hs
            obtain ⟨arr⟩ := xx
            congr 1
            exact Array.toList_inj.mp (by rw [hl])
          · cases hs
        subst hx
        exact op_notIn_sign pins s σ H _ _ v u Q I rx ry ⟨c, yy, rfl, rfl, q _ _ (Ext.refl _) (.bl _)⟩
    · cases hb
  · cases hb
/-- -x -/
def negD : D → Option D
  | .int i => some (.int (-i))
  | _ => none
theorem neg_S : UnS z (rU fun i => .int (-i)) negD := fun L H x d u Q hL hd hg q => by
  unfold negD at hg
  split at hg
  · cases hd; cases hg
    exact ⟨_, rfl, q _ _ (Ext.refl _) (.int _)⟩
  · cases hg
end
end DL
/-! DLd: items, slices, built-in calls, isinstance, calls of defs. -/
namespace DL
open PySem PySem.Spec PyProof.Rows L2

/-! ### items -/
def strAt (x : Str) (i : Int) : Option D := (atI x.cps.toList i).map fun c => .str ⟨#[c]⟩
def ixD : D → D → Option D
  | .lst xs, .int i => atI xs i
  | .tup xs, .int i => atI xs i
  | .scr ns, .int i => (atI ns i).map .int
  | .str x, .int i => if x.length ≤ sizeLine then strAt x i else none
  | _, _ => none
theorem atI_len {α β : Type} {xs : List α} {ys : List β} {i : Int} {y : β} (hl : xs.length = ys.length) (h : atI ys i = some y) : ∃ j : Nat, ys[j]? = some y ∧ ∀ x, xs[j]? = some x → atI xs i = some x := by
  unfold atI at h
  cases q : ixN ys.length i with
  | none => rw [q] at h; cases h
  | some j =>
    rw [q] at h
    refine ⟨j, h, fun x hx => ?_⟩
    unfold atI
    rw [hl, q]
    exact hx
theorem atI_rp {z : Z} {H : Hp} {vs : List V} {ds : List D} {i : Int} {d : D} (r : RpL z H vs ds) (h : atI ds i = some d) : ∃ v, atI vs i = some v ∧ Rp z H v d := by
  obtain ⟨j, h1, h2⟩ := atI_len r.length h
  obtain ⟨x, h3, h4⟩ := r.get' h1
  exact ⟨x, h2 x h3, h4⟩
section
variable {X : Cx} {z : Z} {W : XK} {a b c e : Expr} {es : List Expr} {sa sb sc s : Sem} {r : SemA} {pos : Pos} {g : D → D → Option D}
theorem ig_ix (hK : X.K = z.K) : IxR X (rG z ixD) := by
  rintro value slice pins s σ H x y v u Q I rx ry ⟨L, d, e, w, hL, hd, he, hg, q⟩ hs
  unfold ixD at hg
  split at hg
  · obtain ⟨a, vs, rfl, h1, r1⟩ := hd
    cases he
    obtain ⟨y', h2, h3⟩ := atI_rp r1 hg
    exact ix_list value slice pins s σ H _ _ v u Q I rx ry ⟨a, vs, _, y', rfl, rfl, SqL.of h1, h2, q _ _ (Ext.refl _) h3⟩ hs
  · cases hd with | tup h1 r1 =>
    cases he
    obtain ⟨y', h2, h3⟩ := atI_rp r1 hg
    exact ix_tup value slice pins s σ H _ _ v u Q I rx ry ⟨_, _, _, y', rfl, rfl, by rw [hK]; exact ext_sqT hid_ext h1, h2, q _ _ (Ext.refl _) h3⟩ hs
  · cases hd with | scr h1 =>
    cases he
    rename_i ns i _
    cases q1 : atI ns i with
    | none => rw [q1] at hg; cases hg
    | some k =>
      rw [q1] at hg
      cases hg
      obtain ⟨j, h2, h3⟩ := atI_len (xs := ns.map V.int) (by rw [List.length_map]) q1
      exact ix_list value slice pins s σ H _ _ v u Q I rx ry ⟨_, _, _, .int k, rfl, rfl, by rw [hK]; exact ext_sqL hid_ext h1, h3 (.int k) (by rw [List.getElem?_map, h2]; rfl), q _ _ (Ext.refl _) (.int k)⟩ hs
  · cases hd
    cases he
    split at hg
    · rename_i hz
      unfold strAt at hg
      obtain ⟨k, q1, rfl⟩ := Option.map_eq_some_iff.mp hg
      · exact ix_str value slice pins s σ H _ _ v u Q I rx ry ⟨_, _, k, rfl, rfl, hz, q1, q _ _ (Ext.refl _) (.str _)⟩ hs
    · cases hg
  · cases hg
theorem c_ix (hK : X.K = z.K) (ha : CE z W X a sa) (hb : CE z W X b sb) (hs : PlainIx b := by exact fun _ _ => rfl) : CE z W X (.Subscript a b pos) (sBin ixD sa sb) :=
  pe_mono (pe_ix (ig_ix hK) ha hb hs) fun _ _ _ h => bin_of rG_S h

/-! ### slices -/
abbrev SemO := Env → Mem → R (Option Int)
def tO (z : Z) (W : XK) (s : SemO) : TO := fun σ H Q => ∃ η ι ρ m, SOk z η ι m ρ σ H ∧ Post z W η ι m H (fun _ _ H' b => Q b H') (s ρ m)
abbrev CO (z : Z) (W : XK) (X : Cx) (e : Option Expr) (s : SemO) : Prop := PO X e (tO z W s)
theorem po_mono {X : Cx} {e : Option Expr} {t t' : TO} (h : PO X e t) (k : ∀ σ H Q, t' σ H Q → t σ H Q) : PO X e t' := ⟨fun pins s σ H Q I q => h.run pins s σ H Q I (k _ _ _ q)⟩
def oNone : SemO := fun _ m => .ok none m
def oSome (s : Sem) : SemO := fun ρ m => (s ρ m).bind fun v m1 => match v with | .d (.int i) => .ok (some i) m1 | _ => .no
theorem co_none : CO z W X none oNone := po_mono po_none fun σ H Q ⟨η, ι, ρ, m, ok, h⟩ => h H ι Stp.refl ok.mem
theorem co_some (h : CE z W X e s) : CO z W X (some e) (oSome s) := po_mono (po_some h) fun σ H Q ⟨η, ι, ρ, m, ok, h⟩ => by
  refine ⟨η, ι, ρ, m, ok, Post.mono (fun ι1 m1 H1 v st1 k1 h1 x rx => ?_) (Post.bind h)⟩
  split at h1
  · cases rx
    exact ⟨_, rfl, h1 H1 ι1 Stp.refl k1⟩
  · exact h1.elim
def cutD (xs : List D) (lo hi : Option Int) : List D := (xs.drop (HT.sIx xs.length 0 lo)).take (HT.sIx xs.length xs.length hi - HT.sIx xs.length 0 lo)
theorem cut_rp {H : Hp} {vs : List V} {ds : List D} (r : RpL z H vs ds) (lo hi : Option Int) : RpL z H (cutV vs lo hi) (cutD ds lo hi) := by
  unfold cutV cutD
  rw [r.length]
  exact (r.drop _).take _
def slD (d : D) (lo hi : Option Int) : Option D :=
  match d with
  | .lst xs => some (.lst (cutD xs lo hi))
  | .tup xs => some (.tup (cutD xs lo hi))
  | .str x => if x.length ≤ sizeLine then some (.str (cutS x lo hi)) else none
  | _ => none
def rSlG (z : Z) : V → Option Int → Option Int → Hp → VK → Prop := fun x lo hi H Q => ∃ (L : List Addr) (d u : D), (∀ a ∈ L, ∃ o, H a = some o) ∧ Rq z L H x d ∧ slD d lo hi = some u ∧ ∀ w H', Ext H H' → Rp z (hid L H') w u → Q w H'
theorem sg_sl (hK : X.K = z.K) : SlR X (rSlG z) := by
  rintro pins s σ H x v vl vu lo hi sl Q I rx hs pl pu ⟨L, d, u, hL, hd, hg, q⟩
  unfold slD at hg
  split at hg
  · obtain ⟨a, vs, rfl, h1, r1⟩ := hd
    cases hg
    exact sl_list pins s σ H _ v vl vu lo hi sl Q I rx hs pl pu ⟨a, vs, rfl, SqL.of h1, fun p hp => q _ _ (Ext.new hp) (Rp.newL hL hp (cut_rp r1 lo hi))⟩
  · rename_i xs
    cases hd with | tup h1 r1 =>
    cases hg
    refine sl_tupA pins s σ H _ v vl vu lo hi sl Q I rx hs pl pu ⟨_, _, rfl, by rw [hK]; exact ext_sqT hid_ext h1, fun h => ?_, fun _ p hp => q _ _ (Ext.new hp) (Rp.newT hL hp (cut_rp r1 lo hi))⟩
    have e : cutD xs lo hi = xs := by
      unfold cutD
      rw [← r1.length, h.1, h.2, r1.length]
      simp
    rw [e] at q
    exact q _ _ (Ext.refl _) (.tup h1 r1)
  · split at hg
    · rename_i hz
      cases hd
      cases hg
      exact sl_str pins s σ H _ v vl vu lo hi sl Q I rx hs pl pu ⟨_, rfl, hz, q _ _ (Ext.refl _) (.str _)⟩
    · cases hg
  · cases hg
def sSl (s : Sem) (lo hi : SemO) : Sem := fun ρ m => (s ρ m).bind fun v m1 => (lo ρ m1).bind fun l m2 => (hi ρ m2).bind fun h m3 => match drf m3 v with
  | some d => R.dat (slD d l h) m3
  | none => .no
theorem c_sl {lo hi : Option Expr} {sl sh : SemO} {p2 : Pos} (hK : X.K = z.K) (he : CE z W X e s) (hl : CO z W X lo sl) (hh : CO z W X hi sh) : CE z W X (.Subscript e (.Slice lo hi none p2) pos) (sSl s sl sh) :=
  pe_mono (pe_slice (sg_sl hK) he hl hh) fun σ H Q ⟨η, ι, ρ, m, ok, h⟩ => by
    refine ⟨η, ι, ρ, m, ok, Post.mono (fun ι1 m1 H1 v st1 k1 h1 x rx => ?_) (Post.bind h)⟩
    refine ⟨η, ι1, ρ, m1, ok.step st1 k1, Post.mono (fun ι2 m2 H2 l st2 k2 h2 => ?_) (Post.bind h1)⟩
    refine ⟨η, ι2, ρ, m2, ok.step (st1.trans st2) k2, Post.mono (fun ι3 m3 H3 u st3 k3 h3 => ?_) (Post.bind h2)⟩
    split at h3
    · rename_i d ed
      cases q : slD d l u with
      | none => rw [q] at h3; exact h3.elim
      | some w =>
        rw [q] at h3
        refine ⟨_, d, w, k3.hx, rq_of k3 ((rx.step st2).step st3) ed, q, fun w' H' ex r' => ?_⟩
        obtain ⟨st4, k4⟩ := Stp.grow k3 ex
        exact h3 H' ι3 st4 k4 w' r'
    · exact h3.elim
/-- xs[::-1] of a list -/
def revD : D → Option D
  | .lst xs => some (.lst xs.reverse)
  | _ => none
theorem c_revL {k : Nat} {p1 p2 p3 : Pos} (ha : CE z W X e s) : CE z W X (.Subscript e (.Slice none none (some (.UnaryOp .USub (.Constant (.int 1) k p1) p2)) p3) pos) (sUn revD s) :=
  pe_mono (pe_revL ha) fun σ H Q ⟨η, ι, ρ, m, ok, h⟩ => by
    refine ⟨η, ι, ρ, m, ok, Post.mono (fun ι1 m1 H1 v st1 k1 h1 x rx => ?_) (Post.bind h)⟩
    split at h1
    · rename_i d ed
      cases q : revD d with
      | none => rw [q] at h1; exact h1.elim
      | some w =>
        rw [q] at h1
        have hq := rq_of k1 rx ed
        unfold revD at q
        split at q
        · cases q
          obtain ⟨a, vs, rfl, h2, r2⟩ := hq
          refine ⟨a, vs, rfl, SqL.of h2, fun p hp => ?_⟩
          obtain ⟨st4, k4⟩ := Stp.grow k1 (Ext.new hp)
          exact h1 _ ι1 st4 k4 _ (Rp.newL k1.hx hp r2.reverse)
        · cases q
    · exact h1.elim

/-! ### calls of built-in functions, by data -/
def drfs (m : Mem) : List Vl → Option (List D)
  | [] => some []
  | v :: vs => match drf m v, drfs m vs with
    | some d, some ds => some (d :: ds)
    | _, _ => none
inductive RqL (z : Z) (L : List Addr) (H : Hp) : List V → List D → Prop
  | nil : RqL z L H [] []
  | cons {x : V} {xs : List V} {d : D} {ds : List D} : Rq z L H x d → RqL z L H xs ds → RqL z L H (x :: xs) (d :: ds)
theorem rqs_of {η ι : List Addr} {m : Mem} {H : Hp} (k : MOk z η ι m H) : ∀ {xs : List V} {vs : List Vl} {ds : List D}, RVL z ι (hid (η ++ liv ι m) H) xs vs → drfs m vs = some ds → RqL z (η ++ liv ι m) H xs ds
  | _, _, _, .nil, e => by cases e; exact .nil
  | _, v :: vs, ds, .cons h r, e => by
    unfold drfs at e
    split at e
    · rename_i d ds' e1 e2
      cases e
      exact .cons (rq_of k h e1) (rqs_of k r e2)
    · cases e
def rC (z : Z) (g : List D → Option D) : List V → Hp → VK → Prop := fun xs H Q => ∃ (L : List Addr) (ds : List D) (u : D), (∀ a ∈ L, ∃ o, H a = some o) ∧ RqL z L H xs ds ∧ g ds = some u ∧ ∀ w H', Ext H H' → Rp z (hid L H') w u → Q w H'
def sBif (g : List D → Option D) (r : SemA) : Sem := fun ρ m => (r ρ m).bind fun vs m1 => match drfs m1 vs with
  | some ds => R.dat (g ds) m1
  | none => .no
theorem bif_of {g : List D → Option D} {σ : L2.St} {H : Hp} {Q : VK} (h : tE z W (sBif g r) σ H Q) : tCB (rC z g) (tA z W r) σ H Q := by
  obtain ⟨η, ι, ρ, m, ok, h⟩ := h
  refine ⟨η, ι, ρ, m, ok, Post.mono (fun ι1 m1 H1 vs st1 k1 h1 xs rxs => ?_) (Post.bind h)⟩
  split at h1
  · rename_i ds ed
    cases q : g ds with
    | none => rw [q] at h1; exact h1.elim
    | some w =>
      rw [q] at h1
      refine ⟨_, ds, w, k1.hx, rqs_of k1 rxs ed, q, fun w' H' ex r' => ?_⟩
      obtain ⟨st4, k4⟩ := Stp.grow k1 ex
      exact h1 H' ι1 st4 k4 w' r'
  · exact h1.elim
theorem c_bif {x : Str} {id : String} {g : List D → Option D} {p : Pos} (hc : CallR X (.builtin id) (rC z g)) (hm : X.mg x = none) (hv : bootBuiltins x = some (.builtin id)) (ha : CA z W X (e :: es) r) (hg : Gl X x := by rfl) (hn : x ≠ "__name__" := by decide) (hdb : (x == ("__debug__" : Str)) = false := by decide)
    (he : starEach (e :: es) X.env = (false, eval e X.env) :: starEach es X.env := by rfl) (hpl : (backTo pos (starEach es X.env)).any (·.1) = false := by rfl) : CE z W X (.Call (.Name x p) (e :: es) [] pos) (sBif g r) :=
  pe_mono (pe_callB hc hg hm hv ha hn hdb he hpl) fun _ _ _ h => bif_of h
theorem c_bity {x : Str} {T : String} {g : List D → Option D} {p : Pos} (hc : CallR X (.type T) (rC z g)) (hm : X.mg x = none) (hv : bootBuiltins x = some (.type T)) (ha : CA z W X (e :: es) r) (hg : Gl X x := by rfl) (hn : x ≠ "__name__" := by decide) (hdb : (x == ("__debug__" : Str)) = false := by decide)
    (he : starEach (e :: es) X.env = (false, eval e X.env) :: starEach es X.env := by rfl) (hpl : (backTo pos (starEach es X.env)).any (·.1) = false := by rfl) : CE z W X (.Call (.Name x p) (e :: es) [] pos) (sBif g r) :=
  pe_mono (pe_callTy hc hg hm hv ha hn hdb he hpl) fun _ _ _ h => bif_of h

def lenD : List D → Option D
  | [.lst xs] => some (.int xs.length)
  | [.tup xs] => some (.int xs.length)
  | [.scr xs] => some (.int xs.length)
  | [.str x] => if x.length ≤ sizeLine then some (.int x.length) else none
  | _ => none
theorem cg_len (hK : X.K = z.K) : CallR X (.builtin "len") (rC z lenD) := by
  rintro pins s σ H xs us Q I rs ⟨L, ds, u, hL, hd, hg, q⟩
  unfold lenD at hg
  split at hg
  · cases hd with | cons hd hr => cases hr; obtain ⟨a, vs, rfl, h1, r1⟩ := hd; cases hg
                                  exact call_len_seq pins s σ H _ us Q I rs ⟨a, vs, rfl, .inl (SqL.of h1), by rw [r1.length]; exact q _ _ (Ext.refl _) (.int _)⟩
  · cases hd with | cons hd hr => cases hr; cases hd with | tup h1 r1 => cases hg; exact call_len_seq pins s σ H _ us Q I rs ⟨_, _, rfl, .inr (by rw [hK]; exact ext_sqT hid_ext h1), by rw [r1.length]; exact q _ _ (Ext.refl _) (.int _)⟩
  · cases hd with | cons hd hr => cases hr; cases hd with | scr h1 => cases hg; exact call_len_seq pins s σ H _ us Q I rs ⟨_, _, rfl, .inl (by rw [hK]; exact ext_sqL hid_ext h1), by rw [List.length_map]; exact q _ _ (Ext.refl _) (.int _)⟩
  · split at hg
    · rename_i hz
      cases hd with | cons hd hr => cases hr; cases hd; cases hg; exact call_len_str pins s σ H _ us Q I rs ⟨_, rfl, hz, q _ _ (Ext.refl _) (.int _)⟩
    · cases hg
  · cases hg
def intD : List D → Option D
  | [.int i] => some (.int i)
  | [.bl b] => some (.int (if b then 1 else 0))
  | _ => none
theorem cg_int : CallR X (.type "int") (rC z intD) := by
  rintro pins s σ H xs us Q I rs ⟨L, ds, u, hL, hd, hg, q⟩
  unfold intD at hg
  split at hg
  · cases hd with | cons hd hr => cases hr; cases hd; cases hg; exact call_int1 pins s σ H _ us Q I rs (.inl ⟨_, rfl, q _ _ (Ext.refl _) (.int _)⟩)
  · cases hd with | cons hd hr => cases hr; cases hd; cases hg; exact call_int1 pins s σ H _ us Q I rs (.inr ⟨_, rfl, q _ _ (Ext.refl _) (.int _)⟩)
  · cases hg
def boolD : List D → Option D
  | [.int i] => some (.bl (i != 0))
  | [.bl b] => some (.bl b)
  | _ => none
theorem cg_bool : CallR X (.type "bool") (rC z boolD) := by
  rintro pins s σ H xs us Q I rs ⟨L, ds, u, hL, hd, hg, q⟩
  unfold boolD at hg
  split at hg
  · cases hd with | cons hd hr => cases hr; cases hd; cases hg; exact call_bool1 pins s σ H _ us Q I rs (.inl ⟨_, rfl, q _ _ (Ext.refl _) (.bl _)⟩)
  · cases hd with | cons hd hr => cases hr; cases hd; cases hg; exact call_bool1 pins s σ H _ us Q I rs (.inr ⟨_, rfl, q _ _ (Ext.refl _) (.bl _)⟩)
  · cases hg
def strD : List D → Option D
  | [.int i] => if i.natAbs.log2 < 1920 then some (.str (toString i)) else none
  | [.str x] => some (.str x)
  | _ => none
def strID : List D → Option D
  | [.int i] => if i.natAbs.log2 < 1920 then some (.str (toString i)) else none
  | _ => none
theorem cg_strI : CallR X (.type "str") (rC z strID) := by
  rintro pins s σ H xs us Q I rs ⟨L, ds, u, hL, hd, hg, q⟩
  unfold strID at hg
  split at hg
  · split at hg
    · rename_i hz
      cases hd with | cons hd hr => cases hr; cases hd; cases hg; exact call_str_int pins s σ H _ us Q I rs ⟨_, rfl, hz, q _ _ (Ext.refl _) (.str _)⟩
    · cases hg
  · cases hg
def absD : List D → Option D
  | [.int i] => some (.int (if i < 0 then -i else i))
  | _ => none
theorem cg_abs : CallR X (.builtin "abs") (rC z absD) := by
  rintro pins s σ H xs us Q I rs ⟨L, ds, u, hL, hd, hg, q⟩
  unfold absD at hg
  split at hg
  · cases hd with | cons hd hr => cases hr; cases hd; cases hg; exact call_abs pins s σ H _ us Q I rs ⟨_, rfl, q _ _ (Ext.refl _) (.int _)⟩
  · cases hg
def min2D : List D → Option D
  | [.int i, .int j] => some (.int (if j < i then j else i))
  | _ => none
def max2D : List D → Option D
  | [.int i, .int j] => some (.int (if j > i then j else i))
  | _ => none
theorem cg_min2 (hc : X.calm = true) : CallR X (.builtin "min") (rC z min2D) := by
  rintro pins s σ H xs us Q I rs ⟨L, ds, u, hL, hd, hg, q⟩
  unfold min2D at hg
  split at hg
  · cases hd with | cons hd hr => cases hd; cases hr with | cons hd hr => cases hr; cases hd; cases hg; exact call_min2 hc pins s σ H _ us Q I rs ⟨_, _, rfl, q _ _ (Ext.refl _) (.int _)⟩
  · cases hg
theorem cg_max2 (hc : X.calm = true) : CallR X (.builtin "max") (rC z max2D) := by
  rintro pins s σ H xs us Q I rs ⟨L, ds, u, hL, hd, hg, q⟩
  unfold max2D at hg
  split at hg
  · cases hd with | cons hd hr => cases hd; cases hr with | cons hd hr => cases hr; cases hd; cases hg; exact call_max2 hc pins s σ H _ us Q I rs ⟨_, _, rfl, q _ _ (Ext.refl _) (.int _)⟩
  · cases hg
def listD : List D → Option D
  | [.lst xs] => some (.lst xs)
  | [.tup xs] => some (.lst xs)
  | _ => none
theorem cg_list (hK : X.K = z.K) : CallR X (.type "list") (rC z listD) := by
  rintro pins s σ H xs us Q I rs ⟨L, ds, u, hL, hd, hg, q⟩
  unfold listD at hg
  split at hg
  · cases hd with | cons hd hr => cases hr; obtain ⟨a, vs, rfl, h1, r1⟩ := hd; cases hg
                                  exact call_list_of pins s σ H _ us Q I rs ⟨a, vs, rfl, .inl (SqL.of h1), fun p hp => q _ _ (Ext.new hp) (Rp.newL hL hp r1)⟩
  · cases hd with | cons hd hr => cases hr; cases hd with | tup h1 r1 => cases hg; exact call_list_of pins s σ H _ us Q I rs ⟨_, _, rfl, .inr (by rw [hK]; exact ext_sqT hid_ext h1), fun p hp => q _ _ (Ext.new hp) (Rp.newL hL hp r1)⟩
  · cases hg
def tupleD : List D → Option D
  | [.lst xs] => some (.tup xs)
  | [.tup xs] => some (.tup xs)
  | _ => none
theorem cg_tuple (hK : X.K = z.K) : CallR X (.type "tuple") (rC z tupleD) := by
  rintro pins s σ H xs us Q I rs ⟨L, ds, u, hL, hd, hg, q⟩
  unfold tupleD at hg
  split at hg
  · cases hd with | cons hd hr => cases hr; obtain ⟨a, vs, rfl, h1, r1⟩ := hd; cases hg
                                  exact call_tuple_of pins s σ H _ us Q I rs ⟨a, vs, rfl, .inl ⟨SqL.of h1, fun p hp => q _ _ (Ext.new hp) (Rp.newT hL hp r1)⟩⟩
  · cases hd with | cons hd hr => cases hr; cases hd with | tup h1 r1 => cases hg; exact call_tuple_of pins s σ H _ us Q I rs ⟨_, _, rfl, .inr ⟨by rw [hK]; exact ext_sqT hid_ext h1, q _ _ (Ext.refl _) (.tup h1 r1)⟩⟩
  · cases hg
/-- all of them truths, ints -/
def bls? : List D → Option (List Bool)
  | [] => some []
  | .bl b :: ds => (bls? ds).map (b :: ·)
  | _ => none
theorem bls_map : ∀ {ds : List D} {bs : List Bool}, bls? ds = some bs → ds = bs.map D.bl
  | [], bs, h => by cases h; rfl
  | d :: ds, bs, h => by
    unfold bls? at h
    split at h
    · rename_i hh; cases hh
    · rename_i b ds' e
      cases e
      cases q : bls? ds with
      | none => rw [q] at h; cases h
      | some cs => rw [q] at h; cases h; rw [bls_map q]; rfl
    · cases h
@[simp] theorem bls_of (bs : List Bool) : bls? (bs.map D.bl) = some bs := by
  induction bs with
  | nil => rfl
  | cons b bs ih => rw [List.map_cons, bls?, ih]; rfl
def ints? : List D → Option (List Int)
  | [] => some []
  | .int b :: ds => (ints? ds).map (b :: ·)
  | _ => none
theorem ints_map : ∀ {ds : List D} {bs : List Int}, ints? ds = some bs → ds = bs.map D.int
  | [], bs, h => by cases h; rfl
  | d :: ds, bs, h => by
    unfold ints? at h
    split at h
    · rename_i hh; cases hh
    · rename_i b ds' e
      cases e
      cases q : ints? ds with
      | none => rw [q] at h; cases h
      | some cs => rw [q] at h; cases h; rw [ints_map q]; rfl
    · cases h
@[simp] theorem ints_of (bs : List Int) : ints? (bs.map D.int) = some bs := by
  induction bs with
  | nil => rfl
  | cons b bs ih => rw [List.map_cons, ints?, ih]; rfl
def allD : List D → Option D
  | [.lst xs] => (bls? xs).map fun bs => .bl (bs.all id)
  | _ => none
def anyD : List D → Option D
  | [.lst xs] => (bls? xs).map fun bs => .bl (bs.any id)
  | _ => none
theorem cg_all (hc : X.calm = true) : CallR X (.builtin "all") (rC z allD) := by
  rintro pins s σ H xs us Q I rs ⟨L, ds, u, hL, hd, hg, q⟩
  unfold allD at hg
  split at hg
  · rename_i xs'
    cases hb : bls? xs' with
    | none => rw [hb] at hg; cases hg
    | some bs =>
      rw [hb] at hg; cases hg
      have e := bls_map hb
      subst e
      cases hd with | cons hd hr => cases hr; obtain ⟨a, vs, rfl, h1, r1⟩ := hd; have e := r1.bl_of; subst e
                                    exact cr_all hc pins s σ H _ us Q I rs ⟨a, bs, rfl, SqL.of h1, q _ _ (Ext.refl _) (.bl _)⟩
  · cases hg
theorem cg_any (hc : X.calm = true) : CallR X (.builtin "any") (rC z anyD) := by
  rintro pins s σ H xs us Q I rs ⟨L, ds, u, hL, hd, hg, q⟩
  unfold anyD at hg
  split at hg
  · rename_i xs'
    cases hb : bls? xs' with
    | none => rw [hb] at hg; cases hg
    | some bs =>
      rw [hb] at hg; cases hg
      have e := bls_map hb
      subst e
      cases hd with | cons hd hr => cases hr; obtain ⟨a, vs, rfl, h1, r1⟩ := hd; have e := r1.bl_of; subst e
                                    exact cr_any hc pins s σ H _ us Q I rs ⟨a, bs, rfl, SqL.of h1, q _ _ (Ext.refl _) (.bl _)⟩
  · cases hg
end

/-! ### isinstance -/
inductive Ty where
  | non | bool | int | str | tuple | list
  deriving DecidableEq
def Ty.nm : Ty → String
  | .non => "NoneType" | .bool => "bool" | .int => "int" | .str => "str" | .tuple => "tuple" | .list => "list"
/-- a subclass -/
def Ty.sub : Ty → Ty → Bool
  | .non, .non => true | .bool, .bool => true | .bool, .int => true | .int, .int => true | .str, .str => true | .tuple, .tuple => true | .list, .list => true
  | _, _ => false
def D.ty : D → Option Ty
  | .non => some .non | .bl _ => some .bool | .int _ => some .int | .str _ => some .str | .tup _ => some .tuple | .lst _ => some .list
  | _ => none
theorem kit_sub (t u : Ty) : kitB t.nm u.nm = some (t.sub u) := by cases t <;> cases u <;> decide +kernel
theorem Rq.tyx {z : Z} {L : List Addr} {H : Hp} {x : V} {d : D} {t : Ty} (h : Rq z L H x d) (e : d.ty = some t) : TyX z.K H x (.type t.nm) := by
  cases d with
  | lst ds =>
    obtain ⟨a, vs, rfl, h1, _⟩ := h
    cases e
    exact .base (.lst h1)
  | non => cases h; cases e; exact .base .non
  | bl b => cases h; cases e; exact .base (.bl b)
  | int i => cases h; cases e; exact .base (.int i)
  | str i => cases h; cases e; exact .base (.str i)
  | tup xs =>
    cases h with | tup h1 r1 =>
    cases e
    rcases ext_sqT hid_ext h1 with (h1 | ⟨o, h1⟩) | ⟨o, its, n, h1, h2, _⟩
    · exact .base (.tup h1)
    · exact .fTuple h1
    · exact .kTuple h1 h2
  | ins c gs => cases e
  | fn n => cases e
  | scr ns => cases e
  | dct kvs => cases e
def isiD (Ts : List Ty) : List D → Option D
  | [d] => d.ty.map fun t => .bl (Ts.any fun u => t.sub u)
  | _ => none
theorem kitAny_of {K : PySem.W.Frag} (t : Ty) : ∀ Ts : List Ty, PySem.W.kitAny K (.type t.nm) (Ts.map fun u => .type u.nm) = some (Ts.any fun u => t.sub u)
  | [] => rfl
  | u :: us => by
    rw [List.map_cons, PySem.W.kitAny, kit_ty (kit_sub t u), List.any_cons]
    cases t.sub u with
    | true => rfl
    | false => exact kitAny_of t us
theorem boot_ty (T : Ty) (h : T ≠ .non) : bootBuiltins T.nm = some (.type T.nm) := by
  cases T with
  | non => exact absurd rfl h
  | bool => exact PyProof.Rows.boot_bool
  | int => exact PyProof.Rows.boot_int
  | str => exact PyProof.Rows.boot_str
  | tuple => exact PyProof.Rows.boot_tuple
  | list => exact PyProof.Rows.boot_list
section
variable {X : Cx} {z : Z} {W : XK} {e : Expr} {s : Sem} {pos : Pos}
theorem c_isi (T : Ty) {x : Str} {p p2 : Pos} (hK : X.K = z.K) (hm : X.mg "isinstance" = none) (hT : X.mg T.nm = none) (ha : CE z W X e s) (hx : x = Str.ofString T.nm := by rfl) (hT0 : T ≠ .non := by decide) (hg : Gl X "isinstance" := by rfl) (hgT : Gl X x := by rfl) (hn : x ≠ "__name__" := by decide) (hdb : (x == ("__debug__" : Str)) = false := by decide)
    (he : starEach [e, .Name x p2] X.env = (false, eval e X.env) :: starEach [.Name x p2] X.env := by rfl) (hpl : (backTo pos (starEach [.Name x p2] X.env)).any (·.1) = false := by rfl) (hs2 : starEach [.Name x p2] X.env = (false, eval (.Name x p2) X.env) :: starEach [] X.env := by rfl) :
    CE z W X (.Call (.Name "isinstance" p) [e, .Name x p2] [] pos) (sBif (isiD [T]) (aCons s aNil)) := by
  subst hx
  refine pe_mono (pe_callB call_isi hg hm PyProof.Rows.boot_isinstance (pa_cons ha (pa_cons (pe_bltn (v := .ty T.nm) hgT hT (boot_ty T hT0) rfl hn hdb) pa_nil hs2) he) (by decide) (by decide) he hpl) fun σ H Q ⟨η, ι, ρ, m, ok, h⟩ => ?_
  refine ⟨η, ι, ρ, m, ok, Post.mono (fun ι1 m1 H1 v st1 k1 h1 x rx => ?_) (Post.bind (Post.bind h))⟩
  have h1 := h1 H1 ι1 Stp.refl k1
  dsimp only at h1
  split at h1
  · rename_i ds ed
    cases q : isiD [T] ds with
    | none => rw [q] at h1; exact h1.elim
    | some w =>
      rw [q] at h1
      have hq := rqs_of k1 (.cons rx .nil) ed
      cases hq with | cons hq hr =>
      cases hr
      rename_i d
      unfold isiD at q
      dsimp only at q
      cases qt : d.ty with
      | none => rw [qt] at q; cases q
      | some t =>
        rw [qt] at q; cases q
        refine ⟨_, _, _, _, t.sub T, rfl, .ty _, by rw [hK]; exact hq.tyx qt, kit_ty (kit_sub t T), ?_⟩
        have := h1 H1 ι1 Stp.refl k1 (.bl ([T].any fun u => t.sub u)) (Rp.bl _)
        simpa using this
  · exact h1.elim
theorem c_isi2 (T T' : Ty) {x x' : Str} {p p2 p3 p4 : Pos} {k : Nat} (hK : X.K = z.K) (hm : X.mg "isinstance" = none) (hT : X.mg T.nm = none) (hT' : X.mg T'.nm = none) (ha : CE z W X e s) (hx : x = Str.ofString T.nm := by rfl) (hx' : x' = Str.ofString T'.nm := by rfl) (hT0 : T ≠ .non := by decide) (hT0' : T' ≠ .non := by decide) (hg : Gl X "isinstance" := by rfl)
    (hgT : Gl X x := by rfl) (hgT' : Gl X x' := by rfl) (hn : x ≠ "__name__" := by decide) (hdb : (x == ("__debug__" : Str)) = false := by decide) (hn' : x' ≠ "__name__" := by decide) (hdb' : (x' == ("__debug__" : Str)) = false := by decide)
    (he : starEach [e, .Tuple [.Name x p2, .Name x' p3] k p4] X.env = (false, eval e X.env) :: starEach [.Tuple [.Name x p2, .Name x' p3] k p4] X.env := by rfl) (hpl : (backTo pos (starEach [.Tuple [.Name x p2, .Name x' p3] k p4] X.env)).any (·.1) = false := by rfl)
    (hs2 : starEach [.Tuple [.Name x p2, .Name x' p3] k p4] X.env = (false, eval (.Tuple [.Name x p2, .Name x' p3] k p4) X.env) :: starEach [] X.env := by rfl)
    (hs3 : starEach [.Name x p2, .Name x' p3] X.env = (false, eval (.Name x p2) X.env) :: starEach [.Name x' p3] X.env := by rfl) (hs4 : starEach [.Name x' p3] X.env = (false, eval (.Name x' p3) X.env) :: starEach [] X.env := by rfl) :
    CE z W X (.Call (.Name "isinstance" p) [e, .Tuple [.Name x p2, .Name x' p3] k p4] [] pos) (sBif (isiD [T, T']) (aCons s aNil)) := by
  subst hx hx'
  refine pe_mono (pe_callB call_isiT hg hm PyProof.Rows.boot_isinstance (pa_cons ha (pa_cons (pe_tup (pa_cons (pe_bltn (v := .ty T.nm) hgT hT (boot_ty T hT0) rfl hn hdb) (pa_cons (pe_bltn (v := .ty T'.nm) hgT' hT' (boot_ty T' hT0') rfl hn' hdb') pa_nil hs4) hs3)) pa_nil hs2) he) (by decide) (by decide) he hpl) fun σ H Q ⟨η, ι, ρ, m, ok, h⟩ => ?_
  refine ⟨η, ι, ρ, m, ok, Post.mono (fun ι1 m1 H1 v st1 k1 h1 x rx => ?_) (Post.bind (Post.bind h))⟩
  have h1 := h1 H1 ι1 Stp.refl k1
  dsimp only at h1
  refine ⟨by show 2 ≤ sizeLine; decide, fun tp htp => ?_⟩
  split at h1
  · rename_i ds ed
    cases q : isiD [T, T'] ds with
    | none => rw [q] at h1; exact h1.elim
    | some w =>
      rw [q] at h1
      obtain ⟨st2, k2⟩ := Stp.grow k1 (Ext.new (o := .tup [.ty T.nm, .ty T'.nm]) htp)
      have hq := rqs_of k2 (.cons (rx.step st2) .nil) ed
      cases hq with | cons hq hr =>
      cases hr
      rename_i d
      unfold isiD at q
      dsimp only at q
      cases qt : d.ty with
      | none => rw [qt] at q; cases q
      | some t =>
        rw [qt] at q; cases q
        refine ⟨_, tp, [.ty T.nm, .ty T'.nm], _, [.type T.nm, .type T'.nm], _, rfl, upd_same, .cons (.ty _) (.cons (.ty _) .nil), by rw [hK]; exact hq.tyx qt, kitAny_of t [T, T'], ?_⟩
        exact h1 _ ι1 st2 k2 _ (Rp.bl _)
  · exact h1.elim
end
end DL
/-! DLe: new and changed objects; what is walked; comprehensions. -/
namespace DL
open PySem PySem.Spec PyProof.Rows L2

/-! ### memory: a new object, a changed one -/
theorem liv_append : ∀ {ι : List Addr} {m : Mem} {a : Addr} {o : O}, ι.length = m.length → o.live = true → liv (ι ++ [a]) (m ++ [o]) = liv ι m ++ [a]
  | [], [], a, o, _, h => by simp [liv, h]
  | [], _ :: _, _, _, h, _ => by simp at h
  | _ :: _, [], _, _, h, _ => by simp at h
  | b :: ι, u :: m, a, o, hl, h => by
    have ih := liv_append (ι := ι) (m := m) (a := a) (o := o) (by simpa using hl) h
    rw [List.cons_append, List.cons_append]
    unfold liv
    rw [ih]
    split <;> simp
theorem liv_set : ∀ {ι : List Addr} {m : Mem} {l : Nat} {o u : O}, m[l]? = some o → o.live = u.live → liv ι (m.set l u) = liv ι m
  | [], _, _, _, _, _, _ => by simp [liv]
  | _ :: _, [], _, _, _, h, _ => by simp at h
  | b :: ι, x :: m, 0, o, u, h, e => by
    simp at h; subst h
    rw [List.set_cons_zero]
    unfold liv
    rw [e]
  | b :: ι, x :: m, l + 1, o, u, h, e => by
    rw [List.set_cons_succ]
    unfold liv
    rw [liv_set (ι := ι) (m := m) (l := l) (by simpa using h) e]
section
variable {z : Z} {η ι : List Addr} {m : Mem} {H : Hp}
theorem MOk.alloc {p : Addr} {ho : HO} {o : O} (k : MOk z η ι m H) (hp : H p = none) (hl : o.live = true) (ho' : OOk z (hid (η ++ liv ι m) H) (upd H p ho) p o) :
    Stp ι m H (ι ++ [p]) (m ++ [o]) (upd H p ho) ∧ MOk z η (ι ++ [p]) (m ++ [o]) (upd H p ho) := by
  have npι : p ∉ ι := fun h => by obtain ⟨u, e⟩ := k.ex p (.inr h); rw [hp] at e; cases e
  have npη : p ∉ η := fun h => by obtain ⟨u, e⟩ := k.ex p (.inl h); rw [hp] at e; cases e
  have hlv : liv (ι ++ [p]) (m ++ [o]) = liv ι m ++ [p] := liv_append k.len hl
  have ex : Ext (hid (η ++ liv ι m) H) (hid (η ++ liv (ι ++ [p]) (m ++ [o])) (upd H p ho)) := fun b u e => by
    obtain ⟨n, e⟩ := hid_some.mp e
    have nb : b ≠ p := fun q => by rw [q, hp] at e; cases e
    refine hid_some.mpr ⟨fun q => ?_, by rw [upd_ne nb]; exact e⟩
    rw [hlv, ← List.append_assoc] at q
    rcases List.mem_append.mp q with q | q
    · exact n q
    · exact nb (by simpa using q)
  refine ⟨⟨⟨[p], rfl⟩, fun b u n e => ?_⟩, ?_, ?_, ?_, ?_, ?_⟩
  · have nb : b ≠ p := fun q => by rw [q, hp] at e; cases e
    refine ⟨by rw [upd_ne nb]; exact e, ?_⟩
    rw [hlv]
    intro q
    rcases List.mem_append.mp q with q | q
    · exact n q
    · exact nb (by simpa using q)
  · rw [List.length_append, List.length_append, k.len]; rfl
  · rw [List.nodup_append]
    refine ⟨k.nd, by simp, fun a h b hb => ?_⟩
    have : b = p := by simpa using hb
    rw [this]; exact fun q => npι (q ▸ h)
  · intro a h
    rcases List.mem_append.mp h with h | h
    · exact k.dj a h
    · have : a = p := by simpa using h
      rw [this]; exact npη
  · intro a h
    by_cases q : a = p
    · subst q; exact ⟨_, upd_same⟩
    · rw [upd_ne q]
      rcases h with h | h
      · exact k.ex a (.inl h)
      · rcases List.mem_append.mp h with h | h
        · exact k.ex a (.inr h)
        · exact absurd (by simpa using h) q
  · intro l o' a h1 h2
    by_cases hlt : l < m.length
    · rw [List.getElem?_append_left hlt] at h1
      rw [List.getElem?_append_left (by rw [k.len]; exact hlt)] at h2
      have na : a ≠ p := fun q => npι (q ▸ List.mem_of_getElem? h2)
      have q := k.obj l o' a h1 h2
      cases o' with
      | lst xs => obtain ⟨vs, e1, e2⟩ := q; exact ⟨vs, by rw [upd_ne na]; exact e1, e2.ext ex⟩
      | ins c gs => obtain ⟨dx, fs, e1, e2⟩ := q; exact ⟨dx, fs, by rw [upd_ne na]; exact e1, e2.ext ex⟩
      | dead => trivial
      | dct kvs => obtain ⟨xs, ep, e1, e2⟩ := q; exact ⟨xs, ep, by rw [upd_ne na]; exact e1, e2.ext ex⟩
      | tab n y => exact ⟨q.1, tab_stay q.2 (upd_ne na) fun c e => by rw [upd_ne (fun z => by rw [z, hp] at e; cases e)]; exact e⟩
    · have hge : m.length ≤ l := Nat.le_of_not_lt hlt
      rw [List.getElem?_append_right hge] at h1
      rw [List.getElem?_append_right (by rw [k.len]; exact hge)] at h2
      have hl0 : l - m.length = 0 := by
        cases q : l - m.length with
        | zero => rfl
        | succ n => rw [q] at h1; simp at h1
      rw [hl0] at h1
      rw [k.len, hl0] at h2
      simp only [List.getElem?_cons_zero, Option.some.injEq] at h1 h2
      subst h1 h2
      cases o with
      | lst xs => obtain ⟨vs, e1, e2⟩ := ho'; exact ⟨vs, e1, e2.ext ex⟩
      | ins c gs => obtain ⟨dx, fs, e1, e2⟩ := ho'; exact ⟨dx, fs, e1, e2.ext ex⟩
      | dead => trivial
      | dct kvs => obtain ⟨xs, ep, e1, e2⟩ := ho'; exact ⟨xs, ep, e1, e2.ext ex⟩
      | tab n y => exact ho'
theorem MOk.write {l : Nat} {p : Addr} {ho : HO} {o u : O} (k : MOk z η ι m H) (h1 : m[l]? = some o) (h2 : ι[l]? = some p) (ho1 : o.live = true) (hu : u.live = true) (ok : OOk z (hid (η ++ liv ι m) H) (upd H p ho) p u) :
    Stp ι m H ι (m.set l u) (upd H p ho) ∧ MOk z η ι (m.set l u) (upd H p ho) := by
  have hlv : liv ι (m.set l u) = liv ι m := liv_set h1 (by rw [ho1, hu])
  have hpl : p ∈ liv ι m := liv_mem h2 h1 ho1
  have ex : Ext (hid (η ++ liv ι m) H) (hid (η ++ liv ι (m.set l u)) (upd H p ho)) := fun b v e => by
    obtain ⟨n, e⟩ := hid_some.mp e
    have nb : b ≠ p := fun q => n (List.mem_append_right _ (q ▸ hpl))
    exact hid_some.mpr ⟨by rw [hlv]; exact n, by rw [upd_ne nb]; exact e⟩
  refine ⟨⟨⟨[], by simp⟩, fun b v n e => ?_⟩, by rw [List.length_set]; exact k.len, k.nd, k.dj, fun a h => ?_, fun l' o' a e1 e2 => ?_⟩
  · have nb : b ≠ p := fun q => n (q ▸ hpl)
    exact ⟨by rw [upd_ne nb]; exact e, by rw [hlv]; exact n⟩
  · by_cases q : a = p
    · subst q; exact ⟨_, upd_same⟩
    · rw [upd_ne q]; exact k.ex a h
  · by_cases hll : l' = l
    · subst hll
      have hlt : l' < m.length := (List.getElem?_eq_some_iff.mp h1).1
      rw [List.getElem?_set_self hlt] at e1
      cases e1
      rw [h2] at e2
      cases e2
      cases u with
      | lst xs => obtain ⟨vs, e3, e4⟩ := ok; exact ⟨vs, e3, e4.ext ex⟩
      | ins c gs => obtain ⟨dx, fs, e3, e4⟩ := ok; exact ⟨dx, fs, e3, e4.ext ex⟩
      | dead => trivial
      | dct kvs => obtain ⟨xs, ep, e3, e4⟩ := ok; exact ⟨xs, ep, e3, e4.ext ex⟩
      | tab n y => exact ok
    · rw [List.getElem?_set_ne (Ne.symm hll)] at e1
      have na : a ≠ p := fun q => hll (by
        subst q
        obtain ⟨q1, q2⟩ := List.getElem?_eq_some_iff.mp e2
        obtain ⟨q3, q4⟩ := List.getElem?_eq_some_iff.mp h2
        exact (List.getElem_inj k.nd).mp (q2.trans q4.symm))
      have q := k.obj l' o' a e1 e2
      cases o' with
      | lst xs => obtain ⟨vs, e3, e4⟩ := q; exact ⟨vs, by rw [upd_ne na]; exact e3, e4.ext ex⟩
      | ins c gs => obtain ⟨dx, fs, e3, e4⟩ := q; exact ⟨dx, fs, by rw [upd_ne na]; exact e3, e4.ext ex⟩
      | dead => trivial
      | dct kvs => obtain ⟨xs, ep, e3, e4⟩ := q; exact ⟨xs, ep, by rw [upd_ne na]; exact e3, e4.ext ex⟩
      | tab n y => exact ⟨q.1, tab_stay q.2 (upd_ne na) fun c e => by rw [upd_ne (live_ne (k.obj l o p h1 h2) ho1 e)]; exact e⟩
end

/-! ### new lists that are the def's own -/
section
variable {X : Cx} {z : Z} {W : XK} {a b c e : Expr} {es : List Expr} {sa sb sc s : Sem} {r : SemA} {pos : Pos}
/-- xs as a new object -/
def R.own (xs : List D) (m : Mem) : R Vl := .ok (.p m.length) (m ++ [.lst xs])
theorem own_ok {η ι : List Addr} {m : Mem} {H : Hp} {p : Addr} {vs : List V} {ds : List D} {Q : VK} (k : MOk z η ι m H) (hp : H p = none) (rp : RpL z (hid (η ++ liv ι m) H) vs ds)
    (h : Post z W η ι m H (fun ι' m' H' v => ∀ x, RV z ι' (hid (η ++ liv ι' m') H') x v → Q x H') (R.own ds m)) : Q (.ref p) (upd H p (.lst vs)) := by
  obtain ⟨st, k2⟩ := k.alloc (ho := .lst vs) (o := .lst ds) hp rfl ⟨vs, upd_same, rp⟩
  exact h _ _ st k2 (.ref p) ⟨p, by rw [← k.len, List.getElem?_append_right (Nat.le_refl _)]; simp, rfl⟩
def sLstO (r : SemA) : Sem := fun ρ m => (r ρ m).bind fun vs m1 => match dats vs with
  | some ds => if ds.length ≤ sizeLine then R.own ds m1 else .no
  | none => .no
theorem c_lstO (h : CA z W X es r) : CE z W X (.List es pos) (sLstO r) :=
  pe_mono (pe_lst h) fun σ H Q ⟨η, ι, ρ, m, ok, h⟩ => by
    refine ⟨η, ι, ρ, m, ok, Post.mono (fun ι1 m1 H1 vs st1 k1 h1 xs rxs => ?_) (Post.bind h)⟩
    split at h1
    · rename_i ds q
      split at h1
      · rename_i hl
        have rp := dats_rp rxs q
        exact ⟨by rw [rp.length]; exact hl, fun p hp => own_ok k1 hp rp h1⟩
      · exact h1.elim
    · exact h1.elim
/-- list(e) -/
def sListO (s : Sem) : Sem := fun ρ m => (s ρ m).bind fun v m1 => match drf m1 v with
  | some (.lst xs) => R.own xs m1
  | some (.tup xs) => R.own xs m1
  | _ => .no
theorem c_listO {p : Pos} (hK : X.K = z.K) (hm : X.mg "list" = none) (ha : CE z W X e s) (hg : Gl X "list" := by rfl)
    (he : starEach [e] X.env = (false, eval e X.env) :: starEach [] X.env := by rfl) (hpl : (backTo pos (starEach [] X.env)).any (·.1) = false := by rfl) : CE z W X (.Call (.Name "list" p) [e] [] pos) (sListO s) :=
  pe_mono (pe_callTy call_list_of hg hm PyProof.Rows.boot_list (pa_cons ha pa_nil he) (by decide) (by decide) he hpl) fun σ H Q ⟨η, ι, ρ, m, ok, h⟩ => by
    refine ⟨η, ι, ρ, m, ok, Post.mono (fun ι1 m1 H1 v st1 k1 h1 x rx => ?_) (Post.bind h)⟩
    split at h1
    · rename_i xs q
      obtain ⟨a, vs, rfl, h2, r2⟩ := rq_of k1 rx q
      exact ⟨a, vs, rfl, .inl (SqL.of h2), fun p hp => own_ok k1 hp r2 h1⟩
    · rename_i xs q
      cases rq_of k1 rx q with | tup h2 r2 =>
      exact ⟨_, _, rfl, .inr (by rw [hK]; exact ext_sqT hid_ext h2), fun p hp => own_ok k1 hp r2 h1⟩
    · exact h1.elim
/-- a + b, lists -/
def sCatO (sa sb : Sem) : Sem := fun ρ m => (sa ρ m).bind fun v m1 => (sb ρ m1).bind fun w m2 => match drf m2 v, drf m2 w with
  | some (.lst xs), some (.lst ys) => if xs.length + ys.length ≤ sizeLine then R.own (xs ++ ys) m2 else .no
  | _, _ => .no
theorem c_catO (ha : CE z W X a sa) (hb : CE z W X b sb) : CE z W X (.BinOp a .Add b pos) (sCatO sa sb) :=
  pe_mono (pe_op op_cat ha hb) fun σ H Q ⟨η, ι, ρ, m, ok, h⟩ => by
    refine ⟨η, ι, ρ, m, ok, Post.mono (fun ι1 m1 H1 v st1 k1 h1 x rx => ?_) (Post.bind h)⟩
    refine ⟨η, ι1, ρ, m1, ok.step st1 k1, Post.mono (fun ι2 m2 H2 w st2 k2 h2 y ry => ?_) (Post.bind h1)⟩
    split at h2
    · rename_i xs ys q1 q2
      split at h2
      · rename_i hz
        obtain ⟨a, vs, rfl, e1, r1⟩ := rq_of k2 (rx.step st2) q1
        obtain ⟨b, ws, rfl, e2, r2⟩ := rq_of k2 ry q2
        exact ⟨a, b, vs, ws, rfl, rfl, e1, e2, by rw [r1.length, r2.length]; exact hz, fun p hp => own_ok k2 hp (r1.append r2) h2⟩
      · exact h2.elim
    · exact h2.elim
end

/-! ### what is walked -/
/-- J yields the items xs, as long as what is seen at the start is seen -/
structure Wk (z : Z) (L : List Addr) (H : Hp) (J : It) (xs : List D) : Prop where
  go : ∀ L' H' i, Ext (hid L H) (hid L' H') → i < xs.length → J.go i H'
  stop : ∀ L' H', Ext (hid L H) (hid L' H') → J.stop xs.length H'
  yl : ∀ L' H' i x H'' d, Ext (hid L H) (hid L' H') → (∀ a ∈ L', ∃ o, H' a = some o) → J.yld i H' x H'' → xs[i]? = some d → Ext H' H'' ∧ Rp z (hid L' H'') x d
abbrev SemI := Env → Mem → R (List D)
def tI (z : Z) (W : XK) (s : SemI) : TI := fun σ H R => ∃ η ι ρ m, SOk z η ι m ρ σ H ∧ Post z W η ι m H (fun ι' m' H' xs => ∀ J, Wk z (η ++ liv ι' m') H' J xs → R J H') (s ρ m)
abbrev CI (z : Z) (W : XK) (X : Cx) (tg e : Expr) (s : SemI) : Prop := PI X tg e (tI z W s)
theorem pi_mono {X : Cx} {tg e : Expr} {t t' : TI} (h : PI X tg e t) (k : ∀ σ H R, t' σ H R → t σ H R) : PI X tg e t' := ⟨fun pins s σ H R I q => h.run pins s σ H R I (k _ _ _ q)⟩
theorem pi_or {X : Cx} {tg e : Expr} {t t' : TI} (h : PI X tg e t) (h' : PI X tg e t') : PI X tg e (fun σ H R => t σ H R ∨ t' σ H R) := ⟨fun pins s σ H R I q => q.elim (h.run pins s σ H R I) (h'.run pins s σ H R I)⟩
section
variable {X : Cx} {z : Z} {W : XK} {a b c e tg : Expr} {es : List Expr} {sa sb sc s : Sem} {r : SemA} {pos : Pos}
theorem wk_list {L : List Addr} {H : Hp} {a : Addr} {vs : List V} {ds : List D} (h : hid L H a = some (.lst vs)) (r : RpL z (hid L H) vs ds) : Wk z L H (Itl z.K a) ds where
  go := fun L' H' i e hi => by
    have q := hid_ext _ _ (e _ _ h)
    refine ⟨vs, vs[i]'(by rw [r.length]; exact hi), SqL.of q, by simp⟩
  stop := fun L' H' e => ⟨vs, SqL.of (hid_ext _ _ (e _ _ h)), by rw [r.length]; exact Nat.le_refl _⟩
  yl := fun L' H' i x H'' d e _ y hd => by
    obtain ⟨e1, y⟩ := y
    subst e1
    have q := y vs (SqL.of (hid_ext _ _ (e _ _ h)))
    obtain ⟨d', h1, h2⟩ := r.get q
    rw [hd] at h1; cases h1
    exact ⟨Ext.refl _, h2.ext e⟩
theorem wk_tup {L : List Addr} {H : Hp} {a : Addr} {vs : List V} {ds : List D} (h : SqT z.K (hid L H) a vs) (r : RpL z (hid L H) vs ds) : Wk z L H (Itt z.K a) ds where
  go := fun L' H' i e hi => by
    refine ⟨vs, vs[i]'(by rw [r.length]; exact hi), ext_sqT hid_ext (ext_sqT e h), by simp⟩
  stop := fun L' H' e => ⟨vs, ext_sqT hid_ext (ext_sqT e h), by rw [r.length]; exact Nat.le_refl _⟩
  yl := fun L' H' i x H'' d e _ y hd => by
    obtain ⟨e1, y⟩ := y
    subst e1
    have q := y vs (ext_sqT hid_ext (ext_sqT e h))
    obtain ⟨d', h1, h2⟩ := r.get q
    rw [hd] at h1; cases h1
    exact ⟨Ext.refl _, h2.ext e⟩
def sIter (s : Sem) : SemI := fun ρ m => (s ρ m).bind fun v m1 => match v with
  | .d (.lst xs) => .ok xs m1
  | .d (.tup xs) => .ok xs m1
  | _ => .no
theorem ci_seq (hK : X.K = z.K) (h : CE z W X e s) : CI z W X tg e (sIter s) :=
  pi_mono (pi_or (pi_list h) (pi_tup h)) fun σ H R' ⟨η, ι, ρ, m, ok, h⟩ => by
    unfold sIter at h
    cases q : s ρ m with
    | no => rw [q] at h; exact h.elim
    | er ex m1 =>
      refine .inl ⟨η, ι, ρ, m, ok, ?_⟩
      rw [q] at h ⊢
      exact h
    | ok v m1 =>
      rw [q] at h
      rw [R.bind_ok] at h
      split at h
      · rename_i xs
        refine .inl ⟨η, ι, ρ, m, ok, ?_⟩
        rw [q]
        intro H1 ι1 st1 k1 x rx
        cases rx with | lst h2 r2 =>
        exact ⟨_, rfl, ⟨_, SqL.of (hid_ext _ _ h2)⟩, by rw [hK]; exact h H1 ι1 st1 k1 _ (wk_list h2 r2)⟩
      · rename_i xs
        refine .inr ⟨η, ι, ρ, m, ok, ?_⟩
        rw [q]
        intro H1 ι1 st1 k1 x rx
        cases rx with | tup h2 r2 =>
        exact ⟨_, rfl, ⟨_, by rw [hK]; exact ext_sqT hid_ext h2⟩, by rw [hK]; exact h H1 ι1 st1 k1 _ (wk_tup h2 r2)⟩
      · exact h.elim
/-- lo, lo + 1, .., n of them -/
def rngD (lo : Int) (n : Nat) : List D := (List.range n).map fun i => D.int (lo + (i : Nat))
theorem rngD_length (lo : Int) (n : Nat) : (rngD lo n).length = n := by simp [rngD]
theorem rngD_get {lo : Int} {n i : Nat} {d : D} (h : (rngD lo n)[i]? = some d) : i < n ∧ d = .int (lo + (i : Nat)) := by
  unfold rngD at h
  rw [List.getElem?_map] at h
  obtain ⟨j, h1, rfl⟩ := Option.map_eq_some_iff.mp h
  obtain ⟨h2, h3⟩ := List.getElem?_eq_some_iff.mp h1
  rw [List.length_range] at h2
  rw [List.getElem_range] at h3
  exact ⟨h2, by rw [h3]⟩
theorem wk_rng {L : List Addr} {H : Hp} {lo : Int} {n : Nat} : Wk z L H (Itr lo n) (rngD lo n) where
  go := fun L' H' i e hi => by rw [rngD_length] at hi; exact hi
  stop := fun L' H' e => by rw [rngD_length]; exact Nat.le_refl _
  yl := fun L' H' i x H'' d e _ y hd => by
    obtain ⟨e1, y⟩ := y
    subst e1 y
    obtain ⟨_, rfl⟩ := rngD_get hd
    exact ⟨Ext.refl _, .int _⟩
def sRng1 (s : Sem) : SemI := fun ρ m => (s ρ m).bind fun v m1 => match v with
  | .d (.int j) => if -(2 ^ 62) ≤ j ∧ j < 2 ^ 62 then .ok (rngD 0 j.toNat) m1 else .no
  | _ => .no
def sRng2 (sa sb : Sem) : SemI := fun ρ m => (sa ρ m).bind fun v m1 => (sb ρ m1).bind fun w m2 => match v, w with
  | .d (.int i), .d (.int j) => if -(2 ^ 62) ≤ i ∧ i < 2 ^ 62 ∧ -(2 ^ 62) ≤ j ∧ j < 2 ^ 62 then .ok (rngD i (j - i).toNat) m2 else .no
  | _, _ => .no
theorem ci_rng1 {p : Pos} (hm : X.mg "range" = none) (ha : CE z W X a sa) (hg : Gl X "range" := by rfl) (hs : starEach [a] X.env = [(false, eval a X.env)] := by rfl) (hs' : starEach [a] X.env = (false, eval a X.env) :: starEach [] X.env := by rfl) : CI z W X tg (.Call (.Name "range" p) [a] [] pos) (sRng1 sa) :=
  pi_mono (pi_range1 hg hm (pa_cons ha pa_nil hs') hs) fun σ H R ⟨η, ι, ρ, m, ok, h⟩ => by
    refine ⟨η, ι, ρ, m, ok, Post.mono (fun ι1 m1 H1 v st1 k1 h1 x rx => ?_) (Post.bind h)⟩
    split at h1
    · split at h1
      · rename_i j hz
        cases rx
        exact ⟨j, rfl, hz.1, hz.2, h1 H1 ι1 Stp.refl k1 _ wk_rng⟩
      · exact h1.elim
    · exact h1.elim
theorem ci_rng2 {p : Pos} (hm : X.mg "range" = none) (ha : CE z W X a sa) (hb : CE z W X b sb) (hg : Gl X "range" := by rfl) (hs : starEach [a, b] X.env = [(false, eval a X.env), (false, eval b X.env)] := by rfl) (hs2 : starEach [b] X.env = [(false, eval b X.env)] := by rfl)
    (hs' : starEach [a, b] X.env = (false, eval a X.env) :: starEach [b] X.env := by rfl) (hs2' : starEach [b] X.env = (false, eval b X.env) :: starEach [] X.env := by rfl) : CI z W X tg (.Call (.Name "range" p) [a, b] [] pos) (sRng2 sa sb) :=
  pi_mono (pi_range2 hg hm (pa_cons ha (pa_cons hb pa_nil hs2') hs') hs hs2) fun σ H R ⟨η, ι, ρ, m, ok, h⟩ => by
    refine ⟨η, ι, ρ, m, ok, Post.mono (fun ι1 m1 H1 v st1 k1 h1 x rx => ?_) (Post.bind h)⟩
    refine ⟨η, ι1, ρ, m1, ok.step st1 k1, Post.mono (fun ι2 m2 H2 w st2 k2 h2 y ry => ?_) (Post.bind h1)⟩
    split at h2
    · split at h2
      · rename_i i j hz
        cases rx; cases ry
        exact ⟨i, j, rfl, hz, h2 H2 ι2 Stp.refl k2 _ wk_rng⟩
      · exact h2.elim
    · exact h2.elim
end

/-! ### targets: a name, or a tuple of names -/
inductive Tg where
  | one (i : Nat) | many (is : List Nat)
def gMany : List Nat → TGs
  | [] => gNil
  | i :: is => gCons (gName i) (gMany is)
def Tg.t (K : PySem.W.Frag) : Tg → TG
  | .one i => gName i
  | .many is => gTup K is.length (gMany is)
def setAll : List Nat → List D → Env → Option Env
  | [], [], ρ => some ρ
  | i :: is, d :: ds, ρ => setAll is ds (ρ.set i (some (.d d)))
  | _, _, _ => none
def Tg.g : Tg → D → Env → Option Env
  | .one i, d, ρ => some (ρ.set i (some (.d d)))
  | .many is, .tup ds, ρ => setAll is ds ρ
  | .many _, _, _ => none
def Tg.at : Tg → List Nat
  | .one i => [i]
  | .many is => is
section
variable {z : Z} {η ι : List Addr} {m : Mem} {H : Hp} {ρ ρ' : Env} {σ : L2.St}
theorem SOk.set {i : Nat} {v : Vl} {x : V} (s : SOk z η ι m ρ σ H) (r : RV z ι (hid (η ++ liv ι m) H) x v) : SOk z η ι m (ρ.set i (some v)) (σ.set i (some x)) H := by
  refine ⟨s.mem, by rw [List.length_set, List.length_set]; exact s.len, fun j w e => ?_⟩
  by_cases h : j = i
  · subst h
    have hlt : j < ρ.length := by
      have := (List.getElem?_eq_some_iff.mp e).1
      rwa [List.length_set] at this
    rw [List.getElem?_set_self hlt] at e
    cases e
    exact ⟨x, by rw [List.getElem?_set_self (by rw [s.len]; exact hlt)], r⟩
  · rw [List.getElem?_set_ne (Ne.symm h)] at e ⊢
    exact s.slot j w e
theorem wipe_set {i : Nat} {x : Option V} : ∀ {vs : List Nat} {σ : L2.St}, i ∈ vs → wipe (σ.set i x) vs = wipe σ vs
  | [], _, h => by simp at h
  | v :: vs, σ, h => by
    unfold wipe
    by_cases hi : i ∈ vs
    · rw [wipe_set hi]
    · have e : i = v := by
        rcases List.mem_cons.mp h with h | h
        · exact h
        · exact absurd h hi
      subst e
      have hc : ∀ (ws : List Nat) (σ : L2.St), i ∉ ws → wipe (σ.set i x) ws = (wipe σ ws).set i x := by
        intro ws
        induction ws with
        | nil => intro σ _; rfl
        | cons w ws ih =>
          intro σ hw
          unfold wipe
          rw [ih σ fun q => hw (List.mem_cons_of_mem _ q), List.set_comm]
          exact fun q => hw (q ▸ List.mem_cons_self)
      rw [hc vs σ hi, List.set_set]
theorem many_ok {K : PySem.W.Frag} : ∀ {is : List Nat} {ds : List D} {vs : List V} {ρ ρ' : Env} {σ : L2.St} {Q : L2.St → Hp → Prop}, SOk z η ι m ρ σ H → RpL z (hid (η ++ liv ι m) H) vs ds → setAll is ds ρ = some ρ' →
    (∀ σ', SOk z η ι m ρ' σ' H → (∀ ws : List Nat, (∀ i ∈ is, i ∈ ws) → wipe σ' ws = wipe σ ws) → Q σ' H) → gMany is vs σ H Q
  | [], [], _, ρ, ρ', σ, Q, s, r, e, q => by
    cases r
    cases e
    exact ⟨rfl, q σ s fun _ _ => rfl⟩
  | [], _ :: _, _, _, _, _, _, _, _, e, _ => by cases e
  | _ :: _, [], _, _, _, _, _, _, _, e, _ => by cases e
  | i :: is, d :: ds, _, ρ, ρ', σ, Q, s, r, e, q => by
    cases r with | cons h r =>
    refine ⟨_, _, rfl, ?_⟩
    refine many_ok (K := K) (s.set (i := i) (v := .d d) h) r e fun σ' s' w' => q σ' s' fun ws hw => ?_
    rw [w' ws fun j hj => hw j (List.mem_cons_of_mem _ hj), wipe_set (hw i List.mem_cons_self)]
theorem setAll_len : ∀ {is : List Nat} {ds : List D} {ρ ρ' : Env}, setAll is ds ρ = some ρ' → is.length = ds.length
  | [], [], _, _, _ => rfl
  | [], _ :: _, _, _, e => by cases e
  | _ :: _, [], _, _, e => by cases e
  | _ :: is, _ :: ds, ρ, ρ', e => by
    rw [List.length_cons, List.length_cons, setAll_len (is := is) (ds := ds) e]
theorem tg_ok {T : Tg} {d : D} {v : V} {Q : L2.St → Hp → Prop} (s : SOk z η ι m ρ σ H) (r : Rp z (hid (η ++ liv ι m) H) v d) (e : T.g d ρ = some ρ')
    (q : ∀ σ', SOk z η ι m ρ' σ' H → (∀ ws : List Nat, (∀ i ∈ T.at, i ∈ ws) → wipe σ' ws = wipe σ ws) → Q σ' H) : T.t z.K v σ H Q := by
  cases T with
  | one i =>
    cases e
    exact q _ (s.set (v := .d d) r) fun ws hw => wipe_set (hw i (by simp [Tg.at]))
  | many is =>
    cases d with
    | tup ds =>
      cases r with | tup h r =>
      exact ⟨_, _, rfl, ext_sqT hid_ext h, by rw [r.length]; exact (setAll_len e).symm, many_ok (K := z.K) s r e q⟩
    | _ => cases e
end
end DL
/-! DLf: comprehensions, statements, defs. -/
namespace DL
open PySem PySem.Spec PyProof.Rows L2

/-! ### comprehensions -/
def R.noEr {α : Type} : R α → R α
  | .ok a m => .ok a m
  | _ => .no
@[simp] theorem R.noEr_ok {α : Type} (a : α) (m : Mem) : (R.ok a m).noEr = .ok a m := rfl
def W0 : XK := fun _ _ _ => False
theorem Post.noEr {z : Z} {W : XK} {η ι : List Addr} {m : Mem} {H : Hp} {α : Type} {P : List Addr → Mem → Hp → α → Prop} : ∀ {r : R α}, Post z W η ι m H P r.noEr → Post z W0 η ι m H P r
  | .ok a m', h => h
  | .er e m', h => h.elim
  | .no, h => h.elim
theorem Post.ofW0 {z : Z} {W : XK} {η ι : List Addr} {m : Mem} {H : Hp} {α : Type} {P : List Addr → Mem → Hp → α → Prop} : ∀ {r : R α}, Post z W η ι m H P r.noEr → Post z W η ι m H P r
  | .ok a m', h => h
  | .er e m', h => h.elim
  | .no, h => h.elim
def wipeE (ρ : Env) : List Nat → Env
  | [] => ρ
  | v :: vs => (wipeE ρ vs).set v none
theorem wipeE_length (ρ : Env) : ∀ vs : List Nat, (wipeE ρ vs).length = ρ.length
  | [] => rfl
  | v :: vs => by unfold wipeE; rw [List.length_set, wipeE_length ρ vs]
theorem SOk.wipe {z : Z} {η ι : List Addr} {m : Mem} {ρ : Env} {σ : L2.St} {H : Hp} (s : SOk z η ι m ρ σ H) : ∀ vs : List Nat, SOk z η ι m (wipeE ρ vs) (L2.wipe σ vs) H
  | [] => s
  | v :: vs => by
    have ih := SOk.wipe s vs
    refine ⟨s.mem, by rw [wipe_length, wipeE_length]; exact s.len, fun j w e => ?_⟩
    unfold wipeE at e
    unfold L2.wipe
    by_cases h : j = v
    · subst h
      have hlt : j < (wipeE ρ vs).length := by
        have := (List.getElem?_eq_some_iff.mp e).1
        rwa [List.length_set] at this
      rw [List.getElem?_set_self hlt] at e
      cases e
    · rw [List.getElem?_set_ne (Ne.symm h)] at e ⊢
      exact ih.slot j w e
def lcGo (T : Tg) (t : SemT) (e : Sem) (ρ : Env) : List D → List D → Mem → R (List D)
  | [], acc, m => .ok acc m
  | x :: xs, acc, m => match T.g x ρ with
    | none => .no
    | some ρ1 => (t ρ1 m).noEr.bind fun b m1 => if b then ((e ρ1 m1).noEr.bind fun v m2 => match v with
        | .d y => if acc.length < sizeLine then lcGo T t e ρ xs (acc ++ [y]) m2 else .no
        | _ => .no)
      else lcGo T t e ρ xs acc m1
/-- [elt for T in items if test] -/
def sLcs (si : SemI) (vs : List Nat) (T : Tg) (t : SemT) (e : Sem) : Env → Mem → R (List D) := fun ρ m => (si ρ m).bind fun xs m1 => lcGo T t e (wipeE ρ vs) xs [] m1
def sLc (si : SemI) (vs : List Nat) (T : Tg) (t : SemT) (e : Sem) : Sem := fun ρ m => (sLcs si vs T t e ρ m).bind fun xs m1 => .ok (.d (.lst xs)) m1
def sLcO (si : SemI) (vs : List Nat) (T : Tg) (t : SemT) (e : Sem) : Sem := fun ρ m => (sLcs si vs T t e ρ m).bind fun xs m1 => R.own xs m1
section
variable {z : Z} {W : XK}
/-- hiding one more new object -/
theorem MOk.hide {η ι : List Addr} {m : Mem} {H : Hp} {p : Addr} {ho : HO} (k : MOk z η ι m H) (hp : H p = none) : MOk z (p :: η) ι m (upd H p ho) ∧ Ext (hid (η ++ liv ι m) H) (hid ((p :: η) ++ liv ι m) (upd H p ho)) := by
  have ex : Ext (hid (η ++ liv ι m) H) (hid ((p :: η) ++ liv ι m) (upd H p ho)) := fun b u e => by
    obtain ⟨n, e⟩ := hid_some.mp e
    have nb : b ≠ p := fun q => by rw [q, hp] at e; cases e
    refine hid_some.mpr ⟨fun q => ?_, by rw [upd_ne nb]; exact e⟩
    rcases List.mem_cons.mp q with q | q
    · exact nb q
    · exact n q
  have npι : p ∉ ι := fun h => by obtain ⟨u, e⟩ := k.ex p (.inr h); rw [hp] at e; cases e
  refine ⟨⟨k.len, k.nd, fun a h q => ?_, fun a h => ?_, fun l o a h1 h2 => ?_⟩, ex⟩
  · rcases List.mem_cons.mp q with q | q
    · exact npι (q ▸ h)
    · exact k.dj a h q
  · by_cases q : a = p
    · subst q; exact ⟨_, upd_same⟩
    · rw [upd_ne q]
      rcases h with h | h
      · rcases List.mem_cons.mp h with h | h
        · exact absurd h q
        · exact k.ex a (.inl h)
      · exact k.ex a (.inr h)
  · have na : a ≠ p := fun q => npι (q ▸ List.mem_of_getElem? h2)
    have q := k.obj l o a h1 h2
    cases o with
    | lst xs => obtain ⟨vs, e3, e4⟩ := q; exact ⟨vs, by rw [upd_ne na]; exact e3, e4.ext ex⟩
    | ins c gs => obtain ⟨dx, fs, e3, e4⟩ := q; exact ⟨dx, fs, by rw [upd_ne na]; exact e3, e4.ext ex⟩
    | dead => trivial
    | dct kvs => obtain ⟨xs, ep, e3, e4⟩ := q; exact ⟨xs, ep, by rw [upd_ne na]; exact e3, e4.ext ex⟩
    | tab n y => exact ⟨q.1, tab_stay q.2 (upd_ne na) fun c e => by rw [upd_ne (fun z => by rw [z, hp] at e; cases e)]; exact e⟩
/-- a hidden object changes -/
theorem MOk.hwrite {η ι : List Addr} {m : Mem} {H : Hp} {p : Addr} {ho : HO} {ws : List V} (k : MOk z (p :: η) ι m H) (hw : H p = some (.lst ws)) : MOk z (p :: η) ι m (upd H p ho) ∧ hid ((p :: η) ++ liv ι m) (upd H p ho) = hid ((p :: η) ++ liv ι m) H := by
  have e : hid ((p :: η) ++ liv ι m) (upd H p ho) = hid ((p :: η) ++ liv ι m) H := by
    funext b
    unfold hid
    split
    · rfl
    · rename_i n
      exact upd_ne fun q => n (by rw [q]; exact List.mem_append_left _ List.mem_cons_self)
  have npι : p ∉ ι := fun h => k.dj p h List.mem_cons_self
  refine ⟨⟨k.len, k.nd, k.dj, fun a h => ?_, fun l o a h1 h2 => ?_⟩, e⟩
  · by_cases q : a = p
    · subst q; exact ⟨_, upd_same⟩
    · rw [upd_ne q]; exact k.ex a h
  · have na : a ≠ p := fun q => npι (q ▸ List.mem_of_getElem? h2)
    have q := k.obj l o a h1 h2
    rw [e]
    cases o with
    | lst xs => obtain ⟨vs, e3, e4⟩ := q; exact ⟨vs, by rw [upd_ne na]; exact e3, e4⟩
    | ins c gs => obtain ⟨dx, fs, e3, e4⟩ := q; exact ⟨dx, fs, by rw [upd_ne na]; exact e3, e4⟩
    | dead => trivial
    | dct kvs => obtain ⟨xs, ep, e3, e4⟩ := q; exact ⟨xs, ep, by rw [upd_ne na]; exact e3, e4⟩
    | tab n y => exact ⟨q.1, tab_stay q.2 (upd_ne na) fun c e => by rw [upd_ne (fun z => by rw [z, hw] at e; exact codeO_lst _ (Option.some.inj e).symm)]; exact e⟩
/-- a hidden object is seen again -/
theorem MOk.unhide {η ι : List Addr} {m : Mem} {H : Hp} {p : Addr} (k : MOk z (p :: η) ι m H) : MOk z η ι m H ∧ Ext (hid ((p :: η) ++ liv ι m) H) (hid (η ++ liv ι m) H) := by
  have ex : Ext (hid ((p :: η) ++ liv ι m) H) (hid (η ++ liv ι m) H) := fun b u e => by
    obtain ⟨n, e⟩ := hid_some.mp e
    exact hid_some.mpr ⟨fun q => n (List.mem_cons_of_mem _ q), e⟩
  refine ⟨⟨k.len, k.nd, fun a h q => k.dj a h (List.mem_cons_of_mem _ q), fun a h => k.ex a (h.imp (List.mem_cons_of_mem _) id), fun l o a h1 h2 => ?_⟩, ex⟩
  have q := k.obj l o a h1 h2
  cases o with
  | lst xs => obtain ⟨vs, e3, e4⟩ := q; exact ⟨vs, e3, e4.ext ex⟩
  | ins c gs => obtain ⟨dx, fs, e3, e4⟩ := q; exact ⟨dx, fs, e3, e4.ext ex⟩
  | dead => trivial
  | dct kvs => obtain ⟨xs, ep, e3, e4⟩ := q; exact ⟨xs, ep, e3, e4.ext ex⟩
  | tab n y => exact q
/-- a clause's tests -/
abbrev CTs (z : Z) (X : Cx) (ifs : List Expr) (t : SemT) : Prop := PTs X ifs (tT z W0 t)
theorem pts_mono {X : Cx} {e : List Expr} {t t' : TT} (h : PTs X e t) (k : ∀ σ H Q, t' σ H Q → t σ H Q) : PTs X e t' := ⟨fun pins s σ H Q I q => h.run pins s σ H Q I (k _ _ _ q)⟩
def tYes : SemT := fun _ m => .ok true m
theorem cts_nil {X : Cx} : CTs z X [] tYes := pts_mono pts_nil fun σ H Q ⟨η, ι, ρ, m, ok, h⟩ => h H ι Stp.refl ok.mem
theorem cts_one {X : Cx} {c : Expr} {t : SemT} (h : CT z W0 X c t) : CTs z X [c] t := pts_one h

/-- a hidden list becomes the def's own -/
theorem MOk.adopt {η ι : List Addr} {m : Mem} {H : Hp} {p : Addr} {ws : List V} {xs : List D} (k : MOk z (p :: η) ι m H) (np : p ∉ η) (hp : H p = some (.lst ws)) (r : RpL z (hid ((p :: η) ++ liv ι m) H) ws xs) :
    MOk z η (ι ++ [p]) (m ++ [.lst xs]) H ∧ liv (ι ++ [p]) (m ++ [.lst xs]) = liv ι m ++ [p] := by
  have hlv : liv (ι ++ [p]) (m ++ [.lst xs]) = liv ι m ++ [p] := liv_append k.len rfl
  have npι : p ∉ ι := fun h => k.dj p h List.mem_cons_self
  have he : hid (η ++ liv (ι ++ [p]) (m ++ [.lst xs])) H = hid ((p :: η) ++ liv ι m) H := by
    funext b
    unfold hid
    rw [hlv]
    have : b ∈ η ++ (liv ι m ++ [p]) ↔ b ∈ (p :: η) ++ liv ι m := by
      simp only [List.mem_append, List.mem_cons, List.mem_singleton, List.not_mem_nil, or_false]
      constructor
      · rintro (h | h | h) <;> simp [h]
      · rintro ((h | h) | h) <;> simp [h]
    simp only [this]
  refine ⟨⟨?_, ?_, ?_, ?_, ?_⟩, hlv⟩
  · rw [List.length_append, List.length_append, k.len]; rfl
  · rw [List.nodup_append]
    refine ⟨k.nd, by simp, fun a h b hb => ?_⟩
    have : b = p := by simpa using hb
    rw [this]; exact fun q => npι (q ▸ h)
  · intro a h
    rcases List.mem_append.mp h with h | h
    · exact fun q => k.dj a h (List.mem_cons_of_mem _ q)
    · have : a = p := by simpa using h
      rw [this]; exact np
  · intro a h
    rcases h with h | h
    · exact k.ex a (.inl (List.mem_cons_of_mem _ h))
    · rcases List.mem_append.mp h with h | h
      · exact k.ex a (.inr h)
      · have : a = p := by simpa using h
        rw [this]; exact ⟨_, hp⟩
  · intro l o' a h1 h2
    rw [he]
    by_cases hlt : l < m.length
    · rw [List.getElem?_append_left hlt] at h1
      rw [List.getElem?_append_left (by rw [k.len]; exact hlt)] at h2
      exact k.obj l o' a h1 h2
    · have hge : m.length ≤ l := Nat.le_of_not_lt hlt
      rw [List.getElem?_append_right hge] at h1
      rw [List.getElem?_append_right (by rw [k.len]; exact hge)] at h2
      have hl0 : l - m.length = 0 := by
        cases q : l - m.length with
        | zero => rfl
        | succ n => rw [q] at h1; simp at h1
      rw [hl0] at h1
      rw [k.len, hl0] at h2
      simp only [List.getElem?_cons_zero, Option.some.injEq] at h1 h2
      subst h1 h2
      exact ⟨ws, hp, r⟩
theorem wipe_wipe (σ : L2.St) : ∀ vs : List Nat, L2.wipe (L2.wipe σ vs) vs = L2.wipe σ vs
  | [] => rfl
  | v :: vs => by
    show L2.wipe ((L2.wipe σ vs).set v none) (v :: vs) = (L2.wipe σ vs).set v none
    rw [wipe_set List.mem_cons_self]
    show (L2.wipe (L2.wipe σ vs) vs).set v none = _
    rw [wipe_wipe σ vs]
theorem lc_of {X : Cx} {si : SemI} {vs : List Nat} {T : Tg} {t : SemT} {e : Sem} (hT : ∀ i ∈ T.at, i ∈ vs) {σ : L2.St} {H : Hp} {Q : VK}
    (h : ∃ η ι ρ m, SOk z η ι m ρ σ H ∧ Post z W η ι m H (fun ι' m' H' xs => ∀ p ws, MOk z (p :: η) ι' m' H' → RpL z (hid ((p :: η) ++ liv ι' m') H') ws xs → H' p = some (.lst ws) → p ∉ η → (∀ b o, b ∉ liv ι m → H b = some o → b ≠ p) → Q (.ref p) H') (sLcs si vs T t e ρ m)) :
    tLc (tI z W si) (T.t z.K) (tT z W0 t) (tE z W0 e) vs σ H Q := by
  obtain ⟨η, ι, ρ, m, ok, h⟩ := h
  refine ⟨η, ι, ρ, m, ok, Post.mono (fun ι1 m1 H1 xs st1 k1 h1 J wk Dl hD => ?_) (Post.bind h)⟩
  obtain ⟨k2, ex2⟩ := k1.hide (ho := .lst []) hD
  have s1 := ok.step st1 k1
  have s2 : SOk z (Dl :: η) ι1 m1 ρ σ (upd H1 Dl (.lst [])) := ⟨k2, s1.len, fun i v e => by
    obtain ⟨x, q1, q2⟩ := s1.slot i v e
    refine ⟨x, q1, ?_⟩
    cases v with
    | d d => exact Rp.ext ex2 q2
    | p l => exact q2⟩
  let K := fun (ι' : List Addr) (m' : Mem) (H' : Hp) (xs : List D) => ∀ p ws, MOk z (p :: η) ι' m' H' → RpL z (hid ((p :: η) ++ liv ι' m') H') ws xs → H' p = some (.lst ws) → p ∉ η → (∀ b o, b ∉ liv ι m → H b = some o → b ≠ p) → Q (.ref p) H'
  refine ⟨fun i n Hc => ∃ ιc mc acc ws, n = xs.length - i ∧ i ≤ xs.length ∧ SOk z (Dl :: η) ιc mc (wipeE ρ vs) (L2.wipe σ vs) Hc ∧ Stp ι1 m1 H1 ιc mc Hc ∧ Hc Dl = some (.lst ws) ∧ RpL z (hid ((Dl :: η) ++ liv ιc mc) Hc) ws acc ∧
      Ext (hid (η ++ liv ι1 m1) H1) (hid ((Dl :: η) ++ liv ιc mc) Hc) ∧ Post z W η ι1 m1 H1 K (lcGo T t e (wipeE ρ vs) (xs.drop i) acc mc), ⟨xs.length, ι1, m1, [], [], rfl, Nat.zero_le _, s2.wipe vs, ?_, upd_same, .nil, ex2, h1⟩, ?_⟩
  · exact (Stp.grow k1 (Ext.new hD)).1
  rintro i n Hc ⟨ιc, mc, acc, ws, rfl, hi, sc, stc, hDc, rc, exc, pc⟩
  by_cases hlt : i < xs.length
  · refine .inr ⟨wk.go _ _ i exc hlt, fun H' => ∃ n', n' < xs.length - i ∧ (∃ ιc mc acc ws, n' = xs.length - (i + 1) ∧ i + 1 ≤ xs.length ∧ SOk z (Dl :: η) ιc mc (wipeE ρ vs) (L2.wipe σ vs) H' ∧ Stp ι1 m1 H1 ιc mc H' ∧ H' Dl = some (.lst ws) ∧ RpL z (hid ((Dl :: η) ++ liv ιc mc) H') ws acc ∧
      Ext (hid (η ++ liv ι1 m1) H1) (hid ((Dl :: η) ++ liv ιc mc) H') ∧ Post z W η ι1 m1 H1 K (lcGo T t e (wipeE ρ vs) (xs.drop (i + 1)) acc mc)), fun H' q => q, fun x H' y => ?_⟩
    have hget : xs[i]? = some xs[i] := List.getElem?_eq_getElem hlt
    obtain ⟨eg, rx⟩ := wk.yl _ _ i x H' xs[i] exc sc.mem.hx y hget
    obtain ⟨stg, kg⟩ := Stp.grow sc.mem eg
    have hd : xs.drop i = xs[i] :: xs.drop (i + 1) := by rw [List.drop_eq_getElem_cons hlt]
    rw [hd] at pc
    unfold lcGo at pc
    cases hg : T.g xs[i] (wipeE ρ vs) with
    | none => rw [hg] at pc; exact pc.elim
    | some ρ1 =>
      rw [hg] at pc
      dsimp only at pc
      refine tg_ok (sc.step stg kg) rx hg fun σ' s' w' => ⟨(w' vs hT).trans (wipe_wipe σ vs), ?_⟩
      have stx : Stp ι1 m1 H1 ιc mc H' := stc.trans stg
      -- the test
      refine ⟨Dl :: η, ιc, ρ1, mc, s', ?_⟩
      cases ht : t ρ1 mc with
      | no => rw [ht] at pc; exact pc.elim
      | er ex mm => rw [ht] at pc; exact pc.elim
      | ok b m3 =>
        rw [ht] at pc
        intro H3 ι3 st3 k3
        have pc : Post z W η ι1 m1 H1 K (if b then ((e ρ1 m3).noEr.bind fun v m2 => match v with
          | .d y => if acc.length < sizeLine then lcGo T t e (wipeE ρ vs) (xs.drop (i + 1)) (acc ++ [y]) m2 else .no
          | _ => .no) else lcGo T t e (wipeE ρ vs) (xs.drop (i + 1)) acc m3) := pc
        have hD3 : ∀ {ιz mz Hz}, Stp ιc mc H' ιz mz Hz → Hz Dl = some (.lst ws) := fun {ιz mz Hz} q => (q.fr Dl _ (fun z => sc.mem.dj Dl (liv_sub z) List.mem_cons_self) (eg _ _ hDc)).1
        have stt : Stp ι1 m1 H1 ι3 m3 H3 := stx.trans st3
        have sw3 : SOk z (Dl :: η) ι3 m3 (wipeE ρ vs) (L2.wipe σ vs) H3 := (sc.step stg kg).step st3 k3
        have ex3 : Ext (hid (η ++ liv ι1 m1) H1) (hid ((Dl :: η) ++ liv ι3 m3) H3) := exc.trans ((Stp.vis stg).trans (Stp.vis st3))
        have rc3 : RpL z (hid ((Dl :: η) ++ liv ι3 m3) H3) ws acc := (rc.ext (Stp.vis stg)).ext (Stp.vis st3)
        cases b with
        | false =>
          show (if false = true then _ else _)
          rw [if_neg Bool.false_ne_true] at pc ⊢
          exact ⟨_, by omega, ι3, m3, acc, ws, rfl, hlt, sw3, stt, hD3 st3, rc3, ex3, pc⟩
        | true =>
          show (if true = true then _ else _)
          rw [if_pos rfl] at pc ⊢
          refine ⟨Dl :: η, ι3, ρ1, m3, s'.step st3 k3, ?_⟩
          cases he : e ρ1 m3 with
          | no => rw [he] at pc; exact pc.elim
          | er ex mm => rw [he] at pc; exact pc.elim
          | ok v m4 =>
            rw [he] at pc
            intro H4 ι4 st4 k4 y ry
            cases v with
            | p l => exact pc.elim
            | d d =>
              have pc : Post z W η ι1 m1 H1 K (if acc.length < sizeLine then lcGo T t e (wipeE ρ vs) (xs.drop (i + 1)) (acc ++ [d]) m4 else .no) := pc
              split at pc
              · rename_i hz
                have hD4 := hD3 (st3.trans st4)
                have rc4 : RpL z (hid ((Dl :: η) ++ liv ι4 m4) H4) ws acc := rc3.ext (Stp.vis st4)
                have ry : Rp z (hid ((Dl :: η) ++ liv ι4 m4) H4) y d := ry
                obtain ⟨k5, e5⟩ := k4.hwrite (ho := .lst (ws ++ [y])) hD4
                have sw4 := sw3.step st4 k4
                refine ⟨ws, hD4, by rw [rc4.length]; exact hz, _, by omega, ι4, m4, acc ++ [d], ws ++ [y], rfl, hlt, ⟨k5, sw4.len, fun j w q => ?_⟩, ?_, upd_same, by rw [e5]; exact rc4.append (.cons ry .nil), by rw [e5]; exact ex3.trans (Stp.vis st4), pc⟩
                · rw [e5]; exact sw4.slot j w q
                · have st := stt.trans st4
                  refine ⟨st.pre, fun b o n q => ?_⟩
                  have nb : b ≠ Dl := fun z => by rw [z, hD] at q; cases q
                  rw [upd_ne nb]
                  exact st.fr b o n q
              · exact pc.elim
  · have hl : i = xs.length := by omega
    subst hl
    refine .inl ⟨wk.stop _ _ exc, ?_⟩
    rw [List.drop_length] at pc
    have pc : Post z W η ι1 m1 H1 K (.ok acc mc) := pc
    obtain ⟨ku, exu⟩ := sc.mem.unhide
    refine pc Hc ιc stc ku Dl ws sc.mem rc hDc (fun z => ?_) fun b o n q => ?_
    · obtain ⟨u, e⟩ := k1.ex Dl (.inl z)
      rw [hD] at e; cases e
    · obtain ⟨q1, n1⟩ := st1.fr b o n q
      exact fun z => by rw [z, hD] at q1; cases q1
end
section
variable {X : Cx} {z : Z} {W : XK} {elt tg iter : Expr} {ifs : List Expr} {scope : Scope} {own : List (Str × Nat)} {pos : Pos} {si : SemI} {T : Tg} {t : SemT} {e : Sem}
theorem c_lc (hK : X.K = z.K) (hc : X.calm = true) (hN : X.N.Nodup) (hi : CI z W X tg iter si) (ok : BlkOk X.N X.env.scope scope own)
    (hg : ∀ (s : Shared) (H : Hp) (C : Addr) (cl : List (Str × Addr)) (fp : List Addr), PG (X.blk s H scope (compEnvC scope cl C X.env) fp) tg (T.t X.K))
    (ht : ∀ (s : Shared) (H : Hp) (C : Addr) (cl : List (Str × Addr)) (fp : List Addr), CTs z (X.blk s H scope (compEnvC scope cl C X.env) fp) ifs t)
    (he : ∀ (s : Shared) (H : Hp) (C : Addr) (cl : List (Str × Addr)) (fp : List Addr), CE z W0 (X.blk s H scope (compEnvC scope cl C X.env) fp) elt e) (hT : ∀ i ∈ T.at, i ∈ own.map (·.2) := by decide) (hs : ∀ x, foldedSetIterable iter X.env x = pure x := by intro _; rfl) :
    CE z W X (.ListComp elt [⟨tg, iter, ifs, 0⟩] scope pos) (sLc si (own.map (·.2)) T t e) := by
  rw [hK] at hg
  exact pe_mono (pe_lc hc hN hi ok hg ht he hs) fun σ H Q ⟨η, ι, ρ, m, ok, h⟩ => lc_of (X := X) hT ⟨η, ι, ρ, m, ok, Post.mono (fun ι' m' H' xs st k h p ws k2 rp hp np _ => by
    obtain ⟨k3, ex⟩ := k2.unhide
    refine h H' ι' Stp.refl k _ (Rp.lst (hid_some.mpr ⟨fun q => ?_, hp⟩) (rp.ext ex))
    rcases List.mem_append.mp q with q | q
    · exact np q
    · exact k2.dj p (liv_sub q) List.mem_cons_self) (Post.bind h)⟩
theorem c_lcO (hK : X.K = z.K) (hc : X.calm = true) (hN : X.N.Nodup) (hi : CI z W X tg iter si) (ok : BlkOk X.N X.env.scope scope own)
    (hg : ∀ (s : Shared) (H : Hp) (C : Addr) (cl : List (Str × Addr)) (fp : List Addr), PG (X.blk s H scope (compEnvC scope cl C X.env) fp) tg (T.t X.K))
    (ht : ∀ (s : Shared) (H : Hp) (C : Addr) (cl : List (Str × Addr)) (fp : List Addr), CTs z (X.blk s H scope (compEnvC scope cl C X.env) fp) ifs t)
    (he : ∀ (s : Shared) (H : Hp) (C : Addr) (cl : List (Str × Addr)) (fp : List Addr), CE z W0 (X.blk s H scope (compEnvC scope cl C X.env) fp) elt e) (hT : ∀ i ∈ T.at, i ∈ own.map (·.2) := by decide) (hs : ∀ x, foldedSetIterable iter X.env x = pure x := by intro _; rfl) :
    CE z W X (.ListComp elt [⟨tg, iter, ifs, 0⟩] scope pos) (sLcO si (own.map (·.2)) T t e) := by
  rw [hK] at hg
  exact pe_mono (pe_lc hc hN hi ok hg ht he hs) fun σ H Q ⟨η, ι, ρ, m, ok, h⟩ => lc_of (X := X) hT ⟨η, ι, ρ, m, ok, by
    unfold sLcO at h
    cases q : sLcs si (own.map (·.2)) T t e ρ m with
    | no => rw [q] at h; exact h.elim
    | er ex m1 => rw [q] at h; exact h
    | ok xs m1 =>
      rw [q] at h
      intro H' ι' st k p ws k2 rp hp np nb
      obtain ⟨k3, hlv⟩ := k2.adopt np hp rp
      refine h H' (ι' ++ [p]) ⟨?_, fun b o n e1 => ?_⟩ k3 (.ref p) ⟨p, by rw [← k.len, List.getElem?_append_right (Nat.le_refl _)]; simp, rfl⟩
      · obtain ⟨τ, rfl⟩ := st.pre
        exact ⟨τ ++ [p], by simp⟩
      · obtain ⟨e2, n2⟩ := st.fr b o n e1
        refine ⟨e2, fun z => ?_⟩
        rw [hlv] at z
        rcases List.mem_append.mp z with z | z
        · exact n2 z
        · exact nb b o n e1 (by simpa using z)⟩
end
end DL
/-! DLg: statements, defs, calls. -/
namespace DL
open PySem PySem.Spec PyProof.Rows L2

/-- where one stands: what every rule wants -/
structure Gc (z : Z) (W : XK) (X : Cx) : Prop where
  hK : X.K = z.K
  pw : X.prog = z.P ∧ X.w = z.w
  calm : X.calm = true
  nd : X.N.Nodup
  tk : L2N.Takes X (fun c d _ H => W c d H)
  po : PassesOwn (model X.prog X.w) X.A X.env X.xe
  hu : X.A.units + 200 < cLine
theorem takesN0 {X : Cx} : L2N.Takes X (fun _ _ _ _ => False) := fun u s' ⟨_, _, _, _, _, _, _, _, _, _, _, _, _, _, _, _, w⟩ => w.elim
theorem Gc.hu1 {z : Z} {W : XK} {X : Cx} (g : Gc z W X) : X.A.units + 100 < cLine := by have := g.hu; omega
theorem Gc.blk {z : Z} {W : XK} {X : Cx} (g : Gc z W X) (s : Shared) (H : Hp) (scope : Scope) (cenv : PySem.Env) (fp : List Addr) : Gc z W0 (X.blk s H scope cenv fp) :=
  ⟨g.hK, g.pw, g.calm, g.nd, takesN0, PassesOwn.never, g.hu⟩

inductive Ct where
  | nx (ρ : Env) | rt (v : Vl)
abbrev SemS := Env → Mem → R Ct
def CtP (z : Z) (η : List Addr) (D : Ends) (ι' : List Addr) (m' : Mem) (H' : Hp) : Ct → Prop
  | .nx ρ' => ∀ σ', SOk z η ι' m' ρ' σ' H' → D.nx σ' H'
  | .rt v => ∀ x, RV z ι' (hid (η ++ liv ι' m') H') x v → D.rt x H'
def tS (z : Z) (W : XK) (s : SemS) : TS := fun D σ H => ∃ η ι ρ m, SOk z η ι m ρ σ H ∧ Post z W η ι m H (CtP z η D) (s ρ m)
abbrev CS (z : Z) (W : XK) (X : Cx) (st : Stmt) (s : SemS) : Prop := PS X st (tS z W s)
abbrev CSs (z : Z) (W : XK) (X : Cx) (st : List Stmt) (s : SemS) : Prop := PSs X st (tS z W s)
theorem ps_mono {X : Cx} {e : Stmt} {t t' : TS} (h : PS X e t) (k : ∀ D σ H, t' D σ H → t D σ H) : PS X e t' := ⟨fun pins s σ H D I q => h.run pins s σ H D I (k _ _ _ q)⟩
theorem pss_mono {X : Cx} {e : List Stmt} {t t' : TS} (h : PSs X e t) (k : ∀ D σ H, t' D σ H → t D σ H) : PSs X e t' := ⟨fun pins s σ H D I q => h.run pins s σ H D I (k _ _ _ q)⟩

section
variable {X : Cx} {z : Z} {W : XK} {a b c e o tg : Expr} {es : List Expr} {st : Stmt} {rest body orelse : List Stmt} {sa sb sc s se so si : Sem} {r : SemA} {t : SemT} {s1 s2 : SemS} {pos : Pos}

def sNil : SemS := fun ρ m => .ok (.nx ρ) m
def sSeq (s1 s2 : SemS) : SemS := fun ρ m => (s1 ρ m).bind fun c m1 => match c with
  | .nx ρ1 => s2 ρ1 m1
  | .rt v => .ok (.rt v) m1
theorem css_nil : CSs z W X [] sNil := pss_mono pss_nil fun D σ H ⟨η, ι, ρ, m, ok, h⟩ => h H ι Stp.refl ok.mem σ ok
theorem css_cons (h1 : CS z W X st s1) (h2 : CSs z W X rest s2) : CSs z W X (st :: rest) (sSeq s1 s2) :=
  pss_mono (pss_cons h1 h2) fun D σ H ⟨η, ι, ρ, m, ok, h⟩ => by
    refine ⟨η, ι, ρ, m, ok, Post.mono (fun ι1 m1 H1 c st1 k1 h1 => ?_) (Post.bind h)⟩
    cases c with
    | nx ρ1 => exact fun σ' s' => ⟨η, ι1, ρ1, m1, s', h1⟩
    | rt v => exact fun x rx => h1 H1 ι1 Stp.refl k1 x rx
/-- name = value -/
def sSet (i : Nat) (s : Sem) : SemS := fun ρ m => (s ρ m).bind fun v m1 => .ok (.nx (ρ.set i (some v))) m1
theorem cs_set (i : Nat) {x : Str} {pos' : Pos} (g : Gc z W X) (he : CE z W X e s) (hi : X.N[i]? = some x := by rfl) (hx : Loc X.env.scope x := by first | exact Or.inl rfl | exact Or.inr rfl) (hs : swapsWith e (some (.Name x pos')) pos.line X.env = pure false := by rfl) (hf : X.fn x = true ∨ X.env.scope.names.lookup x = some .local := by first | exact .inl rfl | exact .inr rfl) :
    CS z W X (.Assign [.Name x pos'] e pos) (sSet i s) :=
  ps_mono (ps_set g.nd hi hx he hs hf) fun D σ H ⟨η, ι, ρ, m, ok, h⟩ => by
    refine ⟨η, ι, ρ, m, ok, Post.mono (fun ι1 m1 H1 v st1 k1 h1 x rx => ?_) (Post.bind h)⟩
    exact h1 H1 ι1 Stp.refl k1 _ ((ok.step st1 k1).set rx)
/-- name = [..] on one line, the name a local -/
theorem cs_setLc (i : Nat) {x : Str} {py : Pos} {elt tg iter : Expr} {ifs : List Expr} {scope : Scope} {own : List (Str × Nat)} {spos : Pos} {si : SemI} {T : Tg} {t : SemT} {e : Sem} (g : Gc z W X) (hi : CI z W X tg iter si) (ok : BlkOk X.N X.env.scope scope own)
    (hg : ∀ (s : Shared) (H : Hp) (C : Addr) (cl : List (Str × Addr)) (fp : List Addr), PG (X.blk s H scope (compEnvC scope cl C X.env) fp) tg (T.t X.K))
    (ht : ∀ (s : Shared) (H : Hp) (C : Addr) (cl : List (Str × Addr)) (fp : List Addr), CTs z (X.blk s H scope (compEnvC scope cl C X.env) fp) ifs t)
    (he : ∀ (s : Shared) (H : Hp) (C : Addr) (cl : List (Str × Addr)) (fp : List Addr), CE z W0 (X.blk s H scope (compEnvC scope cl C X.env) fp) elt e) (hy : X.N[i]? = some x := by rfl) (hyl : X.env.scope.names.lookup x = some .local := by rfl) (hT : ∀ i ∈ T.at, i ∈ own.map (·.2) := by decide)
    (hsw : swapsWith (.ListComp elt [⟨tg, iter, ifs, 0⟩] scope pos) (some (.Name x py)) spos.line X.env = pure true := by exact sw_true rfl rfl rfl (by decide +kernel)) (hs : ∀ x, foldedSetIterable iter X.env x = pure x := by intro _; rfl) :
    CS z W X (.Assign [.Name x py] (.ListComp elt [⟨tg, iter, ifs, 0⟩] scope pos) spos) (sSet i (sLc si (own.map (·.2)) T t e)) := by
  rw [g.hK] at hg
  exact ps_mono (ps_setLc g.calm g.nd hy hyl hsw hi ok hg ht he hs) fun D σ H ⟨η, ι, ρ, m, ok, h⟩ => by
    show tLc _ _ _ _ _ σ H _
    refine lc_of (X := X) (W := W) hT ⟨η, ι, ρ, m, ok, Post.mono (fun ι' m' H' xs st k h p ws k2 rp hp np _ => ?_) (Post.bind (Post.bind h))⟩
    obtain ⟨k3, ex⟩ := k2.unhide
    have h := h H' ι' Stp.refl k
    refine h H' ι' Stp.refl k _ ((ok.step st k).set (v := .d (.lst xs)) (Rp.lst (hid_some.mpr ⟨fun q => ?_, hp⟩) (rp.ext ex)))
    rcases List.mem_append.mp q with q | q
    · exact np q
    · exact k2.dj p (liv_sub q) List.mem_cons_self
/-- a, b, .. = value -/
def sSetT (is : List Nat) (s : Sem) : SemS := fun ρ m => (s ρ m).bind fun v m1 => match v with
  | .d d => (match (Tg.many is).g d ρ with
    | some ρ1 => .ok (.nx ρ1) m1
    | none => .no)
  | _ => .no
theorem cs_setT (is : List Nat) (g : Gc z W X) (he : CE z W X e s) (hg : PG X tg ((Tg.many is).t X.K)) (hs : swapsWithSole [tg] e pos.line X.env = pure false := by rfl) (hw : swappedStores [tg] e X.env = pure none := by rfl)
    (h1 : (assignEach [tg] X.env).map (·.2) = [assign tg X.env] := by rfl) : CS z W X (.Assign [tg] e pos) (sSetT is s) := by
  rw [g.hK] at hg
  exact ps_mono (ps_asg he hg hs hw h1) fun D σ H ⟨η, ι, ρ, m, ok, h⟩ => by
    refine ⟨η, ι, ρ, m, ok, Post.mono (fun ι1 m1 H1 v st1 k1 h1 x rx => ?_) (Post.bind h)⟩
    split at h1
    · split at h1
      · rename_i d ρ1 hd
        exact tg_ok (ok.step st1 k1) rx hd fun σ' s' _ => h1 H1 ι1 Stp.refl k1 σ' s'
      · exact h1.elim
    · exact h1.elim
/-- a, b = x, y -/
def sPar2 (i j : Nat) (r : SemA) : SemS := fun ρ m => (r ρ m).bind fun vs m1 => match vs with
  | [v, w] => .ok (.nx ((ρ.set i (some v)).set j (some w))) m1
  | _ => .no
theorem cs_par2 (i j : Nat) {x y : Str} {px py pt : Pos} {kt k2 pt2} (g : Gc z W X) (ha : CA z W X [a, b] r) (hi : X.N[i]? = some x := by rfl) (hj : X.N[j]? = some y := by rfl) (hij : i ≠ j := by decide)
    (hx : X.env.scope.names.lookup x = some .local := by rfl) (hy : X.env.scope.names.lookup y = some .local := by rfl)
    (hw : swappedStores [.Tuple [.Name x px, .Name y py] kt pt] (.Tuple [a, b] k2 pt2) X.env = pure (some [x, y]) := by rfl)
    (hs : swapsWithSole [.Tuple [.Name x px, .Name y py] kt pt] (.Tuple [a, b] k2 pt2) pos.line X.env = pure false := by rfl) :
    CS z W X (.Assign [.Tuple [.Name x px, .Name y py] kt pt] (.Tuple [a, b] k2 pt2) pos) (sPar2 i j r) :=
  ps_mono (ps_par g.calm g.nd hi hj hij hx hy ha hw hs) fun D σ H ⟨η, ι, ρ, m, ok, h⟩ => by
    refine ⟨η, ι, ρ, m, ok, Post.mono (fun ι1 m1 H1 vs st1 k1 h1 xs rxs => ?_) (Post.bind h)⟩
    split at h1
    · cases rxs with | cons r1 rxs =>
      cases rxs with | cons r2 rxs =>
      cases rxs
      exact ⟨_, _, rfl, h1 H1 ι1 Stp.refl k1 _ (((ok.step st1 k1).set r1).set r2)⟩
    · exact h1.elim
def sPar3 (i j l : Nat) (r : SemA) : SemS := fun ρ m => (r ρ m).bind fun vs m1 => match vs with
  | [v, w, u] => .ok (.nx (((ρ.set i (some v)).set j (some w)).set l (some u))) m1
  | _ => .no
theorem cs_par3 (i j l : Nat) {x y v : Str} {px py pz pt : Pos} {kt k2 pt2} (g : Gc z W X) (ha : CA z W X [a, b, c] r) (hi : X.N[i]? = some x := by rfl) (hj : X.N[j]? = some y := by rfl) (hl : X.N[l]? = some v := by rfl) (hij : i ≠ j := by decide) (hil : i ≠ l := by decide) (hjl : j ≠ l := by decide)
    (hx : X.env.scope.names.lookup x = some .local := by rfl) (hy : X.env.scope.names.lookup y = some .local := by rfl) (hv : X.env.scope.names.lookup v = some .local := by rfl)
    (hw : swappedStores [.Tuple [.Name x px, .Name y py, .Name v pz] kt pt] (.Tuple [a, b, c] k2 pt2) X.env = pure (some [x, y, v]) := by rfl)
    (hs : swapsWithSole [.Tuple [.Name x px, .Name y py, .Name v pz] kt pt] (.Tuple [a, b, c] k2 pt2) pos.line X.env = pure false := by rfl) :
    CS z W X (.Assign [.Tuple [.Name x px, .Name y py, .Name v pz] kt pt] (.Tuple [a, b, c] k2 pt2) pos) (sPar3 i j l r) :=
  ps_mono (ps_par3 g.calm g.nd hi hj hl hij hil hjl hx hy hv ha hw hs) fun D σ H ⟨η, ι, ρ, m, ok, h⟩ => by
    refine ⟨η, ι, ρ, m, ok, Post.mono (fun ι1 m1 H1 vs st1 k1 h1 xs rxs => ?_) (Post.bind h)⟩
    split at h1
    · cases rxs with | cons r1 rxs =>
      cases rxs with | cons r2 rxs =>
      cases rxs with | cons r3 rxs =>
      cases rxs
      exact ⟨_, _, _, rfl, h1 H1 ι1 Stp.refl k1 _ ((((ok.step st1 k1).set r1).set r2).set r3)⟩
    · exact h1.elim
def sRet (s : Sem) : SemS := fun ρ m => (s ρ m).bind fun v m1 => .ok (.rt v) m1
theorem cs_ret (he : CE z W X e s) : CS z W X (.Return (some e) pos) (sRet s) :=
  ps_mono (ps_ret he) fun D σ H ⟨η, ι, ρ, m, ok, h⟩ => by
    refine ⟨η, ι, ρ, m, ok, Post.mono (fun ι1 m1 H1 v st1 k1 h1 x rx => ?_) (Post.bind h)⟩
    exact h1 H1 ι1 Stp.refl k1 x rx
def sRetN : SemS := fun _ m => .ok (.rt (.d .non)) m
theorem cs_retN : CS z W X (.Return none pos) sRetN :=
  ps_mono ps_retN fun D σ H ⟨η, ι, ρ, m, ok, h⟩ => h H ι Stp.refl ok.mem .non .non
theorem cs_pass : CS z W X (.Pass pos) sNil := ps_mono ps_pass fun D σ H ⟨η, ι, ρ, m, ok, h⟩ => h H ι Stp.refl ok.mem σ ok
def sIf (t : SemT) (s1 s2 : SemS) : SemS := fun ρ m => (t ρ m).bind fun k m1 => if k then s1 ρ m1 else s2 ρ m1
theorem cs_if (hc : CT z W X c t) (h1 : CSs z W X body s1) (h2 : CSs z W X orelse s2) : CS z W X (.If c body orelse pos) (sIf t s1 s2) :=
  ps_mono (ps_if hc h1 h2) fun D σ H ⟨η, ι, ρ, m, ok, h⟩ => by
    refine ⟨η, ι, ρ, m, ok, Post.mono (fun ι1 m1 H1 k st1 k1 h1 => ?_) (Post.bind h)⟩
    cases k with
    | true =>
      rw [if_pos rfl] at h1 ⊢
      exact ⟨η, ι1, ρ, m1, ok.step st1 k1, h1⟩
    | false =>
      rw [if_neg Bool.false_ne_true] at h1 ⊢
      exact ⟨η, ι1, ρ, m1, ok.step st1 k1, h1⟩
def sDrop (s : Sem) : SemS := fun ρ m => (s ρ m).bind fun _ m1 => .ok (.nx ρ) m1
theorem cs_expr (he : CE z W X e s) (hs : swapsWith e none pos.line X.env = pure false := by rfl) : CS z W X (.Expr e pos) (sDrop s) :=
  ps_mono (ps_expr he hs) fun D σ H ⟨η, ι, ρ, m, ok, h⟩ => by
    refine ⟨η, ι, ρ, m, ok, Post.mono (fun ι1 m1 H1 v st1 k1 h1 x rx => ?_) (Post.bind h)⟩
    exact h1 H1 ι1 Stp.refl k1 _ (ok.step st1 k1)
/-- x.append(e), x the def's own list -/
def appR (l : Nat) (ρ : Env) (w : Vl) (m : Mem) : R Ct := match w, m[l]? with
  | .d d, some (.lst xs) => if xs.length < sizeLine then .ok (.nx ρ) (m.set l (.lst (xs ++ [d]))) else .no
  | _, _ => .no
def sApp (i : Nat) (se : Sem) : SemS := fun ρ m => match ρ[i]? with
  | some (some (.p l)) => (match m[l]? with
    | some (.lst _) => (se ρ m).bind fun w m2 => appR l ρ w m2
    | _ => .no)
  | _ => .no
theorem cs_app (i : Nat) {x : Str} {apos cpos xp : Pos} (he : CE z W X e se) (hN : X.N[i]? = some x := by rfl) (hv : Vis X.env.scope x := by first | exact Or.inl rfl | exact Or.inr (Or.inl rfl) | exact Or.inr (Or.inr rfl)) (hd : (x == ("__debug__" : Str)) = false := by decide)
    (hcd : (x == ("__classdict__" : Str)) = false := by decide) (hs0 : swapsWith (.Call (.Attribute (.Name x xp) "append" apos) [e] [] cpos) none pos.line X.env = pure false := by rfl)
    (hbase : attributeBase (.Name x xp) "append" X.env (eval (.Name x xp) X.env) = eval (.Name x xp) X.env := by rfl)
    (hfew : ((backTo cpos (starEach (e :: []) X.env)).all (fun x => !x.1) && (backToKw cpos (keywordEach [] X.env)).all (fun x => x.1.isSome)
      && decide ((e :: ([] : List Expr)).length + ([] : List Keyword).length + (if ([] : List Keyword).isEmpty then 0 else 1) < 30)) = true := by rfl)
    (hline : (apos.endLine == cpos.line) = true := by rfl) (hs : starEach (e :: []) X.env = (false, eval e X.env) :: starEach [] X.env := by rfl) (hplain : (backTo cpos (starEach [] X.env)).any (·.1) = false := by rfl) :
    CS z W X (.Expr (.Call (.Attribute (.Name x xp) "append" apos) [e] [] cpos) pos) (sApp i se) :=
  ps_mono (ps_expr (pe_bm PySem.F.plainAttrs_list PySem.F.slot_list_append PySem.F.type_list_append mt_append (pe_var hN hv hd hcd) (pa_cons he pa_nil hs) hbase hfew hline hs hplain) hs0) fun D σ H ⟨η, ι, ρ, m, ok, h⟩ => by
    unfold sApp at h
    split at h
    · rename_i l hl
      split at h
      · rename_i xs0 hm0
        obtain ⟨x, q1, a, q2, rfl⟩ := ok.slot i _ hl
        obtain ⟨vs0, q3, _⟩ := ok.mem.obj l _ a hm0 q2
        refine ⟨_, q1, .inl ⟨rfl, _, SqL.of q3⟩, η, ι, ρ, m, ok, Post.mono (fun ι1 m1 H1 w st1 k1 h1 y ry => ?_) (Post.bind h)⟩
        unfold appR at h1
        split at h1
        · rename_i d xs hm1
          split at h1
          · rename_i hz
            obtain ⟨vs, e1, e2⟩ := k1.obj l _ a hm1 (st1.get q2)
            refine ⟨a, vs, y, rfl, rfl, e1, by rw [e2.length]; exact hz, ?_⟩
            have ry : Rp z (hid (η ++ liv ι1 m1) H1) y d := ry
            have hal : a ∈ liv ι1 m1 := liv_mem (st1.get q2) hm1 rfl
            have ehid : hid (η ++ liv ι1 m1) (upd H1 a (.lst (vs ++ [y]))) = hid (η ++ liv ι1 m1) H1 := by
              funext b
              unfold hid
              split
              · rfl
              · rename_i n
                exact upd_ne fun q => n (by rw [q]; exact List.mem_append_right _ hal)
            obtain ⟨st2, k2⟩ := k1.write (ho := .lst (vs ++ [y])) (u := .lst (xs ++ [d])) hm1 (st1.get q2) rfl rfl ⟨_, upd_same, e2.append (.cons ry .nil)⟩
            exact h1 _ ι1 st2 k2 _ (ok.step (st1.trans st2) k2)
          · exact h1.elim
        · exact h1.elim
      · exact h.elim
    · exact h.elim
/-- x[i] = e, x the def's own list -/
def setR (l : Nat) (ρ : Env) (v w : Vl) (m : Mem) : R Ct := match v, w, m[l]? with
  | .d d, .d (.int k), some (.lst xs) => (match ixN xs.length k with
    | some j => .ok (.nx ρ) (m.set l (.lst (xs.set j d)))
    | none => .no)
  | _, _, _ => .no
def sSetIx (i : Nat) (si se : Sem) : SemS := fun ρ m => match ρ[i]? with
  | some (some (.p l)) => (se ρ m).bind fun v m1 => (si ρ m1).bind fun w m2 => setR l ρ v w m2
  | _ => .no
theorem cs_setIx (i : Nat) {x : Str} {xp spos : Pos} (he : CE z W X e se) (hi : CE z W X b si) (hN : X.N[i]? = some x := by rfl) (hv : Vis X.env.scope x := by first | exact Or.inl rfl | exact Or.inr (Or.inl rfl) | exact Or.inr (Or.inr rfl)) (hd : (x == ("__debug__" : Str)) = false := by decide)
    (hcd : (x == ("__classdict__" : Str)) = false := by decide) (ha : ∀ v, assign (.Subscript (.Name x xp) b spos) X.env v = (do
      let ov ← holding [v] (eval (.Name x xp) X.env)
      let iv ← holding [v, ov] (eval b X.env)
      standAt spos
      holding [v, ov, iv] (setItem ov iv v)
      release [v, ov, iv] []) := by intro _; rfl) (hs : swapsWithSole [.Subscript (.Name x xp) b spos] e pos.line X.env = pure false := by rfl) (hw : swappedStores [.Subscript (.Name x xp) b spos] e X.env = pure none := by rfl)
    (h1 : (assignEach [.Subscript (.Name x xp) b spos] X.env).map (·.2) = [assign (.Subscript (.Name x xp) b spos) X.env] := by rfl) : CS z W X (.Assign [.Subscript (.Name x xp) b spos] e pos) (sSetIx i si se) :=
  ps_mono (ps_asg he (pg_sub (pe_var hN hv hd hcd) hi set_list ha) hs hw h1) fun D σ H ⟨η, ι, ρ, m, ok, h⟩ => by
    unfold sSetIx at h
    split at h
    · rename_i l hl
      refine ⟨η, ι, ρ, m, ok, Post.mono (fun ι1 m1 H1 v st1 k1 h1 x rx => ?_) (Post.bind h)⟩
      obtain ⟨x', q1, a, q2, rfl⟩ := ok.slot i _ hl
      refine ⟨_, q1, η, ι1, ρ, m1, ok.step st1 k1, Post.mono (fun ι2 m2 H2 w st2 k2 h2 y ry => ?_) (Post.bind h1)⟩
      unfold setR at h2
      split at h2
      · rename_i d k xs hm2
        split at h2
        · rename_i j hj
          have q3 := st2.get (st1.get q2)
          obtain ⟨vs, e1, e2⟩ := k2.obj l _ a hm2 q3
          cases ry
          refine ⟨a, vs, k, j, rfl, rfl, e1, by rw [e2.length]; exact hj, ?_⟩
          have rx : Rp z (hid (η ++ liv ι2 m2) H2) x d := Rp.ext st2.vis rx
          have hal : a ∈ liv ι2 m2 := liv_mem q3 hm2 rfl
          obtain ⟨st3, k3⟩ := k2.write (ho := .lst (vs.set j x)) (u := .lst (xs.set j d)) hm2 q3 rfl rfl ⟨_, upd_same, e2.set rx j⟩
          exact h2 _ ι2 st3 k3 _ (ok.step ((st1.trans st2).trans st3) k3)
        · exact h2.elim
      · exact h2.elim
    · exact h.elim
/-- a list of one's own is from now on data -/
def sFrz (i : Nat) (s : SemS) : SemS := fun ρ m => match ρ[i]? with
  | some (some (.p l)) => (match m[l]? with
    | some (.lst xs) => s (ρ.set i (some (.d (.lst xs)))) (m.set l .dead)
    | _ => .no)
  | _ => .no
theorem liv_dead : ∀ {ι : List Addr} {m : Mem} {l : Nat} {b : Addr}, b ∈ liv ι (m.set l .dead) → b ∈ liv ι m
  | [], _, _, _, h => by simp [liv] at h
  | _ :: _, [], _, _, h => by simp [liv] at h
  | a :: ι, o :: m, 0, b, h => by
    rw [List.set_cons_zero] at h
    unfold liv at h ⊢
    have h : b ∈ liv ι m := h
    split
    · exact List.mem_cons_of_mem _ h
    · exact h
  | a :: ι, o :: m, l + 1, b, h => by
    rw [List.set_cons_succ] at h
    unfold liv at h ⊢
    split at h
    · rename_i ho
      rw [if_pos ho]
      rcases List.mem_cons.mp h with h | h
      · rw [h]; exact List.mem_cons_self
      · exact List.mem_cons_of_mem _ (liv_dead h)
    · rename_i ho
      rw [if_neg ho]
      exact liv_dead h
theorem css_frz (i : Nat) (h : CSs z W X body s1) : CSs z W X body (sFrz i s1) :=
  pss_mono h fun D σ H ⟨η, ι, ρ, m, ok, h⟩ => by
    unfold sFrz at h
    split at h
    · rename_i l hl
      split at h
      · rename_i xs hm
        obtain ⟨x, q1, a, q2, rfl⟩ := ok.slot i _ hl
        obtain ⟨vs, e1, e2⟩ := ok.mem.obj l _ a hm q2
        have ex : Ext (hid (η ++ liv ι m) H) (hid (η ++ liv ι (m.set l .dead)) H) := fun b o e => by
          obtain ⟨n, e⟩ := hid_some.mp e
          refine hid_some.mpr ⟨fun q => n ?_, e⟩
          rcases List.mem_append.mp q with q | q
          · exact List.mem_append_left _ q
          · exact List.mem_append_right _ (liv_dead q)
        have st : Stp ι m H ι (m.set l .dead) H := ⟨⟨[], by simp⟩, fun b o n e => ⟨e, fun q => n (liv_dead q)⟩⟩
        have nal : a ∉ liv ι (m.set l .dead) := fun q => by
          obtain ⟨l', o', h1, h2, h3⟩ := mem_liv q
          have : l' = l := by
            obtain ⟨q1, q2'⟩ := List.getElem?_eq_some_iff.mp h1
            obtain ⟨q3, q4⟩ := List.getElem?_eq_some_iff.mp q2
            exact (List.getElem_inj ok.mem.nd).mp (q2'.trans q4.symm)
          subst this
          rw [List.getElem?_set_self (List.getElem?_eq_some_iff.mp hm).1] at h2
          cases h2; cases h3
        have k : MOk z η ι (m.set l .dead) H := by
          refine ⟨by rw [List.length_set]; exact ok.mem.len, ok.mem.nd, ok.mem.dj, ok.mem.ex, fun l' o' a' h1 h2 => ?_⟩
          by_cases hll : l' = l
          · subst hll
            rw [List.getElem?_set_self (List.getElem?_eq_some_iff.mp hm).1] at h1
            cases h1; trivial
          · rw [List.getElem?_set_ne (Ne.symm hll)] at h1
            have q := ok.mem.obj l' o' a' h1 h2
            cases o' with
            | lst xs => obtain ⟨vs, e3, e4⟩ := q; exact ⟨vs, e3, e4.ext ex⟩
            | ins c gs => obtain ⟨dx, fs, e3, e4⟩ := q; exact ⟨dx, fs, e3, e4.ext ex⟩
            | dead => trivial
            | dct kvs => obtain ⟨xs, ep, e3, e4⟩ := q; exact ⟨xs, ep, e3, e4.ext ex⟩
            | tab n y => exact q
        have hvis : hid (η ++ liv ι (m.set l .dead)) H a = some (.lst vs) := hid_some.mpr ⟨fun q => by
          rcases List.mem_append.mp q with q | q
          · exact ok.mem.dj a (List.mem_of_getElem? q2) q
          · exact nal q, e1⟩
        have s' := (ok.step st k).set (i := i) (v := .d (.lst xs)) (x := .ref a) (Rp.lst hvis (e2.ext ex))
        have hσ : σ.set i (some (.ref a)) = σ := by
          apply List.ext_getElem?
          intro j
          by_cases hj : j = i
          · subst hj
            rw [List.getElem?_set_self (List.getElem?_eq_some_iff.mp q1).1, q1]
          · rw [List.getElem?_set_ne (Ne.symm hj)]
        rw [hσ] at s'
        exact ⟨η, ι, _, _, s', Post.back st h⟩
      · exact h.elim
    · exact h.elim

/-! ### loops -/
def forGo (T : Tg) (b : SemS) : List D → SemS
  | [], ρ, m => .ok (.nx ρ) m
  | x :: xs, ρ, m => match T.g x ρ with
    | none => .no
    | some ρ1 => (b ρ1 m).bind fun c m1 => match c with
      | .nx ρ2 => forGo T b xs ρ2 m1
      | .rt v => .ok (.rt v) m1
def sFor (T : Tg) (si : SemI) (b : SemS) : SemS := fun ρ m => (si ρ m).bind fun xs m1 => forGo T b xs ρ m1
theorem cs_for {iter : Expr} {T : Tg} {si : SemI} (g : Gc z W X) (hi : CI z W X tg iter si) (hg : PG X tg (T.t X.K)) (hb : CSs z W X body s1) (hs : ∀ x, foldedSetIterable iter X.env x = pure x := by intro _; rfl) :
    CS z W X (.For tg iter body [] pos) (sFor T si s1) := by
  rw [g.hK] at hg
  refine ps_mono (ps_for g.po g.calm hi hg hb hs) fun D σ H ⟨η, ι, ρ, m, ok, h⟩ => ?_
  refine ⟨η, ι, ρ, m, ok, Post.mono (fun ι1 m1 H1 xs st1 k1 h1 J wk => ?_) (Post.bind h)⟩
  refine ⟨fun i n σ H => ∃ ιc mc ρc, n = xs.length - i ∧ i ≤ xs.length ∧ SOk z η ιc mc ρc σ H ∧ Stp ι1 m1 H1 ιc mc H ∧ Post z W η ιc mc H (CtP z η D) (forGo T s1 (xs.drop i) ρc mc),
    ⟨xs.length, ι1, m1, ρ, rfl, Nat.zero_le _, ok.step st1 k1, Stp.refl, h1⟩, ?_⟩
  rintro i n σ H ⟨ιc, mc, ρc, rfl, hi, sc, stc, pc⟩
  by_cases hlt : i < xs.length
  · refine .inr ⟨wk.go _ _ i stc.vis hlt, fun σ' H' => ∃ n', n' < xs.length - i ∧ ∃ ιc mc ρc, n' = xs.length - (i + 1) ∧ i + 1 ≤ xs.length ∧ SOk z η ιc mc ρc σ' H' ∧ Stp ι1 m1 H1 ιc mc H' ∧ Post z W η ιc mc H' (CtP z η D) (forGo T s1 (xs.drop (i + 1)) ρc mc),
      fun σ' H' q => q, fun x H' y => ?_⟩
    obtain ⟨eg, rx⟩ := wk.yl _ _ i x H' xs[i] stc.vis sc.mem.hx y (List.getElem?_eq_getElem hlt)
    obtain ⟨stg, kg⟩ := Stp.grow sc.mem eg
    have hd : xs.drop i = xs[i] :: xs.drop (i + 1) := by rw [List.drop_eq_getElem_cons hlt]
    rw [hd] at pc
    unfold forGo at pc
    cases hg : T.g xs[i] ρc with
    | none => rw [hg] at pc; exact pc.elim
    | some ρ1 =>
      rw [hg] at pc
      dsimp only at pc
      refine tg_ok (sc.step stg kg) rx hg fun σ' s' _ => ?_
      refine ⟨η, ιc, ρ1, mc, s', Post.mono (fun ι3 m3 H3 c st3 k3 h3 => ?_) (Post.bind (Post.back stg pc))⟩
      cases c with
      | nx ρ2 => exact fun σ2 s2 => ⟨_, by omega, ι3, m3, ρ2, rfl, hlt, s2, (stc.trans stg).trans st3, h3⟩
      | rt v => exact fun x rx => h3 H3 ι3 Stp.refl k3 x rx
  · have hl : i = xs.length := by omega
    subst hl
    refine .inl ⟨wk.stop _ _ stc.vis, ?_⟩
    rw [List.drop_length] at pc
    exact pc H ιc Stp.refl sc.mem σ sc
def whGo (t : SemT) (b : SemS) : Nat → SemS
  | 0, _, _ => .no
  | n + 1, ρ, m => (t ρ m).bind fun k m1 => if k then ((b ρ m1).bind fun c m2 => match c with
      | .nx ρ2 => whGo t b n ρ2 m2
      | .rt v => .ok (.rt v) m2)
    else .ok (.nx ρ) m1
def sWhile (fuel : Env → Mem → Nat) (t : SemT) (b : SemS) : SemS := fun ρ m => whGo t b (fuel ρ m) ρ m
theorem cs_while (fuel : Env → Mem → Nat) (g : Gc z W X) (hc : CT z W X c t) (hb : CSs z W X body s1) : CS z W X (.While c body [] pos) (sWhile fuel t s1) := by
  refine ps_mono (ps_while g.po hc hb) fun D σ H ⟨η, ι, ρ, m, ok, h⟩ => ?_
  refine ⟨fun n σ H => ∃ ιc mc ρc, SOk z η ιc mc ρc σ H ∧ Post z W η ιc mc H (CtP z η D) (whGo t s1 n ρc mc), ⟨fuel ρ m, ι, m, ρ, ok, h⟩, ?_⟩
  rintro n σ H ⟨ιc, mc, ρc, sc, pc⟩
  cases n with
  | zero => exact pc.elim
  | succ n =>
    unfold whGo at pc
    refine ⟨η, ιc, ρc, mc, sc, Post.mono (fun ι1 m1 H1 k st1 k1 h1 => ?_) (Post.bind pc)⟩
    cases k with
    | false =>
      rw [if_neg Bool.false_ne_true] at h1 ⊢
      exact h1 H1 ι1 Stp.refl k1 _ (sc.step st1 k1)
    | true =>
      rw [if_pos rfl] at h1 ⊢
      refine ⟨fun σ' H' => ∃ ιc mc ρc, SOk z η ιc mc ρc σ' H' ∧ Post z W η ιc mc H' (CtP z η D) (whGo t s1 n ρc mc), fun σ' H' q => ⟨n, Nat.lt_succ_self n, q⟩, ?_⟩
      refine ⟨η, ι1, ρc, m1, sc.step st1 k1, Post.mono (fun ι2 m2 H2 c st2 k2 h2 => ?_) (Post.bind h1)⟩
      cases c with
      | nx ρ2 => exact fun σ2 s2 => ⟨ι2, m2, ρ2, s2, h2⟩
      | rt v => exact fun x rx => h2 H2 ι2 Stp.refl k2 x rx
end

/-! ### defs -/
abbrev Fn := List Vl → Mem → R Vl
/-- what is handed back; a list of one's own becomes data -/
def exitR (k : Nat) : Vl → Mem → R Vl
  | .d x, m => .ok (.d x) (m.take k)
  | .p l, m => if l < k then .ok (.p l) (m.take k) else match m[l]? with
    | some (.lst xs) => .ok (.d (.lst xs)) (m.take k)
    | some (.ins c fs) => .ok (.d (.ins c fs)) (m.take k)
    | _ => .no
/-- .. or stays one's own -/
def exitK (k : Nat) : Vl → Mem → R Vl
  | .d x, m => .ok (.d x) (m.take k)
  | .p l, m => if l < k then .ok (.p l) (m.take k) else match m[l]? with
    | some (.lst xs) => .ok (.p k) (m.take k ++ [.lst xs])
    | some (.ins c fs) => .ok (.p k) (m.take k ++ [.ins c fs])
    | _ => .no
def exitB (b : Bool) (k : Nat) (v : Vl) (m : Mem) : R Vl := if b then exitK k v m else exitR k v m
def runDef (b : Bool) (n : Nat) (s : SemS) : Fn := fun args m => match s (args.map some ++ List.replicate (n - args.length) none) m with
  | .ok (.nx _) m' => exitB b m.length (.d .non) m'
  | .ok (.rt v) m' => exitB b m.length v m'
  | .er e m' => .er e (m'.take m.length)
  | .no => .no
def spG (z : Z) (ar : Nat) (G : Fn) : Sp := fun vs H Q E => ∃ η ι m args, MOk z η ι m H ∧ RVL z ι (hid (η ++ liv ι m) H) vs args ∧ args.length = ar ∧ match G args m with
  | .ok v m' => ∀ x H' ι', Stp ι m H ι' m' H' → MOk z η ι' m' H' → RV z ι' (hid (η ++ liv ι' m') H') x v → Q x H'
  | .er e m' => ∀ d H' ι', Stp ι m H ι' m' H' → MOk z η ι' m' H' → EOk z (hid (η ++ liv ι' m') H') H' e d → E (.ref (z.fa e.c)) d H'
  | .no => False
theorem RVL.length {z : Z} {ι : List Addr} {Hh : Hp} : ∀ {xs : List V} {vs : List Vl}, RVL z ι Hh xs vs → xs.length = vs.length
  | _, _, .nil => rfl
  | _, _, .cons _ r => by simp [RVL.length r]
theorem RVL.get {z : Z} {ι : List Addr} {Hh : Hp} : ∀ {xs : List V} {vs : List Vl} {i : Nat} {v : Vl}, RVL z ι Hh xs vs → vs[i]? = some v → ∃ x, xs[i]? = some x ∧ RV z ι Hh x v
  | _, _, _, _, .nil, h => by simp at h
  | _, _, 0, _, .cons h _, e => by simp at e; subst e; exact ⟨_, by simp, h⟩
  | _, _, i + 1, x, .cons _ r, e => by
    obtain ⟨y, h1, h2⟩ := RVL.get (i := i) r (by simpa using e)
    exact ⟨y, by simpa using h1, h2⟩
theorem liv_take : ∀ {ι τ : List Addr} {m : Mem} {b : Addr}, b ∈ liv ι (m.take ι.length) → b ∈ liv (ι ++ τ) m
  | [], _, _, _, h => by simp [liv] at h
  | _ :: _, _, [], _, h => by simp [liv] at h
  | a :: ι, τ, o :: m, b, h => by
    rw [List.length_cons, List.take_succ_cons] at h
    rw [List.cons_append]
    unfold liv at h ⊢
    split at h
    · rename_i ho
      rw [if_pos ho]
      rcases List.mem_cons.mp h with h | h
      · rw [h]; exact List.mem_cons_self
      · exact List.mem_cons_of_mem _ (liv_take h)
    · rename_i ho
      rw [if_neg ho]
      exact liv_take h
/-- the def's own objects are let go -/
theorem MOk.leave {z : Z} {η ι τ : List Addr} {m m' : Mem} {H H' : Hp} (k0 : MOk z η ι m H) (st : Stp ι m H (ι ++ τ) m' H') (k : MOk z η (ι ++ τ) m' H') :
    Stp ι m H ι (m'.take m.length) H' ∧ MOk z η ι (m'.take m.length) H' ∧ Ext (hid (η ++ liv (ι ++ τ) m') H') (hid (η ++ liv ι (m'.take m.length)) H') := by
  rw [← k0.len]
  have hle : ι.length ≤ m'.length := by rw [← k.len, List.length_append]; omega
  have ex : Ext (hid (η ++ liv (ι ++ τ) m') H') (hid (η ++ liv ι (m'.take ι.length)) H') := fun b o e => by
    obtain ⟨n, e⟩ := hid_some.mp e
    refine hid_some.mpr ⟨fun q => n ?_, e⟩
    rcases List.mem_append.mp q with q | q
    · exact List.mem_append_left _ q
    · exact List.mem_append_right _ (liv_take q)
  refine ⟨⟨⟨[], by simp⟩, fun b o n e => ?_⟩, ⟨by rw [List.length_take]; omega, k0.nd, k0.dj, fun a h => k.ex a (h.imp id (List.mem_append_left _)), fun l o a h1 h2 => ?_⟩, ex⟩
  · obtain ⟨e1, n1⟩ := st.fr b o n e
    exact ⟨e1, fun q => n1 (liv_take q)⟩
  · have hl : l < ι.length := (List.getElem?_eq_some_iff.mp h2).1
    rw [List.getElem?_take_of_lt hl] at h1
    have q := k.obj l o a h1 (by rw [List.getElem?_append_left hl]; exact h2)
    cases o with
    | lst xs => obtain ⟨vs, e3, e4⟩ := q; exact ⟨vs, e3, e4.ext ex⟩
    | ins c gs => obtain ⟨dx, fs, e3, e4⟩ := q; exact ⟨dx, fs, e3, e4.ext ex⟩
    | dead => trivial
    | dct kvs => obtain ⟨xs, ep, e3, e4⟩ := q; exact ⟨xs, ep, e3, e4.ext ex⟩
    | tab n y => exact q
theorem exit_ok {z : Z} {η ι τ : List Addr} {m m' mo : Mem} {H H' : Hp} {v w : Vl} {x : V} (k0 : MOk z η ι m H) (st : Stp ι m H (ι ++ τ) m' H') (k : MOk z η (ι ++ τ) m' H') (r : RV z (ι ++ τ) (hid (η ++ liv (ι ++ τ) m') H') x v) (e : exitR m.length v m' = .ok w mo) :
    mo = m'.take m.length ∧ RV z ι (hid (η ++ liv ι (m'.take m.length)) H') x w := by
  obtain ⟨s1, k1, ex⟩ := k0.leave st k
  cases v with
  | d d =>
    cases e
    exact ⟨rfl, Rp.ext ex r⟩
  | p l =>
    unfold exitR at e
    dsimp only at e
    obtain ⟨a, h1, rfl⟩ := r
    split at e
    · rename_i hl
      cases e
      refine ⟨rfl, a, ?_, rfl⟩
      rw [List.getElem?_append_left (by rw [k0.len]; exact hl)] at h1
      exact h1
    · rename_i hl
      have hal : a ∉ ι := fun q => by
        obtain ⟨j, hj, e1⟩ := List.getElem_of_mem q
        have h2 : (ι ++ τ)[j]? = some a := by rw [List.getElem?_append_left hj, List.getElem?_eq_getElem hj, e1]
        obtain ⟨q1, q2⟩ := List.getElem?_eq_some_iff.mp h1
        obtain ⟨q3, q4⟩ := List.getElem?_eq_some_iff.mp h2
        have : l = j := (List.getElem_inj k.nd).mp (q2.trans q4.symm)
        have := k0.len
        omega
      have vis : ∀ {o : HO}, H' a = some o → hid (η ++ liv ι (m'.take m.length)) H' a = some o := fun {o} e1 => hid_some.mpr ⟨fun q => by
        rcases List.mem_append.mp q with q | q
        · exact k.dj a (List.mem_of_getElem? h1) q
        · exact hal (liv_sub q), e1⟩
      split at e
      · rename_i xs hm
        cases e
        obtain ⟨vs, e1, e2⟩ := k.obj l _ a hm h1
        exact ⟨rfl, Rp.lst (vis e1) (e2.ext ex)⟩
      · rename_i c fs hm
        cases e
        obtain ⟨dx, vs, e1, e2⟩ := k.obj l _ a hm h1
        exact ⟨rfl, Rp.ins (vis e1) (e2.ext ex)⟩
      · cases e
theorem exitK_ok {z : Z} {η ι τ : List Addr} {m m' mo : Mem} {H H' : Hp} {v w : Vl} {x : V} (k0 : MOk z η ι m H) (st : Stp ι m H (ι ++ τ) m' H') (k : MOk z η (ι ++ τ) m' H') (r : RV z (ι ++ τ) (hid (η ++ liv (ι ++ τ) m') H') x v) (e : exitK m.length v m' = .ok w mo) :
    ∃ ι', Stp ι m H ι' mo H' ∧ MOk z η ι' mo H' ∧ RV z ι' (hid (η ++ liv ι' mo) H') x w := by
  obtain ⟨s1, k1, ex⟩ := k0.leave st k
  cases v with
  | d d =>
    cases e
    exact ⟨ι, s1, k1, Rp.ext ex r⟩
  | p l =>
    unfold exitK at e
    dsimp only at e
    obtain ⟨a, h1, rfl⟩ := r
    split at e
    · rename_i hl
      cases e
      refine ⟨ι, s1, k1, a, ?_, rfl⟩
      rw [List.getElem?_append_left (by rw [k0.len]; exact hl)] at h1
      exact h1
    · rename_i hl
      have hal : a ∉ ι := fun q => by
        obtain ⟨j, hj, e1⟩ := List.getElem_of_mem q
        have h2 : (ι ++ τ)[j]? = some a := by rw [List.getElem?_append_left hj, List.getElem?_eq_getElem hj, e1]
        obtain ⟨q1, q2⟩ := List.getElem?_eq_some_iff.mp h1
        obtain ⟨q3, q4⟩ := List.getElem?_eq_some_iff.mp h2
        have : l = j := (List.getElem_inj k.nd).mp (q2.trans q4.symm)
        have := k0.len
        omega
      have hlen : ι.length = (m'.take m.length).length := k1.len
      have fin : ∀ o : O, m'[l]? = some o → o.live = true → ∃ ι', Stp ι m H ι' (m'.take m.length ++ [o]) H' ∧ MOk z η ι' (m'.take m.length ++ [o]) H' ∧ RV z ι' (hid (η ++ liv ι' (m'.take m.length ++ [o])) H') (.ref a) (.p m.length) := fun o hm ho => by
        have hlv : liv (ι ++ [a]) (m'.take m.length ++ [o]) = liv ι (m'.take m.length) ++ [a] := liv_append hlen ho
        have hav : a ∈ liv (ι ++ τ) m' := liv_mem h1 hm ho
        have ex2 : Ext (hid (η ++ liv (ι ++ τ) m') H') (hid (η ++ liv (ι ++ [a]) (m'.take m.length ++ [o])) H') := fun b u e => by
          obtain ⟨n, e⟩ := hid_some.mp e
          refine hid_some.mpr ⟨fun q => n ?_, e⟩
          rw [hlv] at q
          rcases List.mem_append.mp q with q | q
          · exact List.mem_append_left _ q
          · rcases List.mem_append.mp q with q | q
            · rw [← k0.len] at q
              exact List.mem_append_right _ (liv_take q)
            · have : b = a := by simpa using q
              rw [this]; exact List.mem_append_right _ hav
        refine ⟨ι ++ [a], ⟨⟨[a], rfl⟩, fun b u n e => ?_⟩, ⟨?_, ?_, ?_, ?_, ?_⟩, a, ?_, rfl⟩
        · obtain ⟨e1, n1⟩ := st.fr b u n e
          refine ⟨e1, fun q => ?_⟩
          rw [hlv] at q
          rcases List.mem_append.mp q with q | q
          · rw [← k0.len] at q
            exact n1 (liv_take q)
          · have : b = a := by simpa using q
            rw [this] at n1; exact n1 hav
        · rw [List.length_append, List.length_append, hlen]; rfl
        · rw [List.nodup_append]
          refine ⟨k0.nd, by simp, fun c h b hb => ?_⟩
          have : b = a := by simpa using hb
          rw [this]; exact fun q => hal (q ▸ h)
        · intro c h
          rcases List.mem_append.mp h with h | h
          · exact k0.dj c h
          · have : c = a := by simpa using h
            rw [this]; exact k.dj a (List.mem_of_getElem? h1)
        · intro c h
          rcases h with h | h
          · exact k.ex c (.inl h)
          · rcases List.mem_append.mp h with h | h
            · exact k.ex c (.inr (List.mem_append_left _ h))
            · have : c = a := by simpa using h
              rw [this]; exact k.ex a (.inr (List.mem_of_getElem? h1))
        · intro j o' c e1 e2
          have go : OOk z (hid (η ++ liv (ι ++ τ) m') H') H' c o' → OOk z (hid (η ++ liv (ι ++ [a]) (m'.take m.length ++ [o])) H') H' c o' := fun q => by
            cases o' with
            | lst xs => obtain ⟨vs, e3, e4⟩ := q; exact ⟨vs, e3, e4.ext ex2⟩
            | ins c gs => obtain ⟨dx, fs, e3, e4⟩ := q; exact ⟨dx, fs, e3, e4.ext ex2⟩
            | dead => trivial
            | dct kvs => obtain ⟨xs, ep, e3, e4⟩ := q; exact ⟨xs, ep, e3, e4.ext ex2⟩
            | tab n y => exact q
          refine go ?_
          by_cases hj : j < ι.length
          · rw [List.getElem?_append_left hj] at e2
            rw [List.getElem?_append_left (by rw [← hlen]; exact hj), List.getElem?_take_of_lt (by rw [← k0.len]; exact hj)] at e1
            exact k.obj j o' c e1 (by rw [List.getElem?_append_left hj]; exact e2)
          · have hge : ι.length ≤ j := Nat.le_of_not_lt hj
            rw [List.getElem?_append_right hge] at e2
            rw [List.getElem?_append_right (by rw [← hlen]; exact hge), ← hlen] at e1
            have hl0 : j - ι.length = 0 := by
              cases q : j - ι.length with
              | zero => rfl
              | succ n => rw [q] at e2; simp at e2
            rw [hl0] at e1 e2
            simp only [List.getElem?_cons_zero, Option.some.injEq] at e1 e2
            subst e1 e2
            exact k.obj l o a hm h1
        · rw [List.getElem?_append_right (by rw [k0.len]; exact Nat.le_refl _), k0.len, Nat.sub_self]
          rfl
      split at e
      · rename_i xs hm
        cases e
        exact fin _ hm rfl
      · rename_i c fs hm
        cases e
        exact fin _ hm rfl
      · cases e
theorem exitB_ok {z : Z} {η ι τ : List Addr} {m m' mo : Mem} {H H' : Hp} {v w : Vl} {x : V} {b : Bool} (k0 : MOk z η ι m H) (st : Stp ι m H (ι ++ τ) m' H') (k : MOk z η (ι ++ τ) m' H') (r : RV z (ι ++ τ) (hid (η ++ liv (ι ++ τ) m') H') x v) (e : exitB b m.length v m' = .ok w mo) :
    ∃ ι', Stp ι m H ι' mo H' ∧ MOk z η ι' mo H' ∧ RV z ι' (hid (η ++ liv ι' mo) H') x w := by
  cases b with
  | true => exact exitK_ok k0 st k r e
  | false =>
    obtain ⟨s1, k1, ex⟩ := k0.leave st k
    obtain ⟨rfl, r'⟩ := exit_ok k0 st k r e
    exact ⟨ι, s1, k1, r'⟩
theorem exitB_er {b : Bool} {k : Nat} {v : Vl} {m m2 : Mem} {e : Exn} (h : exitB b k v m = .er e m2) : False := by
  unfold exitB at h
  cases v with
  | d d => cases b <;> cases h
  | p l =>
    cases b with
    | true =>
      rw [if_pos rfl] at h
      unfold exitK at h
      dsimp only at h
      split at h
      · cases h
      · split at h <;> cases h
    | false =>
      rw [if_neg Bool.false_ne_true] at h
      unfold exitR at h
      dsimp only at h
      split at h
      · cases h
      · split at h <;> cases h
section
variable {P : Program} {w : World} {K : PySem.W.Frag} {mg : Str → Option Value} {base : Heap} {z : Z}
theorem def_ok' {x qual : Str} {st : Stmt} {f : Addr} {fd : FuncData} {N ps : List Str} {k ar : Nat} {G : Fn} (F : L2.Fun K x qual st f fd) (S : FnScope N ps (defScope st)) (hK : K = z.K) (har : ps.length = ar) (b : Bool) (sem : SemS)
    (hG : ∀ args m, args.length = ar → G args m = .no ∨ runDef b N.length sem args m = G args m)
    (hbody : ∀ (cdv : Value), fd.code = cdv → ∀ (A : Around) (outer : List PySem.Env) (s : Shared) (H : Hp) (E : XK), Room k (A.deeper (envOfC qual (defScope st) s.heap.objs.size f cdv)) →
      Gc z E (cxOf (L2N.CX z.P z.w) z.P z.w K mg base N qual (defScope st) f cdv A outer s H E) → CSs z E (cxOf (L2N.CX z.P z.w) z.P z.w K mg base N qual (defScope st) f cdv A outer s H E) (defBody st) sem) :
    FnOk z.P z.w K mg base (L2N.CX z.P z.w) (k + 1) f fd ps (spG z ar G) := by
  obtain ⟨oc, od, kV, doc, pm, an, cdv, ct, osl, rfl, lk, hcd⟩ := F.ex
  refine fn_of lk hcd S (fun vs H Q E h => ?_) (fun A outer s H vs Q E hr h => ?_)
  · obtain ⟨η, ι, m, args, _, r, hl, _⟩ := h
    rw [r.length, hl, har]
  · have gc : Gc z E (cxOf (L2N.CX z.P z.w) z.P z.w K mg base N qual (defScope st) f cdv A outer s H E) :=
      ⟨hK, ⟨rfl, rfl⟩, rfl, S.nd, L2N.takes_of rfl rfl rfl rfl, passes_of rfl, by have := hr.un; show (A.deeper _).units + 200 < cLine; omega⟩
    refine ⟨_, hbody cdv rfl A outer s H E hr gc, ?_⟩
    obtain ⟨η, ι, m, args, k0, r, hl, h⟩ := h
    have hvl : vs.length = args.length := r.length
    have s0 : SOk z η ι m (args.map some ++ List.replicate (N.length - args.length) none) (L2.start N vs) H := by
      refine ⟨k0, by simp [L2.start, hvl], fun i v e => ?_⟩
      by_cases hi : i < args.length
      · rw [List.getElem?_append_left (by simpa using hi), List.getElem?_map] at e
        obtain ⟨v', e1, e2⟩ := Option.map_eq_some_iff.mp e
        cases e2
        obtain ⟨x', e3, e4⟩ := r.get e1
        refine ⟨x', ?_, e4⟩
        unfold L2.start
        rw [List.getElem?_append_left (by rw [List.length_map, hvl]; exact hi), List.getElem?_map, e3]
        rfl
      · rw [List.getElem?_append_right (by simpa using hi), List.getElem?_replicate] at e
        split at e <;> cases e
    refine ⟨η, ι, _, m, s0, ?_⟩
    rcases hG args m hl with q | q
    · rw [q] at h; exact h.elim
    · rw [← q] at h
      unfold runDef at h
      cases hs : sem (args.map some ++ List.replicate (N.length - args.length) none) m with
      | no => rw [hs] at h; exact h
      | er ex m' =>
        rw [hs] at h
        intro d H' ι' st' k' he
        obtain ⟨τ, rfl⟩ := st'.pre
        obtain ⟨s1, k1, ex1⟩ := k0.leave st' k'
        refine h d H' ι s1 k1 ?_
        unfold EOk at he ⊢
        split
        · rename_i e0; rw [e0] at he; exact he
        · rename_i y e0
          rw [e0] at he
          obtain ⟨p, v, h1, h2, h3⟩ := he
          exact ⟨p, v, h1, h2, h3.ext ex1⟩
      | ok c m' =>
        rw [hs] at h
        intro H' ι' st' k'
        obtain ⟨τ, rfl⟩ := st'.pre
        obtain ⟨s1, k1, ex1⟩ := k0.leave st' k'
        cases c with
        | nx ρ' =>
          intro σ' s'
          dsimp only at h
          have hx : exitB b m.length (.d .non) m' = .ok (.d .non) (m'.take m.length) := by cases b <;> rfl
          rw [hx] at h
          exact h .non H' ι s1 k1 .non
        | rt v =>
          intro x rx
          dsimp only at h
          cases hx : exitB b m.length v m' with
          | no => rw [hx] at h; exact h.elim
          | er e2 m2 => exact (exitB_er hx).elim
          | ok w' mo =>
            rw [hx] at h
            obtain ⟨ι2, s2, k2, r'⟩ := exitB_ok k0 st' k' rx hx
            exact h x H' ι2 s2 k2 r'
theorem def_ok {x qual : Str} {st : Stmt} {f : Addr} {fd : FuncData} {N ps : List Str} {k ar : Nat} {G : Fn} (F : L2.Fun K x qual st f fd) (S : FnScope N ps (defScope st)) (hK : K = z.K) (har : ps.length = ar) (b : Bool) (sem : SemS)
    (hG : ∀ args m, args.length = ar → G args m = .no ∨ runDef b N.length sem args m = G args m)
    (hbody : ∀ (cdv : Value) (A : Around) (outer : List PySem.Env) (s : Shared) (H : Hp) (E : XK), Room k (A.deeper (envOfC qual (defScope st) s.heap.objs.size f cdv)) →
      Gc z E (cxOf (L2N.CX z.P z.w) z.P z.w K mg base N qual (defScope st) f cdv A outer s H E) → CSs z E (cxOf (L2N.CX z.P z.w) z.P z.w K mg base N qual (defScope st) f cdv A outer s H E) (defBody st) sem) :
    FnOk z.P z.w K mg base (L2N.CX z.P z.w) (k + 1) f fd ps (spG z ar G) := def_ok' F S hK har b sem hG fun cdv _ => hbody cdv
/-- the def number n, called x, does what G says -/
structure Df (P : Program) (w : World) (K : PySem.W.Frag) (mg : Str → Option Value) (base : Heap) (z : Z) (n : Nat) (x : Str) (k ar : Nat) (G : Fn) : Prop where
  ex : ∃ fd ps, FnOk P w K mg base (L2N.CX P w) k (z.fa n) fd ps (spG z ar G) ∧ Binds K fd ps []
  mg : mg x = some (.ref (z.fa n))
  kp : PySem.W.keepIn K (.ref (z.fa n)) = true
end
section
variable {X : Cx} {z : Z} {W : XK} {a b c e : Expr} {es : List Expr} {r : SemA} {pos : Pos}
def sCall (ar : Nat) (G : Fn) (r : SemA) : Sem := fun ρ m => (r ρ m).bind fun vs m1 => if vs.length = ar then G vs m1 else .no
theorem call_of {ar : Nat} {G : Fn} {σ : L2.St} {H : Hp} {Q : VK} (h : tE z W (sCall ar G r) σ H Q) : tCall (spG z ar G) [] W (tA z W r) σ H Q := by
  obtain ⟨η, ι, ρ, m, ok, h⟩ := h
  refine ⟨η, ι, ρ, m, ok, Post.mono (fun ι1 m1 H1 vs st1 k1 h1 xs rxs => ?_) (Post.bind h)⟩
  show spG z ar G (xs ++ []) H1 Q W
  rw [List.append_nil]
  split at h1
  · rename_i hl
    refine ⟨η, ι1, m1, vs, k1, rxs, hl, ?_⟩
    cases hG : G vs m1 with
    | no => rw [hG] at h1; exact h1
    | er e m' => rw [hG] at h1; exact fun d H' ι' st k he => h1 d H' ι' st k he
    | ok v m' => rw [hG] at h1; exact fun x H' ι' st k rx => h1 H' ι' st k x rx
  · exact h1.elim
theorem c_call {n k k' ar : Nat} {x : Str} {p : Pos} {G : Fn} (F : Df X.prog X.w X.K X.mg X.base z n x k ar G) (g : Gc z W X) (hr : Room k' X.A) (ha : CA z W X (e :: es) r) (hk : k ≤ k' := by decide) (hg : Gl X x := by rfl) (hdb : (x == ("__debug__" : Str)) = false := by decide)
    (he : starEach (e :: es) X.env = (false, eval e X.env) :: starEach es X.env := by rfl) (hpl : (backTo pos (starEach es X.env)).any (·.1) = false := by rfl) : CE z W X (.Call (.Name x p) (e :: es) [] pos) (sCall ar G r) := by
  obtain ⟨fd, ps, F1, F2⟩ := F.ex
  exact pe_mono (pe_call F1 (hr.mono hk) hg F.mg F.kp F2 .nil (L2N.passes_call g.tk fun _ _ _ _ h => h) ha hdb he hpl) fun _ _ _ h => call_of h
theorem c_call0 {n k k' : Nat} {x : Str} {p : Pos} {G : Fn} (F : Df X.prog X.w X.K X.mg X.base z n x k 0 G) (g : Gc z W X) (hr : Room k' X.A) (hk : k ≤ k' := by decide) (hg : Gl X x := by rfl) (hdb : (x == ("__debug__" : Str)) = false := by decide) :
    CE z W X (.Call (.Name x p) [] [] pos) (sCall 0 G aNil) := by
  obtain ⟨fd, ps, F1, F2⟩ := F.ex
  exact pe_mono (pe_call0 F1 (hr.mono hk) hg F.mg F.kp F2 .nil (L2N.passes_call g.tk fun _ _ _ _ h => h) hdb) fun σ H Q h => by
    obtain ⟨η, ι, ρ, m, ok, h⟩ := call_of h
    exact h H ι Stp.refl ok.mem [] .nil
/-- a new list of one's own that e hands back is data at once -/
def sUnown (s : Sem) : Sem := fun ρ m => match s ρ m with
  | .ok v m1 => exitR m.length v m1
  | .er e m1 => .er e m1
  | .no => .no
theorem c_unown {s : Sem} (h : CE z W X e s) : CE z W X e (sUnown s) :=
  pe_mono h fun σ H Q ⟨η, ι, ρ, m, ok, h⟩ => by
    refine ⟨η, ι, ρ, m, ok, ?_⟩
    unfold sUnown at h
    cases q : s ρ m with
    | no => rw [q] at h; exact h
    | er ex m1 => rw [q] at h; exact h
    | ok v m1 =>
      rw [q] at h
      intro H1 ι1 st1 k1 x rx
      obtain ⟨τ, rfl⟩ := st1.pre
      dsimp only at h
      cases hx : exitR m.length v m1 with
      | no => rw [hx] at h; exact h.elim
      | er e2 m2 => exact (exitB_er (b := false) hx).elim
      | ok w' mo =>
        rw [hx] at h
        obtain ⟨s1, k2, ex⟩ := ok.mem.leave st1 k1
        obtain ⟨rfl, r'⟩ := exit_ok ok.mem st1 k1 rx hx
        exact h H1 ι s1 k2 x r'
end
end DL
/-! DLh: more expressions: truth, texts, defs of the text. -/
namespace DL
open PySem PySem.Spec PyProof.Rows L2
section
variable {X : Cx} {z : Z} {W : XK} {a b c e : Expr} {es : List Expr} {sa sb sc s : Sem} {r : SemA} {pos : Pos}
/-- str(x) of a text, a truth, an int -/
def strA : List D → Option D
  | [.int i] => if i.natAbs.log2 < 1920 then some (.str (toString i)) else none
  | [.str x] => some (.str x)
  | [.bl b] => some (.str (if b then "True" else "False"))
  | _ => none
theorem cg_str : CallR X (.type "str") (rC z strA) := by
  rintro pins s σ H xs us Q I rs ⟨L, ds, u, hL, hd, hg, q⟩
  unfold strA at hg
  split at hg
  · split at hg
    · rename_i hz
      cases hd with | cons hd hr => cases hr; cases hd; cases hg; exact call_str_int pins s σ H _ us Q I rs ⟨_, rfl, hz, q _ _ (Ext.refl _) (.str _)⟩
    · cases hg
  · cases hd with | cons hd hr =>
    cases hr; cases hd; cases hg
    obtain ⟨u, rfl, t, rfl⟩ := vals1 rs
    exact PySem.P.str_of_str ⟨.str _, H, I, ⟨_, rfl⟩, q _ _ (Ext.refl _) (.str _)⟩
  · cases hd with | cons hd hr =>
    cases hr; cases hd; cases hg
    obtain ⟨u, rfl, rx⟩ := vals1 rs
    cases rx
    exact PySem.P.str_of_bool ⟨.str _, H, I.tok _, ⟨_, rfl⟩, q _ _ (Ext.refl _) (.str _)⟩
  · cases hg
/-- a value's truth -/
def truD : D → Option Bool
  | .non => some false
  | .bl b => some b
  | .int i => some (i != 0)
  | .str x => if x.length ≤ sizeLine then some ((x.length : Int) != 0) else none
  | .lst xs => some (!xs.isEmpty)
  | .tup xs => some (!xs.isEmpty)
  | _ => none
theorem isE_of {H : Hp} : ∀ {vs : List V} {ds : List D}, RpL z H vs ds → vs.isEmpty = ds.isEmpty
  | _, _, .nil => rfl
  | _, _, .cons _ _ => rfl
theorem tru_of {L : List Addr} {H : Hp} {x : V} {d : D} {k : Bool} (h : Rq z L H x d) (e : truD d = some k) : TruV z.K x H k := by
  cases d with
  | lst ds =>
    obtain ⟨a, vs, rfl, h1, r1⟩ := h
    cases e
    exact .inl ⟨vs, SqL.of h1, by rw [isE_of r1]⟩
  | non => cases h; cases e; rfl
  | bl b => cases h; cases e; rfl
  | int i => cases h; cases e; rfl
  | str x =>
    cases h
    unfold truD at e
    dsimp only at e
    split at e
    · rename_i hz; cases e; exact ⟨hz, rfl⟩
    · cases e
  | tup xs =>
    cases h with | tup h1 r1 =>
    cases e
    exact .inr (.inl ⟨_, ext_sqT hid_ext h1, by rw [isE_of r1]⟩)
  | ins c gs => cases e
  | fn n => cases e
  | scr ns => cases e
  | dct kvs => cases e
def notTD (d : D) : Option D := (truD d).map fun k => .bl (!k)
theorem c_notT (hK : X.K = z.K) (ha : CE z W X a sa) : CE z W X (.UnaryOp .Not a pos) (sUn notTD sa) :=
  pe_mono (pe_notT ha) fun σ H Q ⟨η, ι, ρ, m, ok, h⟩ => by
    refine ⟨η, ι, ρ, m, ok, Post.mono (fun ι1 m1 H1 v st1 k1 h1 x rx => ?_) (Post.bind h)⟩
    split at h1
    · rename_i d ed
      unfold notTD at h1
      cases q : truD d with
      | none => rw [q] at h1; exact h1.elim
      | some k =>
        rw [q] at h1
        exact ⟨k, by rw [hK]; exact tru_of (rq_of k1 rx ed) q, h1 H1 ι1 Stp.refl k1 _ (Rp.bl _)⟩
    · exact h1.elim
/-- a value's truth as a test -/
def sTru (s : Sem) : SemT := fun ρ m => (s ρ m).bind fun v m1 => match (drf m1 v).bind truD with | some b => .ok b m1 | none => .no
theorem ct_truth (hK : X.K = z.K) (h : CE z W X e s) (he : ∀ whole, isTrue e X.env whole = (do let v ← whole; standAt e.pos; holding [v] (truthy v)) := by intro _; rfl) : CT z W X e (sTru s) :=
  pt_mono (pt_truth h he) fun σ H Q ⟨η, ι, ρ, m, ok, h⟩ => by
    refine ⟨η, ι, ρ, m, ok, Post.mono (fun ι1 m1 H1 v st1 k1 h1 x rx => ?_) (Post.bind h)⟩
    split at h1
    · rename_i b eb
      cases ed : drf m1 v with
      | none => rw [ed] at eb; cases eb
      | some d =>
        rw [ed] at eb
        exact ⟨b, by rw [hK]; exact tru_of (rq_of k1 rx ed) eb, h1 H1 ι1 Stp.refl k1⟩
    · exact h1.elim
/-- s.upper() -/
def upD : D → Option D
  | .str x => if x.length ≤ 5592405 then some (.str (Txt.upper x)) else none
  | _ => none
theorem c_upper {apos : Pos} (h : PE X (.Call (.Attribute e "upper" apos) [] [] pos) (tM0 (fun x xs H Q => ∃ a, x = .str a ∧ xs = [] ∧ a.length ≤ 5592405 ∧ Q (.str (Txt.upper a)) H) (tE z W s))) : CE z W X (.Call (.Attribute e "upper" apos) [] [] pos) (sUn upD s) :=
  pe_mono h fun σ H Q ⟨η, ι, ρ, m, ok, h⟩ => by
    refine ⟨η, ι, ρ, m, ok, Post.mono (fun ι1 m1 H1 v st1 k1 h1 x rx => ?_) (Post.bind h)⟩
    split at h1
    · rename_i d ed
      unfold upD at h1
      have rq := rq_of k1 rx ed
      split at h1
      · split at h1
        · rename_i hz
          cases rq
          exact ⟨⟨_, rfl⟩, _, rfl, rfl, hz, h1 H1 ι1 Stp.refl k1 _ (Rp.str _)⟩
        · exact h1.elim
      · exact h1.elim
    · exact h1.elim
/-- xs[::-1], a list of one's own -/
def sRevO (s : Sem) : Sem := fun ρ m => (s ρ m).bind fun v m1 => match drf m1 v with
  | some (.lst xs) => R.own xs.reverse m1
  | _ => .no
theorem c_revO {k : Nat} {p1 p2 p3 : Pos} (ha : CE z W X e s) : CE z W X (.Subscript e (.Slice none none (some (.UnaryOp .USub (.Constant (.int 1) k p1) p2)) p3) pos) (sRevO s) :=
  pe_mono (pe_revL ha) fun σ H Q ⟨η, ι, ρ, m, ok, h⟩ => by
    refine ⟨η, ι, ρ, m, ok, Post.mono (fun ι1 m1 H1 v st1 k1 h1 x rx => ?_) (Post.bind h)⟩
    split at h1
    · rename_i xs q
      obtain ⟨a, vs, rfl, h2, r2⟩ := rq_of k1 rx q
      exact ⟨a, vs, rfl, SqL.of h2, fun p hp => own_ok k1 hp r2.reverse h1⟩
    · exact h1.elim
/-- a def as a value -/
theorem c_fn {x : Str} (n : Nat) (hm : X.mg x = some (.ref (z.fa n))) (hg : Gl X x := by rfl) (hd : (x == ("__debug__" : Str)) = false := by decide) : CE z W X (.Name x pos) (sC (.fn n)) := c_glob hg hm (v := .ref (z.fa n)) rfl (fun _ => .fn n) hd
end
section
variable {X : Cx} {z : Z} {W : XK} {pos : Pos}
theorem c_gint {x : Str} {i : Int} (h : ∃ t, X.mg x = some (.int i t)) (hg : Gl X x := by rfl) (hd : (x == ("__debug__" : Str)) = false := by decide) : CE z W X (.Name x pos) (sC (.int i)) := by
  obtain ⟨t, e⟩ := h
  exact c_glob hg e (v := .int i) ⟨_, rfl⟩ (fun _ => .int i) hd
theorem c_gstr {x : Str} {i : Str} (h : ∃ t, X.mg x = some (.str i t)) (hg : Gl X x := by rfl) (hd : (x == ("__debug__" : Str)) = false := by decide) : CE z W X (.Name x pos) (sC (.str i)) := by
  obtain ⟨t, e⟩ := h
  exact c_glob hg e (v := .str i) ⟨_, rfl⟩ (fun _ => .str i) hd
theorem c_gwords {x : Str} {ws : List Str} (h : ∃ a, X.mg x = some (.ref a) ∧ ∀ H, SqT z.K H a (ws.map V.str)) (hg : Gl X x := by rfl) (hd : (x == ("__debug__" : Str)) = false := by decide) : CE z W X (.Name x pos) (sC (.tup (ws.map .str))) := by
  obtain ⟨a, e, h⟩ := h
  exact c_glob hg e (v := .ref a) rfl (fun Hh => .tup (h Hh) (RpL.strs ws)) hd
theorem pgn (i : Nat) {x : Str} (g : Gc z W X) (hi : X.N[i]? = some x := by rfl) (hx : Loc X.env.scope x := by first | exact Or.inl rfl | exact Or.inr rfl) (hf : X.fn x = true ∨ X.env.scope.names.lookup x = some .local := by first | exact .inl rfl | exact .inr rfl) : PG X (.Name x pos) (gName i) := pg_name g.nd hi hx hf
end
/-- a def of the text as it stands behind the top -/
structure FF (K : PySem.W.Frag) (mg : Str → Option Value) (x : Str) (st : Stmt) (ps : List Str) (f : Addr) : Prop where
  ex : ∃ fd, L2.Fun K x x st f fd ∧ Binds K fd ps []
  mg : mg x = some (.ref f)
theorem FF.mk' {K : PySem.W.Frag} {mg : Str → Option Value} {h : Heap} (X : K.In h) (G : h.Ns mainGlobals mg) {x : Str} {st : Stmt} {ps : List Str} {f : Addr} {oc : Value} {od an : Option Addr} {osl : Array (Option Value)} {kV doc pm cdv ct : Value}
    (a : PySem.W.nsIn K mainGlobals x = some (some (.ref f))) (l : K.lookup f = some ⟨oc, od, .func (PySem.W.fnOf x x (defArgs st) (defBody st) (defScope st) .none kV doc pm an cdv ct), osl⟩) (c : PySem.W.codeIn K cdv x = true) (k : PySem.W.keepIn K (.ref f) = true)
    (hb : ∀ (kV doc pm : Value) (an : Option Addr) (cdv ct : Value) (us : List Value), us.length = ps.length → bindArgs (PySem.W.fnOf x x (defArgs st) (defBody st) (defScope st) .none kV doc pm an cdv ct) ⟨us, []⟩ = pure (ps.zip us)) : FF K mg x st ps f := by
  have F := fun_mk l c k
  exact ⟨⟨_, F, F.binds hb⟩, PySem.W.mg_of X G a⟩
theorem FF.df {P : Program} {w : World} {K : PySem.W.Frag} {mg : Str → Option Value} {base : Heap} {z : Z} {x : Str} {st : Stmt} {ps : List Str} {n k ar : Nat} {G : Fn} (F : FF K mg x st ps (z.fa n))
    (h : ∀ fd, L2.Fun K x x st (z.fa n) fd → FnOk P w K mg base (L2N.CX P w) k (z.fa n) fd ps (spG z ar G)) : Df P w K mg base z n x k ar G := by
  obtain ⟨fd, F1, F2⟩ := F.ex
  exact ⟨⟨fd, ps, h fd F1, F2⟩, F.mg, F1.kp⟩
theorem Df.mono {P : Program} {w : World} {K : PySem.W.Frag} {mg : Str → Option Value} {base : Heap} {z : Z} {x : Str} {n k k' ar : Nat} {G : Fn} (D : Df P w K mg base z n x k ar G) (h : k ≤ k') : Df P w K mg base z n x k' ar G := by
  obtain ⟨fd, ps, F, b⟩ := D.ex
  exact ⟨⟨fd, ps, F.mono h, b⟩, D.mg, D.kp⟩
/-- nothing is promised -/
theorem FF.none {P : Program} {w : World} {K : PySem.W.Frag} {mg : Str → Option Value} {base : Heap} {z : Z} {x : Str} {st : Stmt} {ps : List Str} {n k : Nat} (F : FF K mg x st ps (z.fa n)) : Df P w K mg base z n x k ps.length (fun _ _ => .no) :=
  F.df fun fd F1 => ⟨fun vs H Q E ⟨_, _, _, _, _, _, _, h⟩ => h.elim, fun _ _ _ _ _ _ _ _ _ _ _ _ _ ⟨_, _, _, _, _, _, _, h⟩ => h.elim⟩
/-- the law's promise at the top -/
def spTop (K : PySem.W.Frag) : Sp := fun vs H Q _ => ∃ (a : Addr) (ns : List Int), vs = [.ref a] ∧ SqL K H a (ns.map V.int) ∧ ns.length ≤ 63 ∧ ∀ H', Q (.bl true) H'
theorem top_of {z : Z} {G : Fn} (hG : ∀ ns : List Int, ns.length ≤ 63 → ∃ m, G [.d (.scr ns)] [] = .ok (.d (.bl true)) m) : ∀ vs H Q E, spTop z.K vs H Q E → spG z 1 G vs H Q E := by
  rintro vs H Q E ⟨a, ns, rfl, hS, hl, q⟩
  obtain ⟨m, e⟩ := hG ns hl
  refine ⟨[], [], [], [.d (.scr ns)], ⟨rfl, .nil, fun _ h => by simp at h, fun _ h => by simp at h, fun _ _ _ h _ => by simp at h⟩, .cons (Rp.scr ?_) .nil, rfl, ?_⟩
  · have : hid ([] ++ liv [] []) H = H := by
      funext b
      unfold hid
      rw [if_neg (by simp [liv])]
    rw [this]
    exact hS
  · rw [e]
    intro x H' ι' st k rx
    cases rx
    exact q H'
end DL
/-! DLi: what a plain function comes to, by rules; what is left to do stands closed in a name. -/
namespace DL
open PySem PySem.Spec PyProof.Rows L2
/-- it ends, and so -/
def R.wp {α : Type} (r : R α) (Q : α → Mem → Prop) : Prop := match r with
  | .ok a m => Q a m
  | _ => False
section
variable {α β : Type} {r : R α} {f : α → Mem → R β} {Q Q' : α → Mem → Prop} {P : β → Mem → Prop} {a : α} {m : Mem}
@[simp] theorem wp_ok : (R.ok a m).wp Q = Q a m := rfl
@[simp] theorem wp_er {e : Exn} : (R.er e m : R α).wp Q = False := rfl
@[simp] theorem wp_no : (R.no : R α).wp Q = False := rfl
theorem wp_bind : (r.bind f).wp P = r.wp fun a m => (f a m).wp P := by cases r <;> rfl
@[simp] theorem wp_noEr : r.noEr.wp Q = r.wp Q := by cases r <;> rfl
theorem wp_mono (h : r.wp Q) (k : ∀ a m, Q a m → Q' a m) : r.wp Q' := by
  cases r with
  | ok a m => exact k _ _ h
  | er e m => exact h
  | no => exact h
theorem wp_iff : r.wp Q ↔ ∃ a m, r = .ok a m ∧ Q a m := by
  constructor
  · intro h
    cases r with
    | ok a m => exact ⟨a, m, rfl, h⟩
    | er e m => exact h.elim
    | no => exact h.elim
  · rintro ⟨a, m, rfl, h⟩
    exact h
@[simp] theorem wp_if0 {c : Prop} [Decidable c] {x : R α} : (if c then x else .no).wp Q = (c ∧ x.wp Q) := by
  by_cases h : c <;> simp [h]
end
def datP (o : Option D) (m : Mem) (Q : Vl → Mem → Prop) : Prop := match o with
  | some u => Q (.d u) m
  | none => False
@[simp] theorem datP1 {d : D} {m : Mem} {Q : Vl → Mem → Prop} : datP (some d) m Q = Q (.d d) m := rfl
@[simp] theorem datP0 {m : Mem} {Q : Vl → Mem → Prop} : datP none m Q = False := rfl
@[simp] theorem datPI {c : Prop} [Decidable c] {x : Option D} {m : Mem} {Q : Vl → Mem → Prop} : datP (if c then x else none) m Q = (c ∧ datP x m Q) := by by_cases h : c <;> simp [h]
theorem wp_dat {o : Option D} {m : Mem} {Q : Vl → Mem → Prop} : (R.dat o m).wp Q = datP o m Q := by cases o <;> rfl
section
variable {ρ ρ1 : Env} {m : Mem} {d e : D} {v w : Vl} {i j : Nat} {s sa sb sc se si : Sem} {t u : SemT} {r : SemA} {s1 s2 : SemS} {g g' : D → D → Option D} {gl : List D → Option D} {gu : D → Option D} {o : Option D} {ar k l : Nat} {G : Fn} {xs ys acc : List D} {is : List Nat} {vs : List Vl} {T : Tg} {lo hi : SemO} {it : SemI} {b c : Bool}
variable {Q : Vl → Mem → Prop} {QA : List Vl → Mem → Prop} {QT : Bool → Mem → Prop} {QS : Ct → Mem → Prop} {QO : Option Int → Mem → Prop} {QI : List D → Mem → Prop}
@[simp] theorem e_drf : drf m (.d d) = some d := rfl
@[simp] theorem e_drfp : drf m (.p l) = match m[l]? with
    | some (.lst xs) => some (.lst xs)
    | _ => none := rfl
@[simp] theorem e_drfs0 : drfs m [] = some [] := rfl
@[simp] theorem e_drfs1 : drfs m (v :: vs) = match drf m v, drfs m vs with
    | some d, some ds => some (d :: ds)
    | _, _ => none := rfl
@[simp] theorem e_dats1 : dats (.d d :: vs) = (dats vs).map (d :: ·) := rfl
@[simp] theorem e_dats0 : dats [] = some [] := rfl
@[simp] theorem w_C : (sC d ρ m).wp Q = Q (.d d) m := rfl
@[simp] theorem w_Var : (sVar i ρ m).wp Q = match ρ[i]? with | some (some v) => Q v m | _ => False := by
  unfold sVar; split <;> simp_all
def kBin2 (g : D → D → Option D) (v : Vl) (Q : Vl → Mem → Prop) : Vl → Mem → Prop := fun w m => match drf m v, drf m w with
  | some d, some e => datP (g d e) m Q
  | _, _ => False
@[simp] theorem k_Bin2 : kBin2 g v Q w m = match drf m v, drf m w with
  | some d, some e => datP (g d e) m Q
  | _, _ => False := rfl
def kBin (g : D → D → Option D) (sb : Sem) (ρ : Env) (Q : Vl → Mem → Prop) : Vl → Mem → Prop := fun v m => (sb ρ m).wp (kBin2 g v Q)
@[simp] theorem k_Bin : kBin g sb ρ Q v m = (sb ρ m).wp (kBin2 g v Q) := rfl
@[simp] theorem w_Bin : (sBin g sa sb ρ m).wp Q = (sa ρ m).wp (kBin g sb ρ Q) := by
  unfold sBin kBin
  rw [wp_bind]; congr; funext v m1; rw [wp_bind]; congr; funext w m2
  rw [k_Bin2]
  cases drf m2 v <;> cases drf m2 w <;> simp [wp_dat]
def kTb (Q : Bool → Mem → Prop) : Vl → Mem → Prop := fun v m => match v with | .d (.bl b) => Q b m | _ => False
@[simp] theorem k_Tb : kTb QT (.d (.bl b)) m = QT b m := rfl
@[simp] theorem w_Tb : (sTb s ρ m).wp QT = (s ρ m).wp (kTb QT) := by
  unfold sTb; rw [wp_bind]; congr; funext v m1; unfold kTb; split <;> simp_all
def kTru (Q : Bool → Mem → Prop) : Vl → Mem → Prop := fun v m1 => match (drf m1 v).bind truD with | some b => Q b m1 | none => False
@[simp] theorem k_Tru : kTru QT v m = match (drf m v).bind truD with | some b => QT b m | none => False := rfl
@[simp] theorem w_Tru : (sTru s ρ m).wp QT = (s ρ m).wp (kTru QT) := by
  unfold sTru; rw [wp_bind]; congr; funext v m1; unfold kTru; cases (drf m1 v).bind truD <;> rfl
@[simp] theorem w_Nil : (sNil ρ m).wp QS = QS (.nx ρ) m := rfl
def kSeq (s2 : SemS) (Q : Ct → Mem → Prop) : Ct → Mem → Prop := fun c m => match c with
  | .nx ρ1 => (s2 ρ1 m).wp Q
  | .rt v => Q (.rt v) m
@[simp] theorem k_Seq1 : kSeq s2 QS (.nx ρ) m = (s2 ρ m).wp QS := rfl
@[simp] theorem k_Seq2 : kSeq s2 QS (.rt v) m = QS (.rt v) m := rfl
@[simp] theorem w_Seq : (sSeq s1 s2 ρ m).wp QS = (s1 ρ m).wp (kSeq s2 QS) := by
  unfold sSeq; rw [wp_bind]; congr; funext c m1; unfold kSeq; cases c <;> rfl
def kSet (i : Nat) (ρ : Env) (Q : Ct → Mem → Prop) : Vl → Mem → Prop := fun v m => Q (.nx (ρ.set i (some v))) m
@[simp] theorem k_Set : kSet i ρ QS v m = QS (.nx (ρ.set i (some v))) m := rfl
@[simp] theorem w_Set : (sSet i s ρ m).wp QS = (s ρ m).wp (kSet i ρ QS) := by
  unfold sSet; rw [wp_bind]; rfl
def kSetT (is : List Nat) (ρ : Env) (Q : Ct → Mem → Prop) : Vl → Mem → Prop := fun v m => match v with
  | .d d => (match (Tg.many is).g d ρ with
    | some ρ1 => Q (.nx ρ1) m
    | none => False)
  | _ => False
@[simp] theorem k_SetT : kSetT is ρ QS (.d d) m = match (Tg.many is).g d ρ with
    | some ρ1 => QS (.nx ρ1) m
    | none => False := rfl
@[simp] theorem w_SetT : (sSetT is s ρ m).wp QS = (s ρ m).wp (kSetT is ρ QS) := by
  unfold sSetT; rw [wp_bind]; congr; funext v m1; unfold kSetT
  cases v with
  | d d => dsimp only; split <;> simp_all
  | p l => rfl
def kPar2 (i j : Nat) (ρ : Env) (Q : Ct → Mem → Prop) : List Vl → Mem → Prop := fun vs m => match vs with
  | [v, w] => Q (.nx ((ρ.set i (some v)).set j (some w))) m
  | _ => False
@[simp] theorem k_Par2 {v w : Vl} : kPar2 i j ρ QS [v, w] m = QS (.nx ((ρ.set i (some v)).set j (some w))) m := rfl
@[simp] theorem w_Par2 : (sPar2 i j r ρ m).wp QS = (r ρ m).wp (kPar2 i j ρ QS) := by
  unfold sPar2; rw [wp_bind]; congr; funext v m1; unfold kPar2; split <;> simp_all
def kPar3 (i j l : Nat) (ρ : Env) (Q : Ct → Mem → Prop) : List Vl → Mem → Prop := fun vs m => match vs with
  | [v, w, u] => Q (.nx (((ρ.set i (some v)).set j (some w)).set l (some u))) m
  | _ => False
@[simp] theorem k_Par3 {v w u : Vl} : kPar3 i j l ρ QS [v, w, u] m = QS (.nx (((ρ.set i (some v)).set j (some w)).set l (some u))) m := rfl
@[simp] theorem w_Par3 : (sPar3 i j l r ρ m).wp QS = (r ρ m).wp (kPar3 i j l ρ QS) := by
  unfold sPar3; rw [wp_bind]; congr; funext v m1; unfold kPar3; split <;> simp_all
def kRet (Q : Ct → Mem → Prop) : Vl → Mem → Prop := fun v m => Q (.rt v) m
@[simp] theorem k_Ret : kRet QS v m = QS (.rt v) m := rfl
@[simp] theorem w_Ret : (sRet s ρ m).wp QS = (s ρ m).wp (kRet QS) := by unfold sRet; rw [wp_bind]; rfl
@[simp] theorem w_RetN : (sRetN ρ m).wp QS = QS (.rt (.d .non)) m := rfl
def kDrop (ρ : Env) (Q : Ct → Mem → Prop) : Vl → Mem → Prop := fun _ m => Q (.nx ρ) m
@[simp] theorem k_Drop : kDrop ρ QS v m = QS (.nx ρ) m := rfl
@[simp] theorem w_Drop : (sDrop s ρ m).wp QS = (s ρ m).wp (kDrop ρ QS) := by unfold sDrop; rw [wp_bind]; rfl
def kIf (ρ : Env) (s1 s2 : SemS) (Q : Ct → Mem → Prop) : Bool → Mem → Prop := fun k m => if k then (s1 ρ m).wp Q else (s2 ρ m).wp Q
@[simp] theorem k_If : kIf ρ s1 s2 QS b m = if b then (s1 ρ m).wp QS else (s2 ρ m).wp QS := rfl
@[simp] theorem w_If : (sIf t s1 s2 ρ m).wp QS = (t ρ m).wp (kIf ρ s1 s2 QS) := by
  unfold sIf; rw [wp_bind]; congr; funext v m1; unfold kIf; split <;> rfl
def kIte (ρ : Env) (s1 s2 : Sem) (Q : Vl → Mem → Prop) : Bool → Mem → Prop := fun k m => if k then (s1 ρ m).wp Q else (s2 ρ m).wp Q
@[simp] theorem k_Ite : kIte ρ sa sb Q b m = if b then (sa ρ m).wp Q else (sb ρ m).wp Q := rfl
@[simp] theorem w_Ite : (sIte t sa sb ρ m).wp Q = (t ρ m).wp (kIte ρ sa sb Q) := by
  unfold sIte; rw [wp_bind]; congr; funext v m1; unfold kIte; split <;> rfl
def kAn (u : SemT) (ρ : Env) (Q : Bool → Mem → Prop) : Bool → Mem → Prop := fun k m => if k then (u ρ m).wp Q else Q false m
@[simp] theorem k_An : kAn u ρ QT b m = if b then (u ρ m).wp QT else QT false m := rfl
@[simp] theorem w_An : (tAn t u ρ m).wp QT = (t ρ m).wp (kAn u ρ QT) := by
  unfold tAn; rw [wp_bind]; congr; funext v m1; unfold kAn; split <;> rfl
def kOr' (u : SemT) (ρ : Env) (Q : Bool → Mem → Prop) : Bool → Mem → Prop := fun k m => if k then Q true m else (u ρ m).wp Q
@[simp] theorem k_Or' : kOr' u ρ QT b m = if b then QT true m else (u ρ m).wp QT := rfl
@[simp] theorem w_Or' : (tOr' t u ρ m).wp QT = (t ρ m).wp (kOr' u ρ QT) := by
  unfold tOr'; rw [wp_bind]; congr; funext v m1; unfold kOr'; split <;> rfl
def kNo (Q : Bool → Mem → Prop) : Bool → Mem → Prop := fun k m => Q (!k) m
@[simp] theorem k_No : kNo QT b m = QT (!b) m := rfl
@[simp] theorem w_No : (tNo t ρ m).wp QT = (t ρ m).wp (kNo QT) := by unfold tNo; rw [wp_bind]; rfl
@[simp] theorem w_Yes : (tYes ρ m).wp QT = QT true m := rfl
def kAnd (sb : Sem) (ρ : Env) (Q : Vl → Mem → Prop) : Vl → Mem → Prop := fun v m => match v with
  | .d (.bl b) => if b then (sb ρ m).wp Q else Q (.d (.bl false)) m
  | _ => False
@[simp] theorem k_And : kAnd sb ρ Q (.d (.bl b)) m = if b then (sb ρ m).wp Q else Q (.d (.bl false)) m := rfl
@[simp] theorem w_And : (sAnd sa sb ρ m).wp Q = (sa ρ m).wp (kAnd sb ρ Q) := by
  unfold sAnd; rw [wp_bind]; congr; funext v m1; unfold kAnd
  cases v with
  | p l => rfl
  | d d => cases d with
    | bl b => cases b <;> rfl
    | _ => rfl
def kOr (sb : Sem) (ρ : Env) (Q : Vl → Mem → Prop) : Vl → Mem → Prop := fun v m => match v with
  | .d (.bl b) => if b then Q (.d (.bl true)) m else (sb ρ m).wp Q
  | _ => False
@[simp] theorem k_Or : kOr sb ρ Q (.d (.bl b)) m = if b then Q (.d (.bl true)) m else (sb ρ m).wp Q := rfl
@[simp] theorem w_Or : (sOr sa sb ρ m).wp Q = (sa ρ m).wp (kOr sb ρ Q) := by
  unfold sOr; rw [wp_bind]; congr; funext v m1; unfold kOr
  cases v with
  | p l => rfl
  | d d => cases d with
    | bl b => cases b <;> rfl
    | _ => rfl
def kNot (Q : Vl → Mem → Prop) : Vl → Mem → Prop := fun v m => match v with
  | .d (.bl b) => Q (.d (.bl (!b))) m
  | _ => False
@[simp] theorem k_Not : kNot Q (.d (.bl b)) m = Q (.d (.bl (!b))) m := rfl
@[simp] theorem w_Not : (sNot s ρ m).wp Q = (s ρ m).wp (kNot Q) := by
  unfold sNot; rw [wp_bind]; congr; funext v m1; unfold kNot; split <;> simp_all
@[simp] theorem w_aNil : (aNil ρ m).wp QA = QA [] m := rfl
def kCons2 (v : Vl) (Q : List Vl → Mem → Prop) : List Vl → Mem → Prop := fun vs m => Q (v :: vs) m
@[simp] theorem k_Cons2 : kCons2 v QA vs m = QA (v :: vs) m := rfl
def kCons (r : SemA) (ρ : Env) (Q : List Vl → Mem → Prop) : Vl → Mem → Prop := fun v m => (r ρ m).wp (kCons2 v Q)
@[simp] theorem k_Cons : kCons r ρ QA v m = (r ρ m).wp (kCons2 v QA) := rfl
@[simp] theorem w_aCons : (aCons s r ρ m).wp QA = (s ρ m).wp (kCons r ρ QA) := by
  unfold aCons; rw [wp_bind]; congr; funext v m1; rw [wp_bind]; rfl
def kCall (ar : Nat) (G : Fn) (Q : Vl → Mem → Prop) : List Vl → Mem → Prop := fun vs m => vs.length = ar ∧ (G vs m).wp Q
@[simp] theorem k_Call0 : kCall 0 G Q [] m = (G [] m).wp Q := by unfold kCall; simp
@[simp] theorem k_Call1 : kCall 1 G Q [v] m = (G [v] m).wp Q := by unfold kCall; simp
@[simp] theorem k_Call2 {v2 : Vl} : kCall 2 G Q [v, v2] m = (G [v, v2] m).wp Q := by unfold kCall; simp
@[simp] theorem k_Call3 {v2 v3 : Vl} : kCall 3 G Q [v, v2, v3] m = (G [v, v2, v3] m).wp Q := by unfold kCall; simp
@[simp] theorem k_Call4 {v2 v3 v4 : Vl} : kCall 4 G Q [v, v2, v3, v4] m = (G [v, v2, v3, v4] m).wp Q := by unfold kCall; simp
@[simp] theorem k_Call5 {v2 v3 v4 v5 : Vl} : kCall 5 G Q [v, v2, v3, v4, v5] m = (G [v, v2, v3, v4, v5] m).wp Q := by unfold kCall; simp
@[simp] theorem w_Call : (sCall ar G r ρ m).wp Q = (r ρ m).wp (kCall ar G Q) := by
  unfold sCall; rw [wp_bind]; congr; funext v m1; unfold kCall; simp
def kBif (g : List D → Option D) (Q : Vl → Mem → Prop) : List Vl → Mem → Prop := fun vs m => match drfs m vs with
  | some ds => datP (g ds) m Q
  | none => False
@[simp] theorem k_Bif : kBif gl Q vs m = match drfs m vs with
  | some ds => datP (gl ds) m Q
  | none => False := rfl
@[simp] theorem w_Bif : (sBif gl r ρ m).wp Q = (r ρ m).wp (kBif gl Q) := by
  unfold sBif; rw [wp_bind]; congr; funext v m1; unfold kBif; split <;> simp_all [wp_dat]
def kTup (f : List D → D) (Q : Vl → Mem → Prop) : List Vl → Mem → Prop := fun vs m => match dats vs with
  | some ds => ds.length ≤ sizeLine ∧ Q (.d (f ds)) m
  | none => False
@[simp] theorem k_Tup {f : List D → D} : kTup f Q vs m = match dats vs with
  | some ds => ds.length ≤ sizeLine ∧ Q (.d (f ds)) m
  | none => False := rfl
@[simp] theorem w_Tup : (sTup r ρ m).wp Q = (r ρ m).wp (kTup .tup Q) := by
  unfold sTup; rw [wp_bind]; congr; funext v m1; unfold kTup; split <;> simp_all
@[simp] theorem w_Lst : (sLst r ρ m).wp Q = (r ρ m).wp (kTup .lst Q) := by
  unfold sLst; rw [wp_bind]; congr; funext v m1; unfold kTup; split <;> simp_all
def kLstO (Q : Vl → Mem → Prop) : List Vl → Mem → Prop := fun vs m => match dats vs with
  | some ds => ds.length ≤ sizeLine ∧ Q (.p m.length) (m ++ [.lst ds])
  | none => False
@[simp] theorem k_LstO : kLstO Q vs m = match dats vs with
  | some ds => ds.length ≤ sizeLine ∧ Q (.p m.length) (m ++ [.lst ds])
  | none => False := rfl
@[simp] theorem w_LstO : (sLstO r ρ m).wp Q = (r ρ m).wp (kLstO Q) := by
  unfold sLstO; rw [wp_bind]; congr; funext v m1; unfold kLstO; split <;> simp_all [R.own]
def kListO (Q : Vl → Mem → Prop) : Vl → Mem → Prop := fun v m => match drf m v with
  | some (.lst xs) => Q (.p m.length) (m ++ [.lst xs])
  | some (.tup xs) => Q (.p m.length) (m ++ [.lst xs])
  | _ => False
@[simp] theorem k_ListO : kListO Q v m = match drf m v with
  | some (.lst xs) => Q (.p m.length) (m ++ [.lst xs])
  | some (.tup xs) => Q (.p m.length) (m ++ [.lst xs])
  | _ => False := rfl
@[simp] theorem w_ListO : (sListO s ρ m).wp Q = (s ρ m).wp (kListO Q) := by
  unfold sListO; rw [wp_bind]; congr; funext v m1; unfold kListO; split <;> simp_all [R.own]
def kCatO2 (v : Vl) (Q : Vl → Mem → Prop) : Vl → Mem → Prop := fun w m => match drf m v, drf m w with
  | some (.lst xs), some (.lst ys) => xs.length + ys.length ≤ sizeLine ∧ Q (.p m.length) (m ++ [.lst (xs ++ ys)])
  | _, _ => False
@[simp] theorem k_CatO2 : kCatO2 v Q w m = match drf m v, drf m w with
  | some (.lst xs), some (.lst ys) => xs.length + ys.length ≤ sizeLine ∧ Q (.p m.length) (m ++ [.lst (xs ++ ys)])
  | _, _ => False := rfl
def kCatO (sb : Sem) (ρ : Env) (Q : Vl → Mem → Prop) : Vl → Mem → Prop := fun v m => (sb ρ m).wp (kCatO2 v Q)
@[simp] theorem k_CatO : kCatO sb ρ Q v m = (sb ρ m).wp (kCatO2 v Q) := rfl
@[simp] theorem w_CatO : (sCatO sa sb ρ m).wp Q = (sa ρ m).wp (kCatO sb ρ Q) := by
  unfold sCatO; rw [wp_bind]; congr; funext v m1; unfold kCatO; rw [wp_bind]; congr; funext w m2
  unfold kCatO2; split <;> simp_all [R.own]
def kRevO (Q : Vl → Mem → Prop) : Vl → Mem → Prop := fun v m => match drf m v with
  | some (.lst xs) => Q (.p m.length) (m ++ [.lst xs.reverse])
  | _ => False
@[simp] theorem k_RevO : kRevO Q v m = match drf m v with
  | some (.lst xs) => Q (.p m.length) (m ++ [.lst xs.reverse])
  | _ => False := rfl
@[simp] theorem w_RevO : (sRevO s ρ m).wp Q = (s ρ m).wp (kRevO Q) := by
  unfold sRevO; rw [wp_bind]; congr; funext v m1; unfold kRevO; split <;> simp_all [R.own]
def kLst1 (Q : Vl → Mem → Prop) : List D → Mem → Prop := fun xs m => Q (.d (.lst xs)) m
@[simp] theorem k_Lst1 : kLst1 Q xs m = Q (.d (.lst xs)) m := rfl
def kLcO (Q : Vl → Mem → Prop) : List D → Mem → Prop := fun xs m => Q (.p m.length) (m ++ [.lst xs])
@[simp] theorem k_LcO : kLcO Q xs m = Q (.p m.length) (m ++ [.lst xs]) := rfl
def kLc (vs : List Nat) (T : Tg) (t : SemT) (s : Sem) (ρ : Env) (Q : List D → Mem → Prop) : List D → Mem → Prop := fun xs m => (lcGo T t s (wipeE ρ vs) xs [] m).wp Q
@[simp] theorem k_Lc {is : List Nat} : kLc is T t s ρ QI xs m = (lcGo T t s (wipeE ρ is) xs [] m).wp QI := rfl
@[simp] theorem w_Lc {is : List Nat} : (sLc it is T t s ρ m).wp Q = (it ρ m).wp (kLc is T t s ρ (kLst1 Q)) := by
  unfold sLc sLcs; rw [wp_bind, wp_bind]; rfl
@[simp] theorem w_LcO {is : List Nat} : (sLcO it is T t s ρ m).wp Q = (it ρ m).wp (kLc is T t s ρ (kLcO Q)) := by
  unfold sLcO sLcs; rw [wp_bind, wp_bind]; rfl
def kIter (Q : List D → Mem → Prop) : Vl → Mem → Prop := fun v m => match v with
  | .d (.lst xs) => Q xs m
  | .d (.tup xs) => Q xs m
  | _ => False
@[simp] theorem k_Iter1 : kIter QI (.d (.lst xs)) m = QI xs m := rfl
@[simp] theorem k_Iter2 : kIter QI (.d (.tup xs)) m = QI xs m := rfl
@[simp] theorem w_Iter : (sIter s ρ m).wp QI = (s ρ m).wp (kIter QI) := by
  unfold sIter; rw [wp_bind]; congr; funext v m1; unfold kIter; split <;> simp_all
def kRng1 (Q : List D → Mem → Prop) : Vl → Mem → Prop := fun v m => match v with
  | .d (.int j) => (-(2 ^ 62) ≤ j ∧ j < 2 ^ 62) ∧ Q (rngD 0 j.toNat) m
  | _ => False
@[simp] theorem k_Rng1 {j : Int} : kRng1 QI (.d (.int j)) m = ((-(2 ^ 62) ≤ j ∧ j < 2 ^ 62) ∧ QI (rngD 0 j.toNat) m) := rfl
@[simp] theorem w_Rng1 : (sRng1 s ρ m).wp QI = (s ρ m).wp (kRng1 QI) := by
  unfold sRng1; rw [wp_bind]; congr; funext v m1; unfold kRng1
  cases v with
  | p l => rfl
  | d d => cases d with
    | int i => dsimp only; rw [wp_if0]; rfl
    | _ => rfl
def kRng3 (v : Vl) (Q : List D → Mem → Prop) : Vl → Mem → Prop := fun w m => match v, w with
  | .d (.int i), .d (.int j) => (-(2 ^ 62) ≤ i ∧ i < 2 ^ 62 ∧ -(2 ^ 62) ≤ j ∧ j < 2 ^ 62) ∧ Q (rngD i (j - i).toNat) m
  | _, _ => False
@[simp] theorem k_Rng3 {i j : Int} : kRng3 (.d (.int i)) QI (.d (.int j)) m = ((-(2 ^ 62) ≤ i ∧ i < 2 ^ 62 ∧ -(2 ^ 62) ≤ j ∧ j < 2 ^ 62) ∧ QI (rngD i (j - i).toNat) m) := rfl
def kRng2 (sb : Sem) (ρ : Env) (Q : List D → Mem → Prop) : Vl → Mem → Prop := fun v m => (sb ρ m).wp (kRng3 v Q)
@[simp] theorem k_Rng2 : kRng2 sb ρ QI v m = (sb ρ m).wp (kRng3 v QI) := rfl
@[simp] theorem w_Rng2 : (sRng2 sa sb ρ m).wp QI = (sa ρ m).wp (kRng2 sb ρ QI) := by
  unfold sRng2; rw [wp_bind]; congr; funext v m1; unfold kRng2; rw [wp_bind]; congr; funext w m2; unfold kRng3
  cases v with
  | p l => rfl
  | d d => cases d with
    | int i => cases w with
      | p l => rfl
      | d e => cases e with
        | int j => dsimp only; rw [wp_if0]; rfl
        | _ => rfl
    | _ => rfl
def kFor (T : Tg) (s1 : SemS) (ρ : Env) (Q : Ct → Mem → Prop) : List D → Mem → Prop := fun xs m => (forGo T s1 xs ρ m).wp Q
@[simp] theorem k_For : kFor T s1 ρ QS xs m = (forGo T s1 xs ρ m).wp QS := rfl
@[simp] theorem w_For : (sFor T it s1 ρ m).wp QS = (it ρ m).wp (kFor T s1 ρ QS) := by unfold sFor; rw [wp_bind]; rfl
@[simp] theorem w_oNone : (oNone ρ m).wp QO = QO none m := rfl
def kOSome (Q : Option Int → Mem → Prop) : Vl → Mem → Prop := fun v m => match v with | .d (.int i) => Q (some i) m | _ => False
@[simp] theorem k_OSome {i : Int} : kOSome QO (.d (.int i)) m = QO (some i) m := rfl
@[simp] theorem w_oSome : (oSome s ρ m).wp QO = (s ρ m).wp (kOSome QO) := by
  unfold oSome; rw [wp_bind]; congr; funext v m1; unfold kOSome; split <;> simp_all
def kSl3 (v : Vl) (l : Option Int) (Q : Vl → Mem → Prop) : Option Int → Mem → Prop := fun h m => match drf m v with
  | some d => datP (slD d l h) m Q
  | none => False
@[simp] theorem k_Sl3 {l h : Option Int} : kSl3 v l Q h m = match drf m v with
  | some d => datP (slD d l h) m Q
  | none => False := rfl
def kSl2 (v : Vl) (hi : SemO) (ρ : Env) (Q : Vl → Mem → Prop) : Option Int → Mem → Prop := fun l m => (hi ρ m).wp (kSl3 v l Q)
@[simp] theorem k_Sl2 {l : Option Int} : kSl2 v hi ρ Q l m = (hi ρ m).wp (kSl3 v l Q) := rfl
def kSl (lo hi : SemO) (ρ : Env) (Q : Vl → Mem → Prop) : Vl → Mem → Prop := fun v m => (lo ρ m).wp (kSl2 v hi ρ Q)
@[simp] theorem k_Sl : kSl lo hi ρ Q v m = (lo ρ m).wp (kSl2 v hi ρ Q) := rfl
@[simp] theorem w_Sl : (sSl s lo hi ρ m).wp Q = (s ρ m).wp (kSl lo hi ρ Q) := by
  unfold sSl; rw [wp_bind]; congr; funext v m1; unfold kSl; rw [wp_bind]; congr; funext l m2; unfold kSl2; rw [wp_bind]; congr; funext h m3; unfold kSl3; split <;> simp_all [wp_dat]
def kUn (g : D → Option D) (Q : Vl → Mem → Prop) : Vl → Mem → Prop := fun v m => match drf m v with
  | some d => datP (g d) m Q
  | none => False
@[simp] theorem k_Un : kUn gu Q v m = match drf m v with
  | some d => datP (gu d) m Q
  | none => False := rfl
@[simp] theorem w_Un : (sUn gu s ρ m).wp Q = (s ρ m).wp (kUn gu Q) := by
  unfold sUn; rw [wp_bind]; congr; funext v m1; unfold kUn; cases drf m1 v <;> simp [wp_dat]
def kChain3 (g' : D → D → Option D) (w : Vl) (Q : Vl → Mem → Prop) : Vl → Mem → Prop := fun u m => match drf m w, drf m u with
  | some e, some f => datP (g' e f) m Q
  | _, _ => False
@[simp] theorem k_Chain3 {u : Vl} : kChain3 g' w Q u m = match drf m w, drf m u with
  | some e, some f => datP (g' e f) m Q
  | _, _ => False := rfl
def kChainB (g' : D → D → Option D) (w : Vl) (sc : Sem) (ρ : Env) (Q : Vl → Mem → Prop) : Vl → Mem → Prop := fun v m => match v with
  | .d (.bl b) => if b then (sc ρ m).wp (kChain3 g' w Q) else Q (.d (.bl false)) m
  | _ => False
@[simp] theorem k_ChainB : kChainB g' w sc ρ Q (.d (.bl b)) m = if b then (sc ρ m).wp (kChain3 g' w Q) else Q (.d (.bl false)) m := rfl
def kChain2 (g g' : D → D → Option D) (v : Vl) (sc : Sem) (ρ : Env) (Q : Vl → Mem → Prop) : Vl → Mem → Prop := fun w m => match drf m v, drf m w with
  | some d, some e => datP (g d e) m (kChainB g' w sc ρ Q)
  | _, _ => False
@[simp] theorem k_Chain2 : kChain2 g g' v sc ρ Q w m = match drf m v, drf m w with
  | some d, some e => datP (g d e) m (kChainB g' w sc ρ Q)
  | _, _ => False := rfl
def kChain (g g' : D → D → Option D) (sb sc : Sem) (ρ : Env) (Q : Vl → Mem → Prop) : Vl → Mem → Prop := fun v m => (sb ρ m).wp (kChain2 g g' v sc ρ Q)
@[simp] theorem k_Chain : kChain g g' sb sc ρ Q v m = (sb ρ m).wp (kChain2 g g' v sc ρ Q) := rfl
@[simp] theorem w_Chain : (sChain g g' sa sb sc ρ m).wp Q = (sa ρ m).wp (kChain g g' sb sc ρ Q) := by
  unfold sChain; rw [wp_bind]; congr; funext v m1; unfold kChain; rw [wp_bind]; congr; funext w m2; unfold kChain2
  cases h1 : drf m2 v with
  | none => rfl
  | some d =>
    cases h2 : drf m2 w with
    | none => rfl
    | some e =>
      dsimp only
      cases h3 : g d e with
      | none => rfl
      | some u =>
        rw [datP1]
        unfold kChainB
        cases u with
        | bl b =>
          cases b with
          | false => rfl
          | true =>
            dsimp only
            rw [wp_bind, if_pos rfl]; congr; funext u m3; unfold kChain3
            cases h1 : drf m3 w <;> cases h2 : drf m3 u <;> simp [wp_dat]
        | _ => rfl
def kUnown (k : Nat) (Q : Vl → Mem → Prop) : Vl → Mem → Prop := fun v m => (exitR k v m).wp Q
@[simp] theorem k_Unown1 : kUnown k Q (.d d) m = Q (.d d) (m.take k) := rfl
@[simp] theorem w_Unown : (sUnown s ρ m).wp Q = (s ρ m).wp (kUnown m.length Q) := by
  unfold sUnown kUnown; cases s ρ m <;> rfl
def kApp (l : Nat) (ρ : Env) (Q : Ct → Mem → Prop) : Vl → Mem → Prop := fun w m => (appR l ρ w m).wp Q
@[simp] theorem k_App : kApp l ρ QS (.d d) m = match m[l]? with
  | some (.lst xs) => xs.length < sizeLine ∧ QS (.nx ρ) (m.set l (.lst (xs ++ [d])))
  | _ => False := by
  unfold kApp appR
  cases m[l]? with
  | none => rfl
  | some o => cases o with
    | lst xs => dsimp only; rw [wp_if0]; rfl
    | _ => rfl
@[simp] theorem w_App : (sApp i se ρ m).wp QS = match ρ[i]? with
  | some (some (.p l)) => (match m[l]? with
    | some (.lst _) => (se ρ m).wp (kApp l ρ QS)
    | _ => False)
  | _ => False := by
  unfold sApp
  cases ρ[i]? with
  | none => rfl
  | some o => cases o with
    | none => rfl
    | some v => cases v with
      | d d => rfl
      | p l =>
        dsimp only
        cases m[l]? with
        | none => rfl
        | some o => cases o with
          | lst xs => dsimp only; rw [wp_bind]; rfl
          | _ => rfl
def kSetIx2 (l : Nat) (ρ : Env) (v : Vl) (Q : Ct → Mem → Prop) : Vl → Mem → Prop := fun w m => (setR l ρ v w m).wp Q
@[simp] theorem k_SetIx2 {k : Int} : kSetIx2 l ρ (.d d) QS (.d (.int k)) m = match m[l]? with
  | some (.lst xs) => (match ixN xs.length k with
    | some j => QS (.nx ρ) (m.set l (.lst (xs.set j d)))
    | none => False)
  | _ => False := by
  unfold kSetIx2 setR
  cases m[l]? with
  | none => rfl
  | some o => cases o with
    | lst xs => dsimp only; cases ixN xs.length k <;> rfl
    | _ => rfl
def kSetIx (l : Nat) (si : Sem) (ρ : Env) (Q : Ct → Mem → Prop) : Vl → Mem → Prop := fun v m => (si ρ m).wp (kSetIx2 l ρ v Q)
@[simp] theorem k_SetIx : kSetIx l si ρ QS v m = (si ρ m).wp (kSetIx2 l ρ v QS) := rfl
@[simp] theorem w_SetIx : (sSetIx i si se ρ m).wp QS = match ρ[i]? with
  | some (some (.p l)) => (se ρ m).wp (kSetIx l si ρ QS)
  | _ => False := by
  unfold sSetIx
  cases ρ[i]? with
  | none => rfl
  | some o => cases o with
    | none => rfl
    | some v => cases v with
      | d d => rfl
      | p l =>
        dsimp only
        rw [wp_bind]; congr; funext v m1; rw [wp_bind]; rfl
@[simp] theorem w_Frz : (sFrz i s1 ρ m).wp QS = match ρ[i]? with
  | some (some (.p l)) => (match m[l]? with
    | some (.lst xs) => (s1 (ρ.set i (some (.d (.lst xs)))) (m.set l .dead)).wp QS
    | _ => False)
  | _ => False := by
  unfold sFrz
  cases ρ[i]? with
  | none => rfl
  | some o => cases o with
    | none => rfl
    | some v => cases v with
      | d d => rfl
      | p l =>
        dsimp only
        cases m[l]? with
        | none => rfl
        | some o => cases o <;> rfl
/-! ### loops -/
@[simp] theorem forGo_nil : (forGo T s1 [] ρ m).wp QS = QS (.nx ρ) m := rfl
def kForN (T : Tg) (s1 : SemS) (xs : List D) (Q : Ct → Mem → Prop) : Ct → Mem → Prop := fun c m => match c with
  | .nx ρ2 => (forGo T s1 xs ρ2 m).wp Q
  | .rt v => Q (.rt v) m
@[simp] theorem k_ForN1 : kForN T s1 xs QS (.nx ρ) m = (forGo T s1 xs ρ m).wp QS := rfl
@[simp] theorem k_ForN2 : kForN T s1 xs QS (.rt v) m = QS (.rt v) m := rfl
theorem forGo_cons : (forGo T s1 (d :: xs) ρ m).wp QS = match T.g d ρ with
  | none => False
  | some ρ1 => (s1 ρ1 m).wp (kForN T s1 xs QS) := by
  conv => lhs; unfold forGo
  cases T.g d ρ with
  | none => rfl
  | some ρ1 => dsimp only; rw [wp_bind]; congr; funext c m1; unfold kForN; cases c <;> rfl
/-- a loop that keeps an invariant and never leaves early -/
theorem for_inv (I : List D → Env → Mem → Prop) (hI : I xs ρ m) (step : ∀ x xs ρ m, I (x :: xs) ρ m → ∃ ρ1, T.g x ρ = some ρ1 ∧ (s1 ρ1 m).wp fun c m1 => match c with
    | .nx ρ2 => I xs ρ2 m1
    | .rt v => QS (.rt v) m1) (fin : ∀ ρ m, I [] ρ m → QS (.nx ρ) m) : (forGo T s1 xs ρ m).wp QS := by
  induction xs generalizing ρ m with
  | nil => exact fin _ _ hI
  | cons x xs ih =>
    rw [forGo_cons]
    obtain ⟨ρ1, e, h⟩ := step _ _ _ _ hI
    rw [e]
    refine wp_mono h fun c m1 hc => ?_
    cases c with
    | nx ρ2 => exact ih hc
    | rt v => exact hc
@[simp] theorem lcGo_nil : (lcGo T t s ρ [] acc m).wp QI = QI acc m := rfl
/-- a comprehension that keeps an invariant of memory -/
theorem lc_inv (I : List D → List D → Mem → Prop) (hI : I xs acc m) (step : ∀ x xs acc m, I (x :: xs) acc m → ∃ ρ1, T.g x ρ = some ρ1 ∧ (t ρ1 m).wp fun b m1 => if b then (s ρ1 m1).wp fun v m2 => ∃ y, v = .d y ∧ acc.length < sizeLine ∧ I xs (acc ++ [y]) m2 else I xs acc m1)
    (fin : ∀ acc m, I [] acc m → QI acc m) : (lcGo T t s ρ xs acc m).wp QI := by
  induction xs generalizing acc m with
  | nil => exact fin _ _ hI
  | cons x xs ih =>
    obtain ⟨ρ1, e, h⟩ := step _ _ _ _ hI
    unfold lcGo
    rw [e]
    dsimp only
    rw [wp_bind, wp_noEr]
    refine wp_mono h fun b m1 hb => ?_
    cases b with
    | false => exact ih hb
    | true =>
      rw [if_pos rfl] at hb ⊢
      rw [wp_bind, wp_noEr]
      refine wp_mono hb fun v m2 hv => ?_
      obtain ⟨y, rfl, h1, h2⟩ := hv
      dsimp only
      rw [if_pos h1]
      exact ih h2
/-- .. whose parts leave memory alone and are known -/
theorem lc_pure (f : D → Bool) (g : D → D) (hlen : acc.length + xs.length ≤ sizeLine) (step : ∀ x ∈ xs, ∃ ρ1, T.g x ρ = some ρ1 ∧ (t ρ1 m).wp (fun b m1 => b = f x ∧ m1 = m) ∧ (f x = true → (s ρ1 m).wp fun v m2 => v = .d (g x) ∧ m2 = m))
    (fin : QI (acc ++ (xs.filter f).map g) m) : (lcGo T t s ρ xs acc m).wp QI := by
  induction xs generalizing acc with
  | nil => simpa using fin
  | cons x xs ih =>
    obtain ⟨ρ1, e, h1, h2⟩ := step x (by simp)
    unfold lcGo
    rw [e]
    dsimp only
    rw [wp_bind, wp_noEr]
    refine wp_mono h1 fun b m1 hb => ?_
    obtain ⟨rfl, rfl⟩ := hb
    simp only [List.length_cons] at hlen
    by_cases hf : f x = true
    · rw [if_pos hf, wp_bind, wp_noEr]
      refine wp_mono (h2 hf) fun v m2 hv => ?_
      obtain ⟨rfl, rfl⟩ := hv
      dsimp only
      rw [if_pos (by omega)]
      exact ih (by simp; omega) (fun y hy => step y (by simp [hy])) (by simpa [hf] using fin)
    · rw [if_neg hf]
      exact ih (by omega) (fun y hy => step y (by simp [hy])) (by simpa [hf] using fin)
def kWh (t : SemT) (s1 : SemS) (n : Nat) (ρ : Env) (Q : Ct → Mem → Prop) : Bool → Mem → Prop := fun k m => if k then (s1 ρ m).wp (fun c m2 => match c with
      | .nx ρ2 => (whGo t s1 n ρ2 m2).wp Q
      | .rt v => Q (.rt v) m2) else Q (.nx ρ) m
theorem whGo_succ {n : Nat} : (whGo t s1 (n + 1) ρ m).wp QS = (t ρ m).wp (kWh t s1 n ρ QS) := by
  conv => lhs; unfold whGo
  rw [wp_bind]; congr; funext k m1; unfold kWh
  cases k with
  | false => rfl
  | true =>
    rw [if_pos rfl, if_pos rfl, wp_bind]; congr; funext c m2; cases c <;> rfl
@[simp] theorem w_While {fu : Env → Mem → Nat} : (sWhile fu t s1 ρ m).wp QS = (whGo t s1 (fu ρ m) ρ m).wp QS := rfl
/-- a loop with an invariant and a measure -/
theorem wh_inv (I : Nat → Env → Mem → Prop) (n : Nat) (hI : I n ρ m) (step : ∀ n ρ m, I n ρ m → (t ρ m).wp fun k m1 => if k then ∃ n', n = n' + 1 ∧ (s1 ρ m1).wp (fun c m2 => match c with
      | .nx ρ2 => I n' ρ2 m2
      | .rt v => QS (.rt v) m2) else QS (.nx ρ) m1) {fuel : Nat} (hf : n < fuel) : (whGo t s1 fuel ρ m).wp QS := by
  induction fuel generalizing n ρ m with
  | zero => omega
  | succ fuel ih =>
    rw [whGo_succ]
    refine wp_mono (step _ _ _ hI) fun k m1 hk => ?_
    unfold kWh
    cases k with
    | false => simpa using hk
    | true =>
      rw [if_pos rfl] at hk ⊢
      obtain ⟨n', rfl, hk⟩ := hk
      refine wp_mono hk fun c m2 hc => ?_
      cases c with
      | nx ρ2 => exact ih n' hc (by omega)
      | rt v => exact hc
/-! ### defs -/
def kDef (b : Bool) (k : Nat) (Q : Vl → Mem → Prop) : Ct → Mem → Prop := fun c m => match c with
  | .nx _ => (exitB b k (.d .non) m).wp Q
  | .rt v => (exitB b k v m).wp Q
theorem exit_d : (exitB b k (.d d) m).wp Q = Q (.d d) (m.take k) := by unfold exitB; cases b <;> rfl
@[simp] theorem k_Def1 : kDef b k Q (.nx ρ) m = Q (.d .non) (m.take k) := exit_d
@[simp] theorem k_Def2 : kDef b k Q (.rt (.d d)) m = Q (.d d) (m.take k) := exit_d
theorem wp_run {n : Nat} {args : List Vl} : (runDef b n s1 args m).wp Q = (s1 (args.map some ++ List.replicate (n - args.length) none) m).wp (kDef b m.length Q) := by
  unfold runDef
  cases h : s1 (args.map some ++ List.replicate (n - args.length) none) m with
  | no => rfl
  | er e m' => rfl
  | ok c m' => cases c <;> rfl
end
/-- fuel from an int -/
def fuI (i : Nat) : Env → Mem → Nat := fun ρ _ => match ρ[i]? with
  | some (some (.d (.int n))) => n.toNat + 3
  | _ => 0
/-- so many turns at most -/
def fuK (n : Nat) : Env → Mem → Nat := fun _ _ => n
end DL
/-! DLj: operators at ints and texts, for simp; the numbers' own list. -/
namespace DL
open PySem PySem.Spec PyProof.Rows L2
section
variable {i j k : Int} {x y : Str} {m m' m0 m1 m2 : Mem} {Q : Vl → Mem → Prop} {a b c d e : D} {xs ys : List D} {p q : Bool}
theorem lg_of {n : Nat} (t : Nat) (h : n < 2 ^ t) : n.log2 < t + 1 := by
  by_cases h0 : n = 0
  · subst h0; simp
  · exact Nat.lt_succ_of_lt ((Nat.log2_lt h0).mpr h)
theorem lgi_of {j : Int} (t : Nat) (h1 : -(2 ^ t : Int) < j) (h2 : j < 2 ^ t) : j.natAbs.log2 < t + 1 := by
  refine lg_of t ?_
  have e : ((2 : Int) ^ t) = ((2 ^ t : Nat) : Int) := by norm_cast
  rw [e] at h1 h2
  generalize 2 ^ t = n at h1 h2 ⊢
  omega
@[simp] theorem add_ii : addD (.int i) (.int j) = some (.int (i + j)) := rfl
@[simp] theorem sub_ii : subD (.int i) (.int j) = some (.int (i - j)) := rfl
@[simp] theorem lt_ii : ltD (.int i) (.int j) = some (.bl (decide (i < j))) := rfl
@[simp] theorem le_ii : leD (.int i) (.int j) = some (.bl (decide (i ≤ j))) := rfl
@[simp] theorem gt_ii : gtD (.int i) (.int j) = some (.bl (decide (j < i))) := rfl
@[simp] theorem ge_ii : geD (.int i) (.int j) = some (.bl (decide (j ≤ i))) := rfl
@[simp] theorem neg_i : negD (.int i) = some (.int (-i)) := rfl
@[simp] theorem datP_mul : datP (mulD (.int i) (.int j)) m Q = (i.natAbs.log2 + j.natAbs.log2 < 1000000 ∧ Q (.d (.int (i * j))) m) := datPI
@[simp] theorem datP_fdiv : datP (fdivD (.int i) (.int j)) m Q = ((0 < j ∧ j.natAbs.log2 < 9000) ∧ Q (.d (.int (i / j))) m) := datPI
@[simp] theorem datP_mod : datP (modD (.int i) (.int j)) m Q = (0 < j ∧ Q (.d (.int (i % j))) m) := datPI
@[simp] theorem int_i : intD [.int i] = some (.int i) := rfl
@[simp] theorem int_b : intD [.bl p] = some (.int (if p then 1 else 0)) := rfl
@[simp] theorem abs_i : absD [.int i] = some (.int (if i < 0 then -i else i)) := rfl
@[simp] theorem min_ii : min2D [.int i, .int j] = some (.int (if j < i then j else i)) := rfl
@[simp] theorem max_ii : max2D [.int i, .int j] = some (.int (if j > i then j else i)) := rfl
@[simp] theorem len_l : lenD [.lst xs] = some (.int xs.length) := rfl
@[simp] theorem len_t : lenD [.tup xs] = some (.int xs.length) := rfl
@[simp] theorem len_s {ns : List Int} : lenD [.scr ns] = some (.int ns.length) := rfl
@[simp] theorem list_l : listD [.lst xs] = some (.lst xs) := rfl
@[simp] theorem list_t : listD [.tup xs] = some (.lst xs) := rfl
@[simp] theorem tuple_l : tupleD [.lst xs] = some (.tup xs) := rfl
@[simp] theorem tuple_t : tupleD [.tup xs] = some (.tup xs) := rfl
@[simp] theorem ix_l : ixD (.lst xs) (.int i) = atI xs i := rfl
@[simp] theorem ix_t : ixD (.tup xs) (.int i) = atI xs i := rfl
@[simp] theorem ix_s {ns : List Int} : ixD (.scr ns) (.int i) = (atI ns i).map .int := rfl
@[simp] theorem datP_mult : datP (mulD (.tup xs) (.int k)) m Q = ((-(2 ^ 63) ≤ k ∧ k < 2 ^ 63 ∧ xs.length * k.toNat ≤ sizeLine) ∧ Q (.d (.tup (List.replicate k.toNat xs).flatten)) m) := datPI
@[simp] theorem datP_mull : datP (mulD (.lst xs) (.int k)) m Q = ((-(2 ^ 63) ≤ k ∧ k < 2 ^ 63 ∧ xs.length * k.toNat ≤ sizeLine) ∧ Q (.d (.lst (List.replicate k.toNat xs).flatten)) m) := datPI
@[simp] theorem datP_addt : datP (addD (.tup xs) (.tup ys)) m Q = (xs.length + ys.length ≤ sizeLine ∧ Q (.d (.tup (xs ++ ys))) m) := datPI
@[simp] theorem datP_addl : datP (addD (.lst xs) (.lst ys)) m Q = (xs.length + ys.length ≤ sizeLine ∧ Q (.d (.lst (xs ++ ys))) m) := datPI
@[simp] theorem datP_adds : datP (addD (.str x) (.str y)) m Q = (x.length + y.length ≤ sizeLine ∧ Q (.d (.str (x ++ y))) m) := datPI
@[simp] theorem datP_pow : datP (powD (.int i) (.int j)) m Q = ((0 ≤ j ∧ j ≤ 1000000 ∧ i.natAbs < 2 ^ 64) ∧ Q (.d (.int (i ^ j.toNat))) m) := datPI
theorem pl_i : plD (.int i) = true := rfl
theorem pl_s : plD (.str x) = true := rfl
theorem pl_b : plD (.bl p) = true := rfl
theorem dp_i : dpD (.int i) = 0 := rfl
theorem dp_s : dpD (.str x) = 0 := rfl
@[simp] theorem eqq_ii : eqq (.int i) (.int j) = decide (i = j) := by simp [eqq, pyD, PyData.eqv]; try rfl
@[simp] theorem eqq_ss : eqq (.str x) (.str y) = decide (x = y) := by simp [eqq, pyD, PyData.eqv]; try rfl
@[simp] theorem eq_ii : eqD (.int i) (.int j) = some (.bl (decide (i = j))) := by rw [← eqq_ii]; rfl
@[simp] theorem eq_ss : eqD (.str x) (.str y) = some (.bl (decide (x = y))) := by rw [← eqq_ss]; rfl
@[simp] theorem ne_ii : neD (.int i) (.int j) = some (.bl (!decide (i = j))) := by rw [← eqq_ii]; rfl
@[simp] theorem ne_ss : neD (.str x) (.str y) = some (.bl (!decide (x = y))) := by rw [← eqq_ss]; rfl
@[simp] theorem sz_eq : sizeLine = 16777216 := rfl
@[simp] theorem add_bi : addD (.bl p) (.int j) = some (.int (b01 p + j)) := rfl
@[simp] theorem sub_bi : subD (.bl p) (.int j) = some (.int (b01 p - j)) := rfl
@[simp] theorem not_b : notTD (.bl p) = some (.bl (!p)) := rfl
@[simp] theorem not_i : notTD (.int i) = some (.bl (!(i != 0))) := rfl
@[simp] theorem str_b : strA [.bl p] = some (.str (if p then "True" else "False")) := rfl
@[simp] theorem str_s : strA [.str x] = some (.str x) := rfl
@[simp] theorem datP_stri : datP (strA [.int i]) m Q = (i.natAbs.log2 < 1920 ∧ Q (.d (.str (toString i))) m) := datPI
@[simp] theorem datP_upper : datP (upD (.str x)) m Q = (x.length ≤ 5592405 ∧ Q (.d (.str (Txt.upper x))) m) := datPI
variable {ρ : Env} {is : List Nat} {n : Nat}
@[simp] theorem tg_one : (Tg.one n).g d ρ = some (ρ.set n (some (.d d))) := rfl
@[simp] theorem tg_many : (Tg.many is).g (.tup xs) ρ = setAll is xs ρ := rfl
@[simp] theorem setAll_nil : setAll [] [] ρ = some ρ := rfl
@[simp] theorem setAll_cons : setAll (n :: is) (d :: xs) ρ = setAll is xs (ρ.set n (some (.d d))) := rfl
@[simp] theorem wipe_nil : wipeE ρ [] = ρ := rfl
@[simp] theorem wipe_cons : wipeE ρ (n :: is) = (wipeE ρ is).set n none := rfl
variable {α : Type} {u v w : α} {us : List α}
@[simp] theorem atI_0 : atI (u :: us) 0 = some u := by unfold atI ixN; rw [if_pos (by omega), if_pos (by simp <;> omega)]; rfl
@[simp] theorem atI_lit {n : Nat} : atI us (no_index (OfNat.ofNat n)) = us[n]? := by
  unfold atI ixN
  have e : ((OfNat.ofNat n : Int)) = (n : Int) := rfl
  rw [e, if_pos (by omega)]
  split
  · rfl
  · rename_i h
    rw [List.getElem?_eq_none (by omega)]; rfl
theorem atI_pos (h0 : 0 ≤ i) : atI us i = us[i.toNat]? := by
  unfold atI ixN
  rw [if_pos h0]
  split
  · rfl
  · rename_i h
    rw [List.getElem?_eq_none (by omega)]; rfl
theorem ixN_pos {n : Nat} (h0 : 0 ≤ i) (h : i < n) : ixN n i = some i.toNat := by
  unfold ixN
  rw [if_pos h0, if_pos h]
@[simp] theorem ixN_0 {n : Nat} : ixN (n + 1) 0 = some 0 := ixN_pos (by omega) (by omega)
@[simp] theorem ixN_1 {n : Nat} : ixN (n + 1 + 1) 1 = some 1 := ixN_pos (by omega) (by omega)
end
/-! ### the list of two ints that gives numbers -/
def Dok (l : Nat) (m : Mem) : Prop := ∃ g s : Int, m[l]? = some (.lst [.int g, .int s]) ∧ 0 ≤ g ∧ g < 2 ^ 1000 ∧ 0 ≤ s ∧ s < 2 ^ 40
structure Dr (l : Nat) (m m' : Mem) : Prop where
  len : m'.length = m.length
  rest : ∀ j, j ≠ l → m'[j]? = m[j]?
  ok : Dok l m'
theorem Dr.refl {l : Nat} {m : Mem} (h : Dok l m) : Dr l m m := ⟨rfl, fun _ _ => rfl, h⟩
theorem Dr.trans {l : Nat} {m m1 m2 : Mem} (h : Dr l m m1) (k : Dr l m1 m2) : Dr l m m2 := ⟨k.len.trans h.len, fun j q => (k.rest j q).trans (h.rest j q), k.ok⟩
theorem Dr.set {l : Nat} {m m1 : Mem} {g s : Int} (h : Dr l m m1) (g1 : 0 ≤ g) (g2 : g < 2 ^ 1000) (s1 : 0 ≤ s) (s2 : s < 2 ^ 40) : Dr l m (m1.set l (.lst [.int g, .int s])) := by
  obtain ⟨g0, s0, e, _⟩ := h.ok
  refine ⟨by rw [List.length_set]; exact h.len, fun j q => by rw [List.getElem?_set_ne (Ne.symm q)]; exact h.rest j q, g, s, ?_, g1, g2, s1, s2⟩
  rw [List.getElem?_set_self (List.getElem?_eq_some_iff.mp e).1]
theorem Dr.take {l : Nat} {m m' : Mem} (h : Dr l m m') : m'.take m.length = m' := by rw [← h.len]; exact List.take_length
/-- data, and the numbers go on -/
def Pd (l : Nat) (m : Mem) (P : D → Prop) : Vl → Mem → Prop := fun v m' => ∃ d, v = .d d ∧ P d ∧ Dr l m m'
theorem Pd.mono {l : Nat} {m : Mem} {P P' : D → Prop} {r : R Vl} (h : r.wp (Pd l m P)) (k : ∀ d, P d → P' d) : r.wp (Pd l m P') :=
  wp_mono h fun v m' ⟨d, e, p, q⟩ => ⟨d, e, k d p, q⟩
/-- a call, and what comes behind it -/
theorem wp_call {l : Nat} {m : Mem} {P : D → Prop} {Q : Vl → Mem → Prop} {r : R Vl} (h : r.wp (Pd l m P)) (k : ∀ d m', P d → Dr l m m' → Q (.d d) m') : r.wp Q :=
  wp_mono h fun v m' ⟨d, e, p, q⟩ => by subst e; exact k d m' p q
theorem wp_base {l : Nat} {m0 m : Mem} {P : D → Prop} {r : R Vl} (h : Dr l m0 m) (k : r.wp (Pd l m P)) : r.wp (Pd l m0 P) :=
  wp_mono k fun v m' ⟨d, e, p, q⟩ => ⟨d, e, p, h.trans q⟩
theorem wp_body {l : Nat} {m : Mem} {P : D → Prop} {b : Bool} {n : Nat} {s : SemS} {args : List Vl} (h : (s (args.map some ++ List.replicate (n - args.length) none) m).wp fun c m' => ∃ d, c = .rt (.d d) ∧ P d ∧ Dr l m m') : (runDef b n s args m).wp (Pd l m P) := by
  rw [wp_run]
  refine wp_mono h fun c m' ⟨d, e, p, q⟩ => ?_
  subst e
  rw [k_Def2, q.take]
  exact ⟨d, rfl, p, q⟩
/-- .. with more objects behind -/
structure Xr (l : Nat) (m m' : Mem) : Prop where
  len : m.length ≤ m'.length
  dr : Dr l m (m'.take m.length)
theorem Dok.lt {l : Nat} {m : Mem} (h : Dok l m) : l < m.length := by
  obtain ⟨g, s, e, _⟩ := h
  exact (List.getElem?_eq_some_iff.mp e).1
theorem Dr.lt {l : Nat} {m m' : Mem} (h : Dr l m m') : l < m.length := by rw [← h.len]; exact h.ok.lt
theorem Dr.x {l : Nat} {m m' : Mem} (h : Dr l m m') : Xr l m m' := ⟨by rw [h.len]; exact Nat.le_refl _, by rw [h.take]; exact h⟩
theorem Xr.ok {l : Nat} {m m' : Mem} (h : Xr l m m') : Dok l m' := by
  obtain ⟨g, s, e, r⟩ := h.dr.ok
  rw [List.getElem?_take_of_lt h.dr.lt] at e
  exact ⟨g, s, e, r⟩
theorem Xr.step {l : Nat} {m m1 m2 : Mem} (h : Xr l m m1) (k : Dr l m1 m2) : Xr l m m2 := by
  refine ⟨by rw [k.len]; exact h.len, ⟨by rw [List.length_take, k.len]; exact Nat.min_eq_left h.len, fun j q => ?_, ?_⟩⟩
  · rw [← h.dr.rest j q]
    by_cases hj : j < m.length
    · rw [List.getElem?_take_of_lt hj, List.getElem?_take_of_lt hj, k.rest j q]
    · rw [List.getElem?_take_eq_none (by omega), List.getElem?_take_eq_none (by omega)]
  · obtain ⟨g, s, e, r⟩ := k.ok
    exact ⟨g, s, by rw [List.getElem?_take_of_lt h.dr.lt]; exact e, r⟩
theorem Xr.put {l : Nat} {m m1 : Mem} (h : Xr l m m1) (o : O) : Xr l m (m1 ++ [o]) :=
  ⟨by simp; have := h.len; omega, by rw [List.take_append_of_le_length h.len]; exact h.dr⟩
theorem Xr.set {l p : Nat} {m m1 : Mem} (h : Xr l m m1) (hp : m.length ≤ p) (o : O) : Xr l m (m1.set p o) :=
  ⟨by rw [List.length_set]; exact h.len, by rw [List.take_set_of_le hp]; exact h.dr⟩
theorem wp_bodyX {l : Nat} {m : Mem} {P : D → Prop} {b : Bool} {n : Nat} {s : SemS} {args : List Vl} (h : (s (args.map some ++ List.replicate (n - args.length) none) m).wp fun c m' => ∃ d, c = .rt (.d d) ∧ P d ∧ Xr l m m') : (runDef b n s args m).wp (Pd l m P) := by
  rw [wp_run]
  refine wp_mono h fun c m' ⟨d, e, p, q⟩ => ?_
  subst e
  rw [k_Def2]
  exact ⟨d, rfl, p, q.dr⟩
theorem k_DefP {m : Mem} {xs : List D} {Q : Vl → Mem → Prop} : kDef true m.length Q (.rt (.p m.length)) (m ++ [.lst xs]) = Q (.p m.length) (m ++ [.lst xs]) := by
  unfold kDef exitB exitK
  simp
/-- one's own list -/
structure Ow (l : Nat) (m m' : Mem) (p : Nat) (xs : List D) : Prop where
  x : Xr l m m'
  at_ : m.length ≤ p
  row : m'[p]? = some (.lst xs)
theorem Ow.of {l : Nat} {m m' : Mem} (h : Xr l m m') (xs : List D) : Ow l m (m' ++ [.lst xs]) m'.length xs := ⟨h.put _, h.len, by simp⟩
theorem Ow.step {l p : Nat} {m m1 m2 : Mem} {xs : List D} (h : Ow l m m1 p xs) (k : Dr l m1 m2) : Ow l m m2 p xs :=
  ⟨h.x.step k, h.at_, by rw [k.rest p (by have := h.x.dr.lt; have := h.at_; omega)]; exact h.row⟩
theorem Ow.set {l p : Nat} {m m1 : Mem} {xs : List D} (h : Ow l m m1 p xs) (ys : List D) : Ow l m (m1.set p (.lst ys)) p ys :=
  ⟨h.x.set h.at_ _, h.at_, List.getElem?_set_self (List.getElem?_eq_some_iff.mp h.row).1⟩
theorem Ow.put {l p : Nat} {m m1 : Mem} {xs : List D} (h : Ow l m m1 p xs) (ys : List D) : Ow l m (m1 ++ [.lst ys]) m1.length ys := .of h.x ys
/-- how a body ends -/
def Rt (l : Nat) (m : Mem) (P : D → Prop) : Ct → Mem → Prop := fun c m' => match c with
  | .rt (.d d) => P d ∧ Xr l m m'
  | .rt (.p q) => ∃ xs, Ow l m m' q xs ∧ P (.lst xs)
  | .nx _ => P .non ∧ Xr l m m'
@[simp] theorem k_Rt1 {l : Nat} {m m' : Mem} {P : D → Prop} {d : D} : Rt l m P (.rt (.d d)) m' = (P d ∧ Xr l m m') := rfl
@[simp] theorem k_Rt2 {l q : Nat} {m m' : Mem} {P : D → Prop} : Rt l m P (.rt (.p q)) m' = ∃ xs, Ow l m m' q xs ∧ P (.lst xs) := rfl
@[simp] theorem k_Rt3 {l : Nat} {m m' : Mem} {P : D → Prop} {ρ : Env} : Rt l m P (.nx ρ) m' = (P .non ∧ Xr l m m') := rfl
theorem wp_bodyR {l : Nat} {m : Mem} {P : D → Prop} {n : Nat} {s : SemS} {args : List Vl} (h : (s (args.map some ++ List.replicate (n - args.length) none) m).wp (Rt l m P)) : (runDef false n s args m).wp (Pd l m P) := by
  rw [wp_run]
  refine wp_mono h fun c m' q => ?_
  cases c with
  | nx ρ => rw [k_Def1]; exact ⟨_, rfl, q.1, q.2.dr⟩
  | rt v => cases v with
    | d d => rw [k_Def2]; exact ⟨_, rfl, q.1, q.2.dr⟩
    | p q' =>
      obtain ⟨xs, ow, hp⟩ := q
      show (exitB false m.length (.p q') m').wp _
      unfold exitB exitR
      rw [if_neg (by decide)]
      dsimp only
      rw [if_neg (by have := ow.at_; omega), ow.row]
      exact ⟨_, rfl, hp, ow.x.dr⟩
/-- a comprehension of data that are drawn -/
theorem lc_gen {l : Nat} {m0 m : Mem} {P : D → Prop} {T : Tg} {s : Sem} {ρ : Env} {xs : List D} {QI : List D → Mem → Prop} (h : Dr l m0 m) (hl : xs.length ≤ sizeLine)
    (step : ∀ x ∈ xs, ∀ m, Dr l m0 m → ∃ ρ1, T.g x ρ = some ρ1 ∧ (s ρ1 m).wp (Pd l m0 P)) (fin : ∀ ys m', ys.length = xs.length → (∀ y ∈ ys, P y) → Dr l m0 m' → QI ys m') : (lcGo T tYes s ρ xs [] m).wp QI := by
  refine lc_inv (fun rest acc m' => acc.length + rest.length = xs.length ∧ (∀ x ∈ rest, x ∈ xs) ∧ (∀ y ∈ acc, P y) ∧ Dr l m0 m') ⟨by simp, fun _ q => q, by simp, h⟩ ?_ fun acc m' ⟨a, _, b, c⟩ => fin _ _ (by simpa using a) b c
  rintro x rest acc m' ⟨h1, h2, h3, h4⟩
  obtain ⟨ρ1, e, hs⟩ := step x (h2 x (by simp)) m' h4
  refine ⟨ρ1, e, ?_⟩
  rw [w_Yes, if_pos rfl]
  refine wp_mono hs fun v m2 ⟨d, e, p, q⟩ => ⟨d, e, by simp at h1; omega, by simp at h1 ⊢; omega, fun x hx => h2 x (by simp [hx]), fun y hy => ?_, q⟩
  rcases List.mem_append.mp hy with hy | hy
  · exact h3 y hy
  · simp at hy; subst hy; exact p
theorem mem_rngD {lo : Int} {n : Nat} {d : D} (h : d ∈ rngD lo n) : ∃ i : Nat, i < n ∧ d = .int (lo + i) := by
  unfold rngD at h
  obtain ⟨i, h1, rfl⟩ := List.mem_map.mp h
  exact ⟨i, List.mem_range.mp h1, rfl⟩
end DL
/-! DLk: what a script is, in plain words. -/
namespace DL
open PySem PySem.Spec PyProof.Rows L2
def wh (lo hi : Int) : D → Bool
  | .int i => decide (lo ≤ i) && decide (i ≤ hi)
  | _ => false
def wd : D → Bool
  | .str x => decide (x = "below") || decide (x = "at") || decide (x = "above")
  | _ => false
def nz : D → Bool
  | .int i => !decide (i = 0)
  | _ => true
def turnsB (ts : List D) : Bool := decide (1 ≤ ts.length) && decide (ts.length ≤ 6) && ts.all (wh (-12) 12)
/-- a step; «inner» tells what stands within an "if" -/
def oneB (inner : D → Bool) : D → Bool
  | .tup [.str x, a] => (decide (x = "by") && wh (-12) 12 a) || ((decide (x = "to") || decide (x = "look")) && wh (-40) 40 a)
  | .tup [.str x, a, .tup ts] => decide (x = "repeat") && wh 0 (10 ^ 40 - 1) a && turnsB ts
  | .tup [.str x, w, n, a, b] => wd w && wh (-40) 40 n && ((decide (x = "until") && wh (-12) 12 a && nz a && wh 1 20 b) || (decide (x = "if") && inner a && inner b))
  | _ => false
def innerB (step : D → Bool) : D → Bool
  | .tup ss => decide (ss.length ≤ 4) && ss.all step
  | _ => false
def stepB : Nat → D → Bool
  | 0 => oneB fun _ => false
  | k + 1 => oneB (innerB (stepB k))
def scriptB : D → Bool
  | .tup ss => decide (ss.length ≤ 8) && ss.all (stepB 3)
  | _ => false
theorem oneB_mono {f g : D → Bool} (h : ∀ d, f d = true → g d = true) : ∀ d, oneB f d = true → oneB g d = true := by
  intro d
  unfold oneB
  split <;> try exact id
  rename_i x w n a b
  simp only [Bool.and_eq_true, Bool.or_eq_true]
  rintro ⟨h1, h2 | ⟨⟨h2, h3⟩, h4⟩⟩
  · exact ⟨h1, .inl h2⟩
  · exact ⟨h1, .inr ⟨⟨h2, h _ h3⟩, h _ h4⟩⟩
theorem innerB_mono {f g : D → Bool} (h : ∀ d, f d = true → g d = true) : ∀ d, innerB f d = true → innerB g d = true := by
  intro d
  unfold innerB
  split
  · simp only [Bool.and_eq_true, List.all_eq_true]
    rintro ⟨h1, h2⟩
    exact ⟨h1, fun x hx => h _ (h2 x hx)⟩
  · exact id
theorem stepB_succ : ∀ (k : Nat) (d : D), stepB k d = true → stepB (k + 1) d = true
  | 0, d, h => oneB_mono (fun _ q => by cases q) d h
  | k + 1, d, h => oneB_mono (innerB_mono (stepB_succ k)) d h
theorem stepB_mono {j k : Nat} (h : j ≤ k) {d : D} (q : stepB j d = true) : stepB k d = true := by
  induction h with
  | refl => exact q
  | step _ ih => exact stepB_succ _ _ ih
/-- what a value may be that is drawn -/
def leafB (n : Nat) : D → Bool
  | .non => true
  | .bl _ => true
  | .int i => decide (i.natAbs ≤ 10 ^ 40 + 40 * n)
  | .str x => decide (x.length ≤ 2000 * 4 ^ n)
  | _ => false
mutual
def gd (n : Nat) : D → Bool
  | .tup xs => decide (xs.length ≤ 100 * 2 ^ n) && gds n xs
  | .lst xs => decide (xs.length ≤ 100 * 2 ^ n) && gds n xs
  | .non => true
  | .bl _ => true
  | .int i => leafB n (.int i)
  | .str x => leafB n (.str x)
  | .ins _ _ => false
  | .fn _ => false
  | .scr _ => false
  | .dct _ => false
def gds (n : Nat) : List D → Bool
  | [] => true
  | x :: xs => gd n x && gds n xs
end
theorem gds_iff {n : Nat} : ∀ {xs : List D}, gds n xs = true ↔ ∀ x ∈ xs, gd n x = true
  | [] => by simp [gds]
  | x :: xs => by simp [gds, gds_iff (xs := xs)]
@[simp] theorem gds_append {n : Nat} {xs ys : List D} : gds n (xs ++ ys) = (gds n xs && gds n ys) := by
  induction xs with
  | nil => simp [gds]
  | cons x xs ih => simp [gds, ih, Bool.and_assoc]
theorem leaf_succ {n : Nat} {d : D} (h : leafB n d = true) : leafB (n + 1) d = true := by
  unfold leafB at h ⊢
  split at h <;> simp at h ⊢
  · omega
  · rw [Nat.pow_succ]; omega
mutual
theorem gd_succ {n : Nat} : ∀ {d : D}, gd n d = true → gd (n + 1) d = true
  | .tup xs, h => by
    simp only [gd, Bool.and_eq_true, decide_eq_true_eq] at h ⊢
    exact ⟨by rw [Nat.pow_succ]; omega, gds_succ h.2⟩
  | .lst xs, h => by
    simp only [gd, Bool.and_eq_true, decide_eq_true_eq] at h ⊢
    exact ⟨by rw [Nat.pow_succ]; omega, gds_succ h.2⟩
  | .non, _ => rfl
  | .bl _, _ => rfl
  | .int i, h => leaf_succ (d := .int i) h
  | .str x, h => leaf_succ (d := .str x) h
  | .ins _ _, h => by cases h
  | .fn _, h => by cases h
  | .scr _, h => by cases h
  | .dct _, h => by cases h
theorem gds_succ {n : Nat} : ∀ {xs : List D}, gds n xs = true → gds (n + 1) xs = true
  | [], _ => rfl
  | x :: xs, h => by
    simp only [gds, Bool.and_eq_true] at h ⊢
    exact ⟨gd_succ h.1, gds_succ h.2⟩
end
theorem gd_mono {n k : Nat} (h : n ≤ k) {d : D} (q : gd n d = true) : gd k d = true := by
  induction h with
  | refl => exact q
  | step _ ih => exact gd_succ ih
mutual
theorem gd_pl {n : Nat} : ∀ {d : D}, gd n d = true → plD d = true
  | .tup xs, h => by
    simp only [gd, Bool.and_eq_true] at h
    have := gds_pl h.2
    unfold plDs at this
    simpa [plD, pyD, PyData.plain] using this
  | .lst xs, h => by
    simp only [gd, Bool.and_eq_true] at h
    have := gds_pl h.2
    unfold plDs at this
    simpa [plD, pyD, PyData.plain] using this
  | .non, _ => rfl
  | .bl _, _ => rfl
  | .int i, h => rfl
  | .str x, h => rfl
  | .ins _ _, h => by cases h
  | .fn _, h => by cases h
  | .scr _, h => by cases h
  | .dct _, h => by cases h
theorem gds_pl {n : Nat} : ∀ {xs : List D}, gds n xs = true → plDs xs = true
  | [], _ => rfl
  | x :: xs, h => by
    simp only [gds, Bool.and_eq_true] at h
    have h1 := gd_pl h.1
    have h2 := gds_pl h.2
    unfold plDs plD at *
    simp [pyDs, PyData.plainAll, h1, h2]
end
theorem mem_cut {xs : List D} {lo hi : Option Int} {x : D} (h : x ∈ cutD xs lo hi) : x ∈ xs := List.mem_of_mem_drop (List.mem_of_mem_take h)
theorem len_cut {xs : List D} {lo hi : Option Int} : (cutD xs lo hi).length ≤ xs.length := by unfold cutD; simp; omega
@[simp] theorem sl_l {xs : List D} {lo hi : Option Int} : slD (.lst xs) lo hi = some (.lst (cutD xs lo hi)) := rfl
@[simp] theorem sl_t {xs : List D} {lo hi : Option Int} : slD (.tup xs) lo hi = some (.tup (cutD xs lo hi)) := rfl
end DL
/-! DLl: classes: fields, methods, new instances; what never runs. -/
namespace DL
open PySem PySem.Spec PyProof.Rows L2
/-- an instance as it stands -/
def insOf (m : Mem) : Vl → Option (Nat × List (Str × D))
  | .d (.ins c fs) => some (c, fs)
  | .p l => (match m[l]? with
    | some (.ins c fs) => some (c, fs)
    | _ => none)
  | _ => none
theorem ins_of {z : Z} {η ι : List Addr} {m : Mem} {H : Hp} {x : V} {v : Vl} {c : Nat} {fs : List (Str × D)} (k : MOk z η ι m H) (r : RV z ι (hid (η ++ liv ι m) H) x v) (e : insOf m v = some (c, fs)) :
    ∃ a dx vs, x = .ref a ∧ H a = some (.ins (z.fa c) dx vs) ∧ RpF z (hid (η ++ liv ι m) H) vs fs := by
  unfold insOf at e
  split at e
  · cases e
    cases r with
    | ins h rf => exact ⟨_, _, _, rfl, hid_ext _ _ h, rf⟩
  · rename_i l
    split at e
    · rename_i c' fs' hm
      cases e
      obtain ⟨a, h1, rfl⟩ := r
      obtain ⟨dx, vs, h2, h3⟩ := k.obj l _ a hm h1
      exact ⟨a, dx, vs, rfl, h2, h3⟩
    · cases e
  · cases e
section
variable {X : Cx} {z : Z} {W : XK} {a b c e o : Expr} {es : List Expr} {sa sb sc s so : Sem} {r : SemA} {pos : Pos} {f : Str}
/-- o.f -/
def sFl (c : Nat) (f : Str) (so : Sem) : Sem := fun ρ m => (so ρ m).bind fun v m1 => match insOf m1 v with
  | some (c', fs) => if c' = c then (match fs.lookup f with | some d => .ok (.d d) m1 | none => .no) else .no
  | none => .no
theorem c_fl (c : Nat) (hK : X.K = z.K) (ho : CE z W X o so) (cl : Cls z.K (z.fa c)) (n : NoAttr z.K (z.fa c) f) (hb : attributeBase o f X.env (eval o X.env) = eval o X.env := by rfl) : CE z W X (.Attribute o f pos) (sFl c f so) :=
  pe_mono (pe_fld ho hb) fun σ H Q ⟨η, ι, ρ, m, ok, h⟩ => by
    refine ⟨η, ι, ρ, m, ok, Post.mono (fun ι1 m1 H1 v st1 k1 h1 x rx => ?_) (Post.bind h)⟩
    split at h1
    · rename_i c' fs ei
      split at h1
      · rename_i hc
        subst hc
        split at h1
        · rename_i d hl
          obtain ⟨a, dx, vs, rfl, h2, h3⟩ := ins_of k1 rx ei
          obtain ⟨y, h4, h5⟩ := h3.lookup hl
          exact ⟨a, _, dx, vs, y, rfl, h2, by rw [hK]; exact cl, by rw [hK]; exact n, h4, h1 H1 ι1 Stp.refl k1 y h5⟩
        · exact h1.elim
      · exact h1.elim
    · exact h1.elim
/-- the fields of data, one put -/
def putD (f : Str) (d : D) : List (Str × D) → List (Str × D)
  | [] => [(f, d)]
  | (g, x) :: r => if g = f then (g, d) :: r else (g, x) :: putD f d r
theorem RpF.put {H : Hp} {x : V} {d : D} (h : Rp z H x d) : ∀ {vs : List (Str × V)} {fs : List (Str × D)}, RpF z H vs fs → RpF z H (putF f x vs) (putD f d fs)
  | _, _, .nil => .cons h .nil
  | (g, y) :: vs, (_, e) :: fs, .cons h1 r => by
    unfold putF putD
    split
    · exact .cons h r
    · exact .cons h1 (RpF.put h r)
/-- o.f = e -/
def setF (c : Nat) (f : Str) (ρ : Env) (v w : Vl) (m : Mem) : R Ct := match v, w with
  | .d d, .p l => (match m[l]? with
    | some (.ins c' fs) => if c' = c ∧ fs.length < 1000 then .ok (.nx ρ) (m.set l (.ins c (putD f d fs))) else .no
    | _ => .no)
  | _, _ => .no
def sSetFl (c : Nat) (f : Str) (so se : Sem) : SemS := fun ρ m => (se ρ m).bind fun v m1 => (so ρ m1).bind fun w m2 => setF c f ρ v w m2
theorem cs_setFl (c : Nat) {pos' : Pos} (hK : X.K = z.K) (ho : CE z W X o so) (he : CE z W X e s) (cl : Cls z.K (z.fa c)) (n : NoAttr z.K (z.fa c) f) (hs : swapsWith e (some (.Attribute o f pos')) pos.line X.env = pure false := by rfl) :
    CS z W X (.Assign [.Attribute o f pos'] e pos) (sSetFl c f so s) :=
  ps_mono (ps_fld ho he hs) fun D σ H ⟨η, ι, ρ, m, ok, h⟩ => by
    refine ⟨η, ι, ρ, m, ok, Post.mono (fun ι1 m1 H1 v st1 k1 h1 y ry => ?_) (Post.bind h)⟩
    refine ⟨η, ι1, ρ, m1, ok.step st1 k1, Post.mono (fun ι2 m2 H2 w st2 k2 h2 x rx => ?_) (Post.bind h1)⟩
    unfold setF at h2
    split at h2
    · rename_i d l
      split at h2
      · rename_i c' fs hm
        split at h2
        · rename_i hc
          obtain ⟨rfl, hlen⟩ := hc
          obtain ⟨a, q3, rfl⟩ := rx
          obtain ⟨dx, vs, e1, e2⟩ := k2.obj l _ a hm q3
          have ry : Rp z (hid (η ++ liv ι2 m2) H2) y d := Rp.ext st2.vis ry
          refine ⟨a, _, dx, vs, rfl, e1, by rw [hK]; exact cl, by rw [hK]; exact n, by rw [e2.length]; exact hlen, ?_⟩
          obtain ⟨st3, k3⟩ := k2.write (ho := .ins (z.fa c') dx (putF f y vs)) (u := .ins c' (putD f d fs)) hm q3 rfl rfl ⟨dx, _, upd_same, RpF.put ry e2⟩
          exact h2 _ ι2 st3 k3 _ (ok.step ((st1.trans st2).trans st3) k3)
        · exact h2.elim
      · exact h2.elim
    · exact h2.elim
/-- a method: where its def stands -/
structure Mt (P : Program) (w : World) (K : PySem.W.Frag) (mg : Str → Option Value) (base : Heap) (z : Z) (c n : Nat) (x : Str) (k ar : Nat) (G : Fn) : Prop where
  ex : ∃ fd ps, FnOk P w K mg base (L2N.CX P w) k (z.fa n) fd ps (spG z ar G) ∧ Binds K fd ps []
  cl : Cls K (z.fa c)
  mt : Meth K (z.fa c) x (z.fa n)
theorem Mt.mono {P : Program} {w : World} {K : PySem.W.Frag} {mg : Str → Option Value} {base : Heap} {z : Z} {c n : Nat} {x : Str} {k k' ar : Nat} {G : Fn} (D : Mt P w K mg base z c n x k ar G) (h : k ≤ k') : Mt P w K mg base z c n x k' ar G := by
  obtain ⟨fd, ps, F, b⟩ := D.ex
  exact ⟨⟨fd, ps, F.mono h, b⟩, D.cl, D.mt⟩
def sMeth (c : Nat) (m : Str) (ar : Nat) (G : Fn) (so : Sem) (r : SemA) : Sem := fun ρ mm => (so ρ mm).bind fun v m1 => match insOf m1 v with
  | some (c', fs) => if c' = c ∧ fs.lookup m = none then ((r ρ m1).bind fun vs m2 => if vs.length + 1 = ar then G (v :: vs) m2 else .no) else .no
  | none => .no
theorem meth_of {c : Nat} {m : Str} {ar : Nat} {G : Fn} {σ : L2.St} {H : Hp} {Q : VK} (h : tE z W (sMeth c m ar G so r) σ H Q) : tMeth (z.fa c) m (spG z ar G) [] W (tE z W so) (tA z W r) σ H Q := by
  obtain ⟨η, ι, ρ, mm, ok, h⟩ := h
  refine ⟨η, ι, ρ, mm, ok, Post.mono (fun ι1 m1 H1 v st1 k1 h1 x rx => ?_) (Post.bind h)⟩
  split at h1
  · rename_i c' fs ei
    split at h1
    · rename_i hc
      obtain ⟨rfl, hl⟩ := hc
      obtain ⟨a, dx, vs, rfl, h2, h3⟩ := ins_of k1 rx ei
      refine ⟨a, dx, vs, rfl, h2, h3.lookup_none hl, ?_⟩
      refine ⟨η, ι1, ρ, m1, ok.step st1 k1, Post.mono (fun ι2 m2 H2 us st2 k2 h4 xs rxs => ?_) (Post.bind h1)⟩
      show spG z ar G (V.ref a :: (xs ++ [])) H2 Q W
      rw [List.append_nil]
      split at h4
      · rename_i hlen
        refine ⟨η, ι2, m2, v :: us, k2, .cons (rx.step st2) rxs, hlen, ?_⟩
        cases hG : G (v :: us) m2 with
        | no => rw [hG] at h4; exact h4
        | er e m' => rw [hG] at h4; exact fun d H' ι' st k he => h4 d H' ι' st k he
        | ok v m' => rw [hG] at h4; exact fun x H' ι' st k rx => h4 H' ι' st k x rx
      · exact h4.elim
    · exact h1.elim
  · exact h1.elim
theorem c_meth {c n k k' ar : Nat} {m : Str} {G : Fn} {pl : PySem.Sem Bool} {apos : Pos} (F : Mt X.prog X.w X.K X.mg X.base z c n m k ar G) (g : Gc z W X) (ho : CE z W X o so) (hr : Room k' X.A) (ha : CA z W X (e :: es) r) (hk : k ≤ k')
    (hst : starEach (e :: es) X.env = (false, eval e X.env) :: starEach es X.env := by rfl) (hpl : (backTo pos (starEach es X.env)).any (·.1) = false := by rfl)
    (ht : eval (.Call (.Attribute o m apos) (e :: es) [] pos) X.env = (do
      let ov ← eval o X.env
      standAt apos.atName
      let (f, first) ← holding [ov] (getMethod ov m pl)
      callWith pos f first (backTo pos (starEach (e :: es) X.env)) (backToKw pos (keywordEach [] X.env))) := by rfl) :
    CE z W X (.Call (.Attribute o m apos) (e :: es) [] pos) (sMeth c m ar G so r) := by
  obtain ⟨fd, ps, F1, F2⟩ := F.ex
  exact pe_mono (pe_meth (pl := pl) ho F.cl F.mt F1 (hr.mono hk) F2 .nil (L2N.passes_call g.tk fun _ _ _ _ h => h) ha hst hpl ht) fun _ _ _ h => meth_of h
theorem c_meth0 {c n k k' ar : Nat} {m : Str} {G : Fn} {pl : PySem.Sem Bool} {apos : Pos} (F : Mt X.prog X.w X.K X.mg X.base z c n m k ar G) (g : Gc z W X) (ho : CE z W X o so) (hr : Room k' X.A) (hk : k ≤ k')
    (ht : eval (.Call (.Attribute o m apos) [] [] pos) X.env = (do
      let ov ← eval o X.env
      standAt apos.atName
      let (f, first) ← holding [ov] (getMethod ov m pl)
      callWith pos f first (backTo pos (starEach [] X.env)) (backToKw pos (keywordEach [] X.env))) := by rfl) :
    CE z W X (.Call (.Attribute o m apos) [] [] pos) (sMeth c m ar G so aNil) := by
  obtain ⟨fd, ps, F1, F2⟩ := F.ex
  refine pe_mono (pe_meth0 (pl := pl) ho F.cl F.mt F1 (hr.mono hk) F2 .nil (L2N.passes_call g.tk fun _ _ _ _ h => h) ht) fun σ H Q h => ?_
  obtain ⟨η, ι, ρ, mm, ok, h⟩ := meth_of h
  refine ⟨η, ι, ρ, mm, ok, Post.mono (fun ι1 m1 H1 v st1 k1 h1 x rx => ?_) h⟩
  obtain ⟨a, dx, vs, e1, e2, e3, h2⟩ := h1 x rx
  obtain ⟨η', ι', ρ', m', ok', h2⟩ := h2
  exact ⟨a, dx, vs, e1, e2, e3, h2 H1 ι' Stp.refl ok'.mem [] .nil⟩
/-- a class that is made -/
structure Mkr (P : Program) (w : World) (K : PySem.W.Frag) (mg : Str → Option Value) (base : Heap) (z : Z) (c n : Nat) (x : Str) (k ar : Nat) (G : Fn) : Prop where
  ex : ∃ fd ps, FnOk P w K mg base (L2N.CX P w) k (z.fa n) fd ps (spG z ar G) ∧ Binds K fd ps []
  mkk : Mk K (z.fa c) (z.fa n)
  mg : mg x = some (.ref (z.fa c))
theorem Mkr.mono {P : Program} {w : World} {K : PySem.W.Frag} {mg : Str → Option Value} {base : Heap} {z : Z} {c n : Nat} {x : Str} {k k' ar : Nat} {G : Fn} (D : Mkr P w K mg base z c n x k ar G) (h : k ≤ k') : Mkr P w K mg base z c n x k' ar G := by
  obtain ⟨fd, ps, F, b⟩ := D.ex
  exact ⟨⟨fd, ps, F.mono h, b⟩, D.mkk, D.mg⟩
def sMake (c ar : Nat) (G : Fn) (r : SemA) : Sem := fun ρ m => (r ρ m).bind fun vs m1 => if vs.length + 1 = ar then ((G (.p m1.length :: vs) (m1 ++ [.ins c []])).bind fun v m2 => match v with
    | .d .non => .ok (.p m1.length) m2
    | _ => .no) else .no
theorem make_of {c ar : Nat} {G : Fn} {σ : L2.St} {H : Hp} {Q : VK} (h : tE z W (sMake c ar G r) σ H Q) : tMake (z.fa c) (spG z ar G) [] W (tA z W r) σ H Q := by
  obtain ⟨η, ι, ρ, m, ok, h⟩ := h
  refine ⟨η, ι, ρ, m, ok, Post.mono (fun ι1 m1 H1 vs st1 k1 h1 xs rxs => ?_) (Post.bind h)⟩
  intro x dx hx hdx ne
  show spG z ar G (V.ref x :: (xs ++ [])) _ _ W
  rw [List.append_nil]
  split at h1
  · rename_i hl
    have e1 : Ext H1 (upd H1 dx (.own x)) := Ext.new hdx
    obtain ⟨sg, kg⟩ := Stp.grow k1 e1
    have hx2 : upd H1 dx (.own x) x = none := by rw [upd_ne (Ne.symm ne)]; exact hx
    obtain ⟨st2, k2⟩ := kg.alloc (p := x) (ho := .ins (z.fa c) dx []) (o := .ins c []) hx2 rfl ⟨dx, [], upd_same, .nil⟩
    have stA := sg.trans st2
    have gx : (ι1 ++ [x])[m1.length]? = some x := by rw [← k1.len, List.getElem?_append_right (Nat.le_refl _)]; simp
    have rvl : ∀ {xs : List V} {vs : List Vl}, RVL z ι1 (hid (η ++ liv ι1 m1) H1) xs vs → RVL z (ι1 ++ [x]) (hid (η ++ liv (ι1 ++ [x]) (m1 ++ [.ins c []])) (upd (upd H1 dx (.own x)) x (.ins (z.fa c) dx []))) xs vs := by
      intro xs vs h
      induction h with
      | nil => exact .nil
      | cons h r ih => exact .cons (h.step stA) ih
    refine ⟨η, ι1 ++ [x], m1 ++ [.ins c []], .p m1.length :: vs, k2, .cons ⟨x, gx, rfl⟩ (rvl rxs), hl, ?_⟩
    cases hG : G (.p m1.length :: vs) (m1 ++ [.ins c []]) with
    | no => rw [hG] at h1; exact h1
    | er e m' => rw [hG] at h1; exact fun d H' ι' st k he => h1 d H' ι' (stA.trans st) k he
    | ok v m' =>
      rw [hG] at h1
      intro y H' ι' st k ry
      rw [R.bind_ok] at h1
      split at h1
      · cases ry
        exact ⟨rfl, h1 H' ι' (stA.trans st) k _ ⟨x, st.get gx, rfl⟩⟩
      · exact h1.elim
  · exact h1.elim
theorem c_make {c n k k' ar : Nat} {x : Str} {p : Pos} {G : Fn} (F : Mkr X.prog X.w X.K X.mg X.base z c n x k ar G) (g : Gc z W X) (hr : Room k' X.A) (ha : CA z W X (e :: es) r) (hk : k + 1 ≤ k') (hg : Gl X x := by rfl) (hdb : (x == ("__debug__" : Str)) = false := by decide)
    (he : starEach (e :: es) X.env = (false, eval e X.env) :: starEach es X.env := by rfl) (hpl : (backTo pos (starEach es X.env)).any (·.1) = false := by rfl) : CE z W X (.Call (.Name x p) (e :: es) [] pos) (sMake c ar G r) := by
  obtain ⟨fd, ps, F1, F2⟩ := F.ex
  exact pe_mono (pe_make F.mkk F1 (hr.mono hk) hg F.mg F2 .nil (L2N.passes_call g.tk fun _ _ _ _ h => h) ha hdb he hpl) fun _ _ _ h => make_of h
/-- a method's def as it stands behind the top -/
structure FM (K : PySem.W.Frag) (x qual : Str) (st : Stmt) (ps : List Str) (f : Addr) : Prop where
  ex : ∃ fd, L2.Fun K x qual st f fd ∧ Binds K fd ps []
theorem FM.mk' {K : PySem.W.Frag} {x qual : Str} {st : Stmt} {ps : List Str} {f : Addr} {oc : Value} {od an : Option Addr} {osl : Array (Option Value)} {kV doc pm cdv ct : Value}
    (l : K.lookup f = some ⟨oc, od, .func (PySem.W.fnOf x qual (defArgs st) (defBody st) (defScope st) .none kV doc pm an cdv ct), osl⟩) (c : PySem.W.codeIn K cdv qual = true) (k : PySem.W.keepIn K (.ref f) = true)
    (hb : ∀ (kV doc pm : Value) (an : Option Addr) (cdv ct : Value) (us : List Value), us.length = ps.length → bindArgs (PySem.W.fnOf x qual (defArgs st) (defBody st) (defScope st) .none kV doc pm an cdv ct) ⟨us, []⟩ = pure (ps.zip us)) : FM K x qual st ps f := by
  have F := fun_mk l c k
  exact ⟨⟨_, F, F.binds hb⟩⟩
theorem FM.mt {P : Program} {w : World} {K : PySem.W.Frag} {mg : Str → Option Value} {base : Heap} {z : Z} {x qual : Str} {st : Stmt} {ps : List Str} {c n k ar : Nat} {G : Fn} (F : FM K x qual st ps (z.fa n)) (cl : Cls K (z.fa c)) (m : Meth K (z.fa c) x (z.fa n))
    (h : ∀ fd, L2.Fun K x qual st (z.fa n) fd → FnOk P w K mg base (L2N.CX P w) k (z.fa n) fd ps (spG z ar G)) : Mt P w K mg base z c n x k ar G := by
  obtain ⟨fd, F1, F2⟩ := F.ex
  exact ⟨⟨fd, ps, h fd F1, F2⟩, cl, m⟩
theorem FM.mkr {P : Program} {w : World} {K : PySem.W.Frag} {mg : Str → Option Value} {base : Heap} {z : Z} {x qual y : Str} {st : Stmt} {ps : List Str} {c n k ar : Nat} {G : Fn} (F : FM K x qual st ps (z.fa n)) (mk : Mk K (z.fa c) (z.fa n)) (m : mg y = some (.ref (z.fa c)))
    (h : ∀ fd, L2.Fun K x qual st (z.fa n) fd → FnOk P w K mg base (L2N.CX P w) k (z.fa n) fd ps (spG z ar G)) : Mkr P w K mg base z c n y k ar G := by
  obtain ⟨fd, F1, F2⟩ := F.ex
  exact ⟨⟨fd, ps, h fd F1, F2⟩, mk, m⟩
theorem FM.none {P : Program} {w : World} {K : PySem.W.Frag} {mg : Str → Option Value} {base : Heap} {z : Z} {x qual : Str} {st : Stmt} {ps : List Str} {c n k : Nat} (F : FM K x qual st ps (z.fa n)) (cl : Cls K (z.fa c)) (m : Meth K (z.fa c) x (z.fa n)) : Mt P w K mg base z c n x k ps.length (fun _ _ => .no) :=
  F.mt cl m fun fd F1 => ⟨fun vs H Q E ⟨_, _, _, _, _, _, _, h⟩ => h.elim, fun _ _ _ _ _ _ _ _ _ _ _ _ _ ⟨_, _, _, _, _, _, _, h⟩ => h.elim⟩
/-- what never runs -/
def sNever : SemS := fun _ _ => .no
theorem cs_never {st : Stmt} : CS z W X st sNever := ⟨fun pins s σ H D I ⟨η, ι, ρ, m, ok, q⟩ => q.elim⟩
def sNone : Sem := fun _ _ => .no
theorem c_never : CE z W X e sNone := ⟨fun pins s σ H D I ⟨η, ι, ρ, m, ok, q⟩ => q.elim⟩
end
end DL
/-! DLn: sums, least and greatest of ints. -/
namespace DL
open PySem PySem.Spec PyProof.Rows L2
section
variable {X : Cx} {z : Z}
def sumD : List D → Option D
  | [.lst xs] => (ints? xs).map fun ns => .int ns.sum
  | [.tup xs] => (ints? xs).map fun ns => .int ns.sum
  | _ => none
theorem cg_sum (hK : X.K = z.K) (hc : X.calm = true) : CallR X (.builtin "sum") (rC z sumD) := by
  rintro pins s σ H xs us Q I rs ⟨L, ds, u, hL, hd, hg, q⟩
  unfold sumD at hg
  split at hg
  · rename_i xs'
    cases hb : ints? xs' with
    | none => rw [hb] at hg; cases hg
    | some ns =>
      rw [hb] at hg; cases hg
      have e := ints_map hb
      subst e
      cases hd with | cons hd hr => cases hr; obtain ⟨a, vs, rfl, h1, r1⟩ := hd; have e := r1.int_of; subst e
                                    exact cr_sum hc pins s σ H _ us Q I rs ⟨a, ns, rfl, SqL.of h1, q _ _ (Ext.refl _) (.int _)⟩
  · rename_i xs'
    cases hb : ints? xs' with
    | none => rw [hb] at hg; cases hg
    | some ns =>
      rw [hb] at hg; cases hg
      have e := ints_map hb
      subst e
      cases hd with | cons hd hr =>
      cases hr
      cases hd with | tup h1 r1 =>
      have e := r1.int_of
      subst e
      obtain ⟨its, rv, ht, _⟩ := I.tuple (by rw [hK]; exact ext_sqT hid_ext h1)
      rw [Vals.ref1 rs]
      have hi := rv.ints
      obtain ⟨ys, hx⟩ := hi.allInts.items
      have hn : numsOf its.toArray.toList = ns := by rw [show its.toArray.toList = its from rfl, hi.numsOf]
      rw [hx] at ht hn
      rw [nums_intItems] at hn
      refine PySem.W.ktm_sumG (I.ok.hd hc) ht fun h' tk t' hk => ?_
      rw [preSum_eq, List.take_of_length_le (by simp), hn]
      exact ⟨.int _, H, I.kept hk, ⟨_, rfl⟩, q _ _ (Ext.refl _) (.int _)⟩
  · cases hg
/-- the least, the greatest of n :: ns -/
def lmin : Int → List Int → Int
  | a, [] => a
  | a, b :: r => lmin (if b < a then b else a) r
def lmax : Int → List Int → Int
  | a, [] => a
  | a, b :: r => lmax (if b > a then b else a) r
theorem lmin_mem : ∀ (r : List Int) (a : Int), lmin a r ∈ a :: r
  | [], a => by simp [lmin]
  | b :: r, a => by
    unfold lmin
    have := lmin_mem r (if b < a then b else a)
    rcases List.mem_cons.mp this with h | h
    · rw [h]; split <;> simp
    · simp [h]
theorem lmin_le : ∀ (r : List Int) (a : Int), ∀ x ∈ a :: r, lmin a r ≤ x
  | [], a, x, h => by simp at h; subst h; exact Int.le_refl _
  | b :: r, a, x, h => by
    unfold lmin
    have h0 := lmin_le r (if b < a then b else a)
    have h1 := h0 _ (List.mem_cons_self)
    rcases List.mem_cons.mp h with rfl | h
    · have : (if b < x then b else x) ≤ x := by split <;> omega
      omega
    · rcases List.mem_cons.mp h with rfl | h
      · have : (if x < a then x else a) ≤ x := by split <;> omega
        omega
      · exact h0 x (by simp [h])
theorem lmax_mem : ∀ (r : List Int) (a : Int), lmax a r ∈ a :: r
  | [], a => by simp [lmax]
  | b :: r, a => by
    unfold lmax
    have := lmax_mem r (if b > a then b else a)
    rcases List.mem_cons.mp this with h | h
    · rw [h]; split <;> simp
    · simp [h]
theorem lmax_le : ∀ (r : List Int) (a : Int), ∀ x ∈ a :: r, x ≤ lmax a r
  | [], a, x, h => by simp at h; subst h; exact Int.le_refl _
  | b :: r, a, x, h => by
    unfold lmax
    have h0 := lmax_le r (if b > a then b else a)
    have h1 := h0 _ (List.mem_cons_self)
    rcases List.mem_cons.mp h with rfl | h
    · have : x ≤ (if b > x then b else x) := by split <;> omega
      omega
    · rcases List.mem_cons.mp h with rfl | h
      · have : x ≤ (if x > a then x else a) := by split <;> omega
        omega
      · exact h0 x (by simp [h])
def minLD : List D → Option D
  | [.lst xs] => match ints? xs with
    | some (n :: ns) => some (.int (lmin n ns))
    | _ => none
  | _ => none
def maxLD : List D → Option D
  | [.lst xs] => match ints? xs with
    | some (n :: ns) => some (.int (lmax n ns))
    | _ => none
  | _ => none
theorem cg_minL (hc : X.calm = true) : CallR X (.builtin "min") (rC z minLD) := by
  rintro pins s σ H xs us Q I rs ⟨L, ds, u, hL, hd, hg, q⟩
  unfold minLD at hg
  split at hg
  · rename_i xs'
    split at hg
    · rename_i n ns hb
      cases hg
      have e := ints_map hb
      subst e
      cases hd with | cons hd hr =>
      cases hr; obtain ⟨a, vs, rfl, h1, r1⟩ := hd; have e := r1.int_of; subst e
      refine cr_min hc pins s σ H _ us Q I rs ⟨a, n :: ns, rfl, SqL.of h1, by simp, fun m hm hl => ?_⟩
      have : m = lmin n ns := Int.le_antisymm (hl _ (lmin_mem ns n)) (lmin_le ns n m hm)
      subst this
      exact q _ _ (Ext.refl _) (.int _)
    · cases hg
  · cases hg
theorem cg_maxL (hc : X.calm = true) : CallR X (.builtin "max") (rC z maxLD) := by
  rintro pins s σ H xs us Q I rs ⟨L, ds, u, hL, hd, hg, q⟩
  unfold maxLD at hg
  split at hg
  · rename_i xs'
    split at hg
    · rename_i n ns hb
      cases hg
      have e := ints_map hb
      subst e
      cases hd with | cons hd hr =>
      cases hr; obtain ⟨a, vs, rfl, h1, r1⟩ := hd; have e := r1.int_of; subst e
      refine cr_max hc pins s σ H _ us Q I rs ⟨a, n :: ns, rfl, SqL.of h1, by simp, fun m hm hl => ?_⟩
      have : m = lmax n ns := Int.le_antisymm (lmax_le ns n m hm) (hl _ (lmax_mem ns n))
      subst this
      exact q _ _ (Ext.refl _) (.int _)
    · cases hg
  · cases hg
end
end DL
/-! DLo: small things about numbers, pairs, answers of calls. -/
namespace DL
open PySem PySem.Spec PyProof.Rows L2
theorem eq_of_wp {a : Vl} {m2 : Mem} {r : R Vl} (h : r.wp fun v m' => v = a ∧ m' = m2) : r = .ok a m2 := by
  rw [wp_iff] at h
  obtain ⟨_, _, e, rfl, rfl⟩ := h
  exact e
variable {nn : Nat} {d d1 d2 d3 : D} {m : Mem} {i j : Int} {x : Str} {xs ys : List D}
theorem isi_i (h : gd nn d = true) : isiD [.int] [d] = some (.bl (match d with | .int _ => true | .bl _ => true | _ => false)) := by
  cases d <;> first | rfl | cases h
theorem isi_b (h : gd nn d = true) : isiD [.bool] [d] = some (.bl (match d with | .bl _ => true | _ => false)) := by
  cases d <;> first | rfl | cases h
theorem isi_s (h : gd nn d = true) : isiD [.str] [d] = some (.bl (match d with | .str _ => true | _ => false)) := by
  cases d <;> first | rfl | cases h
theorem isi_t (h : gd nn d = true) : isiD [.tuple] [d] = some (.bl (match d with | .tup _ => true | _ => false)) := by
  cases d <;> first | rfl | cases h
@[simp] theorem isi_ii : isiD [.int] [.int i] = some (.bl true) := rfl
@[simp] theorem isi_bi : isiD [.bool] [.int i] = some (.bl false) := rfl
@[simp] theorem isi_tt : isiD [.tuple] [.tup xs] = some (.bl true) := rfl
@[simp] theorem isi_ss : isiD [.str] [.str x] = some (.bl true) := rfl
theorem in_s (h : plDs ys = true) : inD (.str x) (.tup ys) = some (.bl (ys.any fun y => eqq y (.str x))) := by
  show (if plD (.str x) && plDs ys && decide (min (dpDs ys) (dpD (.str x)) ≤ 64) then _ else none) = _
  rw [h, pl_s, dp_s]
  simp
theorem in_i (h : plDs ys = true) : inD (.int i) (.tup ys) = some (.bl (ys.any fun y => eqq y (.int i))) := by
  show (if plD (.int i) && plDs ys && decide (min (dpDs ys) (dpD (.int i)) ≤ 64) then _ else none) = _
  rw [h, pl_i, dp_i]
  simp
theorem notIn_i (h : plDs ys = true) : notInD (.int i) (.tup ys) = some (.bl (!(ys.any fun y => eqq y (.int i)))) := by
  unfold notInD
  rw [in_i h]
theorem bls_map' {f : D → Bool} : bls? (xs.map fun x => .bl (f x)) = some (xs.map f) := by
  rw [← bls_of (xs.map f), List.map_map]; rfl
@[simp] theorem all_map {f : D → Bool} : allD [.lst (xs.map fun x => .bl (f x))] = some (.bl (xs.all f)) := by
  unfold allD
  dsimp only
  rw [bls_map']
  simp
@[simp] theorem all2 {p q : Bool} : allD [.lst [.bl p, .bl q]] = some (.bl (p && q)) := by cases p <;> cases q <;> rfl
/-- all of xs are so, by a call that knows -/
theorem lc_all {T : Tg} {s : Sem} {ρ : DL.Env} {f : D → Bool} {QI : List D → Mem → Prop} (hl : xs.length ≤ 16777216) (step : ∀ x ∈ xs, ∃ ρ1, T.g x ρ = some ρ1 ∧ s ρ1 m = .ok (.d (.bl (f x))) m) (fin : QI (xs.map fun x => .bl (f x)) m) : (lcGo T tYes s ρ xs [] m).wp QI := by
  refine lc_pure (fun _ => true) (fun x => .bl (f x)) (by simpa using hl) (fun x hx => ?_) (by rw [List.filter_eq_self.mpr (fun _ _ => rfl)]; exact fin)
  obtain ⟨ρ1, e, h⟩ := step x hx
  exact ⟨ρ1, e, by simp, fun _ => by rw [h]; simp⟩
theorem call1_ok {G : Fn} {r : SemA} {ρ : DL.Env} {v : Vl} {k : Nat} {vs : List Vl} (hr : r ρ m = .ok vs m) (hk : vs.length = k) (h : G vs m = .ok v m) : sCall k G r ρ m = .ok v m := by
  unfold sCall
  rw [hr, R.bind_ok, if_pos hk, h]
theorem gd_t (h : gd nn (.tup xs) = true) : xs.length ≤ 100 * 2 ^ nn ∧ ∀ x ∈ xs, gd nn x = true := by
  simp only [gd, Bool.and_eq_true, decide_eq_true_eq] at h
  exact ⟨h.1, gds_iff.mp h.2⟩
theorem gd_len (hn : nn ≤ 8) (h : gd nn (.tup xs) = true) : xs.length ≤ 16777216 := by
  have := (gd_t h).1
  have p2 : 2 ^ nn ≤ 2 ^ 8 := Nat.pow_le_pow_right (by omega) hn
  omega
theorem lc_fil {T : Tg} {t : SemT} {s : Sem} {ρ : DL.Env} {p : D → Bool} {QI : List D → Mem → Prop} (hl : xs.length ≤ 16777216) (step : ∀ x ∈ xs, ∃ ρ1, T.g x ρ = some ρ1 ∧ t ρ1 m = .ok (!p x) m ∧ s ρ1 m = .ok (.d x) m) (fin : QI (xs.filter fun x => !p x) m) : (lcGo T t s ρ xs [] m).wp QI := by
  refine lc_pure (fun x => !p x) id (by simpa using hl) (fun x hx => ?_) (by simpa using fin)
  obtain ⟨ρ1, e, h1, h2⟩ := step x hx
  exact ⟨ρ1, e, by rw [h1]; simp, fun _ => by rw [h2]; simp⟩
/-- a comprehension whose parts are known -/
theorem lc_map {T : Tg} {s : Sem} {ρ : DL.Env} {f : D → D} {QI : List D → Mem → Prop} (hl : xs.length ≤ 16777216) (step : ∀ x ∈ xs, ∃ ρ1, T.g x ρ = some ρ1 ∧ (s ρ1 m).wp fun v m' => v = .d (f x) ∧ m' = m) (fin : QI (xs.map f) m) : (lcGo T tYes s ρ xs [] m).wp QI := by
  refine lc_pure (fun _ => true) f (by simpa using hl) (fun x hx => ?_) (by rw [List.filter_eq_self.mpr (fun _ _ => rfl)]; exact fin)
  obtain ⟨ρ1, e, h⟩ := step x hx
  exact ⟨ρ1, e, by simp, fun _ => h⟩
theorem eqq_t2 {a b a' b' : Int} : eqq (.tup [.int a, .int b]) (.tup [.int a', .int b']) = (decide (a = a') && decide (b = b')) := by
  simp [eqq, pyD, pyDs, PyData.eqv, PyData.eqvAll]
  rfl
@[simp] theorem eq_t2 {a b a' b' : Int} : eqD (.tup [.int a, .int b]) (.tup [.int a', .int b']) = some (.bl (decide (a = a') && decide (b = b'))) := by
  rw [← eqq_t2]; rfl
@[simp] theorem ne_t2 {a b a' b' : Int} : neD (.tup [.int a, .int b]) (.tup [.int a', .int b']) = some (.bl (!(decide (a = a') && decide (b = b')))) := by
  rw [← eqq_t2]; rfl
/-! ### divisors -/
theorem gcd_step {x y : Int} : Int.gcd y (x % y) = Int.gcd x y := by
  rw [Int.emod_def, Int.gcd_sub_mul_left_right, Int.gcd_comm]
theorem gcd_le {x y : Int} (h : 0 < y) : (1 : Int) ≤ Int.gcd x y ∧ (Int.gcd x y : Int) ≤ y := by
  have h1 : (Int.gcd x y : Int) ∣ y := Int.gcd_dvd_right ..
  have h2 := Int.le_of_dvd h h1
  have h3 : Int.gcd x y ≠ 0 := fun e => by
    rw [Int.gcd_eq_zero_iff] at e
    omega
  omega
/-- top / below, as small as can be -/
def low1 (a b : Int) : Int := a / (Int.gcd a b : Int)
def low2 (a b : Int) : Int := b / (Int.gcd a b : Int)
def lowP (a b : Int) : D := .tup [.int (low1 a b), .int (low2 a b)]
theorem low_mul {a b c : Int} (hc : 0 < c) : low1 (c * a) (c * b) = low1 a b ∧ low2 (c * a) (c * b) = low2 a b := by
  unfold low1 low2
  rw [Int.gcd_mul_left]
  have e : ((c.natAbs * Int.gcd a b : Nat) : Int) = c * (Int.gcd a b : Int) := by
    rw [Int.natCast_mul, Int.natAbs_of_nonneg (by omega)]
  rw [e]
  exact ⟨Int.mul_ediv_mul_of_pos _ _ hc, Int.mul_ediv_mul_of_pos _ _ hc⟩
theorem low_pos {a b : Int} (h : 0 < b) : 0 < low2 a b := by
  have := gcd_le (x := a) h
  unfold low2
  have h1 : (Int.gcd a b : Int) ∣ b := Int.gcd_dvd_right ..
  exact Int.ediv_pos_of_pos_of_dvd h (by omega) h1
theorem low_eq {a b : Int} : a = low1 a b * (Int.gcd a b : Int) ∧ b = low2 a b * (Int.gcd a b : Int) := by
  unfold low1 low2
  exact ⟨(Int.ediv_mul_cancel (Int.gcd_dvd_left ..)).symm, (Int.ediv_mul_cancel (Int.gcd_dvd_right ..)).symm⟩
theorem low_gcd {a b : Int} (h : 0 < b) : Int.gcd (low1 a b) (low2 a b) = 1 := by
  have h0 := gcd_le (x := a) h
  obtain ⟨e1, e2⟩ := low_eq (a := a) (b := b)
  generalize hg : Int.gcd a b = g at *
  generalize low1 a b = p at *
  generalize low2 a b = q at *
  have e3 : Int.gcd (p * (g : Int)) (q * (g : Int)) = g := by rw [← e1, ← e2]; exact hg
  rw [Int.mul_comm p, Int.mul_comm q, Int.gcd_mul_left, Int.natAbs_natCast] at e3
  have h1 : 0 < g := by omega
  exact Nat.eq_of_mul_eq_mul_left h1 (by rw [Nat.mul_one]; exact e3)
theorem low_low {a b : Int} (h : Int.gcd a b = 1) : low1 a b = a ∧ low2 a b = b := by
  unfold low1 low2
  rw [h]
  simp
def isIn : D → Bool
  | .int _ => true
  | _ => false
/-- a fraction in lowest terms, a machine, a play, a slack -/
def fracB : D → Bool
  | .tup [.int a, .int b] => decide (1 ≤ b) && decide (low1 a b = a) && decide (low2 a b = b)
  | _ => false
def machB : D → Bool
  | .tup [.int a, .int b] => decide (0 ≤ a) && decide (a ≤ b) && decide (b ≤ 6)
  | _ => false
def playB (lo hi : Int) (d : D) : Bool := fracB d && (match d with
  | .tup [.int a, .int b] => decide (lo * b ≤ a) && decide (a ≤ hi * b)
  | _ => false)
def slackB (p q : Int) (d : D) : Bool := fracB d && (match d with
  | .tup [.int a, .int b] => decide (0 ≤ a) && decide (a * q ≤ p * b)
  | _ => false)
end DL
/-! DLp: rules of ends for classes; the run of a script, in plain words. -/
namespace DL
open PySem PySem.Spec PyProof.Rows L2
section
variable {ρ : Env} {m : Mem} {d : D} {v w : Vl} {c ar k l : Nat} {f x : Str} {s so se : Sem} {r : SemA} {G : Fn} {vs : List Vl} {fs : List (Str × D)}
variable {Q : Vl → Mem → Prop} {QA : List Vl → Mem → Prop} {QS : Ct → Mem → Prop}
theorem insOf_p (h : m[l]? = some (.ins c fs)) : insOf m (.p l) = some (c, fs) := by unfold insOf; simp only [h]
def kFl (c : Nat) (f : Str) (Q : Vl → Mem → Prop) : Vl → Mem → Prop := fun v m => match insOf m v with
  | some (c', fs) => c' = c ∧ (match fs.lookup f with | some d => Q (.d d) m | none => False)
  | none => False
@[simp] theorem k_Fl : kFl c f Q v m = match insOf m v with
  | some (c', fs) => c' = c ∧ (match fs.lookup f with | some d => Q (.d d) m | none => False)
  | none => False := rfl
@[simp] theorem w_Fl : (sFl c f so ρ m).wp Q = (so ρ m).wp (kFl c f Q) := by
  unfold sFl; rw [wp_bind]; congr; funext v m1; unfold kFl
  cases insOf m1 v with
  | none => rfl
  | some p =>
    obtain ⟨c', fs⟩ := p
    dsimp only
    rw [wp_if0]
    cases fs.lookup f <;> rfl
def kSetFl2 (c : Nat) (f : Str) (ρ : Env) (v : Vl) (Q : Ct → Mem → Prop) : Vl → Mem → Prop := fun w m => (setF c f ρ v w m).wp Q
@[simp] theorem k_SetFl2 : kSetFl2 c f ρ (.d d) QS (.p l) m = match m[l]? with
  | some (.ins c' fs) => (c' = c ∧ fs.length < 1000) ∧ QS (.nx ρ) (m.set l (.ins c (putD f d fs)))
  | _ => False := by
  show R.wp (match m[l]? with
    | some (.ins c' fs) => if c' = c ∧ fs.length < 1000 then .ok (.nx ρ) (m.set l (.ins c (putD f d fs))) else .no
    | _ => .no) QS = _
  cases m[l]? with
  | none => rfl
  | some o => cases o with
    | ins c' fs => dsimp only; rw [wp_if0]; rfl
    | _ => rfl
def kSetFl (c : Nat) (f : Str) (so : Sem) (ρ : Env) (Q : Ct → Mem → Prop) : Vl → Mem → Prop := fun v m => (so ρ m).wp (kSetFl2 c f ρ v Q)
@[simp] theorem k_SetFl : kSetFl c f so ρ QS v m = (so ρ m).wp (kSetFl2 c f ρ v QS) := rfl
@[simp] theorem w_SetFl : (sSetFl c f so se ρ m).wp QS = (se ρ m).wp (kSetFl c f so ρ QS) := by
  unfold sSetFl; rw [wp_bind]; congr; funext v m1; rw [wp_bind]; rfl
def kMeth2 (ar : Nat) (G : Fn) (v : Vl) (Q : Vl → Mem → Prop) : List Vl → Mem → Prop := fun vs m => vs.length + 1 = ar ∧ (G (v :: vs) m).wp Q
@[simp] theorem k_Meth2 : kMeth2 ar G v Q vs m = (vs.length + 1 = ar ∧ (G (v :: vs) m).wp Q) := rfl
/-- no field of this name -/
def noF (x : Str) (fs : List (Str × D)) : Prop := fs.lookup x = none
def kMeth (c : Nat) (x : Str) (ar : Nat) (G : Fn) (r : SemA) (ρ : Env) (Q : Vl → Mem → Prop) : Vl → Mem → Prop := fun v m => match insOf m v with
  | some (c', fs) => (c' = c ∧ noF x fs) ∧ (r ρ m).wp (kMeth2 ar G v Q)
  | none => False
@[simp] theorem k_Meth : kMeth c x ar G r ρ Q v m = match insOf m v with
  | some (c', fs) => (c' = c ∧ noF x fs) ∧ (r ρ m).wp (kMeth2 ar G v Q)
  | none => False := rfl
@[simp] theorem w_Meth : (sMeth c x ar G so r ρ m).wp Q = (so ρ m).wp (kMeth c x ar G r ρ Q) := by
  unfold sMeth; rw [wp_bind]; congr; funext v m1; unfold kMeth
  cases insOf m1 v with
  | none => rfl
  | some p =>
    obtain ⟨c', fs⟩ := p
    dsimp only
    rw [wp_if0, wp_bind]
    congr; funext vs m2; rw [wp_if0]; rfl
def kMake2 (k : Nat) (Q : Vl → Mem → Prop) : Vl → Mem → Prop := fun v m => match v with
  | .d .non => Q (.p k) m
  | _ => False
@[simp] theorem k_Make2 : kMake2 k Q (.d .non) m = Q (.p k) m := rfl
def kMake (c ar : Nat) (G : Fn) (Q : Vl → Mem → Prop) : List Vl → Mem → Prop := fun vs m => vs.length + 1 = ar ∧ (G (.p m.length :: vs) (m ++ [.ins c []])).wp (kMake2 m.length Q)
@[simp] theorem k_Make : kMake c ar G Q vs m = (vs.length + 1 = ar ∧ (G (.p m.length :: vs) (m ++ [.ins c []])).wp (kMake2 m.length Q)) := rfl
@[simp] theorem w_Make : (sMake c ar G r ρ m).wp Q = (r ρ m).wp (kMake c ar G Q) := by
  unfold sMake; rw [wp_bind]; congr; funext vs m1; unfold kMake; rw [wp_if0, wp_bind]
  congr; funext v m2; unfold kMake2; split <;> simp_all
@[simp] theorem w_Never : (sNever ρ m).wp QS = False := rfl
theorem take_set {o : O} : (m.set l o).take m.length = m.set l o := by
  have : (m.set l o).length = m.length := List.length_set
  rw [← this]; exact List.take_length
/-- a body that leaves one object otherwise -/
theorem run_set {n : Nat} {s1 : SemS} {args : List Vl} {o : O} {b : Bool} (h : (s1 (args.map some ++ List.replicate (n - args.length) none) m).wp fun c m' => (c = .rt (.d d) ∨ (d = .non ∧ ∃ ρ, c = .nx ρ)) ∧ m' = m.set l o) : runDef b n s1 args m = .ok (.d d) (m.set l o) := by
  refine eq_of_wp ?_
  rw [wp_run]
  refine wp_mono h fun c m' ⟨h1, h2⟩ => ?_
  subst h2
  rcases h1 with rfl | ⟨rfl, ρ, rfl⟩
  · rw [k_Def2, take_set]; exact ⟨rfl, rfl⟩
  · rw [k_Def1, take_set]; exact ⟨rfl, rfl⟩
end
/-- small enough -/
def Sm (i : Int) : Prop := -(2 ^ 500) < i ∧ i < 2 ^ 500
theorem Sm.lg {i : Int} (h : Sm i) : i.natAbs.log2 < 501 := lgi_of 500 h.1 h.2
/-! ### a run, in plain words -/
def mi (a b : Int) : Int := if b < a then b else a
def ma (a b : Int) : Int := if b > a then b else a
structure RS where
  scale : Int
  whole : Int
  stand : Int
  lag : Int
  ans : List D
  looks : Int
  low : Int
  high : Int
namespace RS
def fs (r : RS) : List (Str × D) := [("scale", .int r.scale), ("whole", .int r.whole), ("stand", .int r.stand), ("behind_by", .int r.lag), ("answers", .tup r.ans), ("looks", .int r.looks), ("low", .int r.low), ("high", .int r.high)]
def o (c : Nat) (r : RS) : O := .ins c r.fs
variable {r : RS} {i : Int} {ds : List D}
@[simp] theorem len_fs : r.fs.length = 8 := rfl
@[simp] theorem g_scale : List.lookup ("scale" : Str) r.fs = some (.int r.scale) := rfl
@[simp] theorem g_whole : List.lookup ("whole" : Str) r.fs = some (.int r.whole) := rfl
@[simp] theorem g_stand : List.lookup ("stand" : Str) r.fs = some (.int r.stand) := rfl
@[simp] theorem g_lag : List.lookup ("behind_by" : Str) r.fs = some (.int r.lag) := rfl
@[simp] theorem g_ans : List.lookup ("answers" : Str) r.fs = some (.tup r.ans) := rfl
@[simp] theorem g_looks : List.lookup ("looks" : Str) r.fs = some (.int r.looks) := rfl
@[simp] theorem g_low : List.lookup ("low" : Str) r.fs = some (.int r.low) := rfl
@[simp] theorem g_high : List.lookup ("high" : Str) r.fs = some (.int r.high) := rfl
@[simp] theorem n_spot : noF "spot" r.fs := show List.lookup ("spot" : Str) r.fs = none from rfl
@[simp] theorem n_turn : noF "turn" r.fs := show List.lookup ("turn" : Str) r.fs = none from rfl
@[simp] theorem n_look : noF "look" r.fs := show List.lookup ("look" : Str) r.fs = none from rfl
@[simp] theorem n_tell : noF "tell" r.fs := show List.lookup ("tell" : Str) r.fs = none from rfl
@[simp] theorem n_turn_all : noF "turn_all" r.fs := show List.lookup ("turn_all" : Str) r.fs = none from rfl
@[simp] theorem n_repeat : noF "repeat" r.fs := show List.lookup ("repeat" : Str) r.fs = none from rfl
@[simp] theorem n_until : noF "until" r.fs := show List.lookup ("until" : Str) r.fs = none from rfl
@[simp] theorem n_choose : noF "choose" r.fs := show List.lookup ("choose" : Str) r.fs = none from rfl
@[simp] theorem n_do : noF "do" r.fs := show List.lookup ("do" : Str) r.fs = none from rfl
@[simp] theorem n_do_all : noF "do_all" r.fs := show List.lookup ("do_all" : Str) r.fs = none from rfl
@[simp] theorem p_stand : putD "stand" (.int i) r.fs = { r with stand := i }.fs := rfl
@[simp] theorem p_lag : putD "behind_by" (.int i) r.fs = { r with lag := i }.fs := rfl
@[simp] theorem p_ans : putD "answers" (.tup ds) r.fs = { r with ans := ds }.fs := rfl
@[simp] theorem p_looks : putD "looks" (.int i) r.fs = { r with looks := i }.fs := rfl
@[simp] theorem p_low : putD "low" (.int i) r.fs = { r with low := i }.fs := rfl
@[simp] theorem p_high : putD "high" (.int i) r.fs = { r with high := i }.fs := rfl
def spot (r : RS) : Int := r.stand * r.scale - r.lag
def turn (r : RS) (n : Int) : RS :=
  { r with stand := r.stand + n, lag := mi r.whole (ma 0 (r.lag + n * r.scale)),
           low := mi r.low ((r.stand + n) * r.scale - mi r.whole (ma 0 (r.lag + n * r.scale))),
           high := ma r.high ((r.stand + n) * r.scale - mi r.whole (ma 0 (r.lag + n * r.scale))) }
def seen (r : RS) (mark : Int) : Str := if r.spot - mark * r.scale = 0 then "at" else if r.spot - mark * r.scale < 0 then "below" else "above"
def look (r : RS) : RS := { r with looks := r.looks + 1 }
def tell (r : RS) (d : D) : RS := { r with ans := r.ans ++ [d] }
def turns (r : RS) (ns : List Int) : RS := ns.foldl turn r
def many (ns : List Int) : Nat → RS → RS
  | 0, r => r
  | k + 1, r => many ns k (r.turns ns)
def rep (r : RS) (k : Int) (ns : List Int) : RS :=
  if k > 14 then { many ns 14 r with stand := (many ns 14 r).stand + (k - 14 - 1) * ns.sum }.turns ns else many ns k.toNat r
def untl (w : Str) (mark n : Int) : Nat → RS → RS × Nat
  | 0, r => (r.look, 0)
  | k + 1, r => if r.seen mark = w then (r.look, 0) else ((untl w mark n k (r.look.turn n)).1, (untl w mark n k (r.look.turn n)).2 + 1)
end RS
namespace RS
variable {r : RS} {i : Int} {ns : List Int}
@[simp] theorem turn_stand : (r.turn i).stand = r.stand + i := rfl
@[simp] theorem turn_scale : (r.turn i).scale = r.scale := rfl
@[simp] theorem turn_whole : (r.turn i).whole = r.whole := rfl
@[simp] theorem turn_ans : (r.turn i).ans = r.ans := rfl
@[simp] theorem look_stand : r.look.stand = r.stand := rfl
@[simp] theorem look_scale : r.look.scale = r.scale := rfl
@[simp] theorem look_ans : r.look.ans = r.ans := rfl
theorem turns_cons {a : Int} : r.turns (a :: ns) = (r.turn a).turns ns := rfl
theorem turns_snoc {a : Int} : r.turns (ns ++ [a]) = (r.turns ns).turn a := by simp [turns]
theorem turns_stand : ∀ (ns : List Int) (r : RS), (r.turns ns).stand = r.stand + ns.sum
  | [], r => by simp [turns]
  | a :: ns, r => by rw [turns_cons, turns_stand ns, List.sum_cons, turn_stand]; omega
theorem turns_scale : ∀ (ns : List Int) (r : RS), (r.turns ns).scale = r.scale
  | [], r => rfl
  | a :: ns, r => by rw [turns_cons, turns_scale ns]; rfl
theorem turns_whole : ∀ (ns : List Int) (r : RS), (r.turns ns).whole = r.whole
  | [], r => rfl
  | a :: ns, r => by rw [turns_cons, turns_whole ns]; rfl
theorem turns_ans : ∀ (ns : List Int) (r : RS), (r.turns ns).ans = r.ans
  | [], r => rfl
  | a :: ns, r => by rw [turns_cons, turns_ans ns]; rfl
theorem many_stand (ns : List Int) : ∀ (k : Nat) (r : RS), (many ns k r).stand = r.stand + k * ns.sum
  | 0, r => by simp [many]
  | k + 1, r => by
    unfold many
    rw [many_stand ns k, turns_stand, Int.natCast_add, Int.add_mul]
    simp
    omega
theorem many_scale (ns : List Int) : ∀ (k : Nat) (r : RS), (many ns k r).scale = r.scale
  | 0, r => rfl
  | k + 1, r => by unfold many; rw [many_scale ns k, turns_scale]
theorem many_whole (ns : List Int) : ∀ (k : Nat) (r : RS), (many ns k r).whole = r.whole
  | 0, r => rfl
  | k + 1, r => by unfold many; rw [many_whole ns k, turns_whole]
theorem many_ans (ns : List Int) : ∀ (k : Nat) (r : RS), (many ns k r).ans = r.ans
  | 0, r => rfl
  | k + 1, r => by unfold many; rw [many_ans ns k, turns_ans]
theorem many_succ (ns : List Int) : ∀ (k : Nat) (r : RS), many ns (k + 1) r = (many ns k r).turns ns
  | 0, r => rfl
  | k + 1, r => by
    show many ns (k + 1) (r.turns ns) = _
    rw [many_succ ns k]
    rfl
theorem untl_go {w : Str} {mark n : Int} {k : Nat} (h : ¬ r.seen mark = w) : untl w mark n (k + 1) r = ((untl w mark n k (r.look.turn n)).1, (untl w mark n k (r.look.turn n)).2 + 1) := by
  conv => lhs; unfold untl
  rw [if_neg h]
end RS
section
variable {a b c d e f g h : D}
@[simp] theorem ini1 : putD ("scale" : Str) a [] = [(("scale" : Str), a)] := rfl
@[simp] theorem ini2 : putD ("whole" : Str) b [(("scale" : Str), a)] = [(("scale" : Str), a), (("whole" : Str), b)] := rfl
@[simp] theorem ini3 : putD ("stand" : Str) c [(("scale" : Str), a), (("whole" : Str), b)] = [(("scale" : Str), a), (("whole" : Str), b), (("stand" : Str), c)] := rfl
@[simp] theorem ini4 : putD ("behind_by" : Str) d [(("scale" : Str), a), (("whole" : Str), b), (("stand" : Str), c)] = [(("scale" : Str), a), (("whole" : Str), b), (("stand" : Str), c), (("behind_by" : Str), d)] := rfl
@[simp] theorem ini5 : putD ("answers" : Str) e [(("scale" : Str), a), (("whole" : Str), b), (("stand" : Str), c), (("behind_by" : Str), d)] = [(("scale" : Str), a), (("whole" : Str), b), (("stand" : Str), c), (("behind_by" : Str), d), (("answers" : Str), e)] := rfl
@[simp] theorem ini6 : putD ("looks" : Str) f [(("scale" : Str), a), (("whole" : Str), b), (("stand" : Str), c), (("behind_by" : Str), d), (("answers" : Str), e)] = [(("scale" : Str), a), (("whole" : Str), b), (("stand" : Str), c), (("behind_by" : Str), d), (("answers" : Str), e), (("looks" : Str), f)] := rfl
@[simp] theorem ini7 : putD ("low" : Str) g [(("scale" : Str), a), (("whole" : Str), b), (("stand" : Str), c), (("behind_by" : Str), d), (("answers" : Str), e), (("looks" : Str), f)] = [(("scale" : Str), a), (("whole" : Str), b), (("stand" : Str), c), (("behind_by" : Str), d), (("answers" : Str), e), (("looks" : Str), f), (("low" : Str), g)] := rfl
@[simp] theorem ini8 : putD ("high" : Str) h [(("scale" : Str), a), (("whole" : Str), b), (("stand" : Str), c), (("behind_by" : Str), d), (("answers" : Str), e), (("looks" : Str), f), (("low" : Str), g)] = [(("scale" : Str), a), (("whole" : Str), b), (("stand" : Str), c), (("behind_by" : Str), d), (("answers" : Str), e), (("looks" : Str), f), (("low" : Str), g), (("high" : Str), h)] := rfl
theorem no_spot6 : noF "spot" [(("scale" : Str), a), (("whole" : Str), b), (("stand" : Str), c), (("behind_by" : Str), d), (("answers" : Str), e), (("looks" : Str), f)] := show List.lookup ("spot" : Str) _ = none from rfl
theorem no_spot7 : noF "spot" [(("scale" : Str), a), (("whole" : Str), b), (("stand" : Str), c), (("behind_by" : Str), d), (("answers" : Str), e), (("looks" : Str), f), (("low" : Str), g)] := show List.lookup ("spot" : Str) _ = none from rfl
end
theorem sum_bd {b : Int} : ∀ {ns : List Int}, (∀ i ∈ ns, -b ≤ i ∧ i ≤ b) → -(b * ns.length) ≤ ns.sum ∧ ns.sum ≤ b * ns.length
  | [], _ => by simp
  | a :: ns, h => by
    have h1 := h a (by simp)
    have h2 := sum_bd (ns := ns) fun i hi => h i (by simp [hi])
    rw [List.sum_cons, List.length_cons, Int.natCast_add, Int.mul_add]
    simp
    omega
def intsOf : List D → List Int
  | [] => []
  | .int i :: r => i :: intsOf r
  | _ :: r => intsOf r
def itemsOf : D → List D
  | .tup xs => xs
  | _ => []
def stepG (inner : RS → List D → RS) (r : RS) : D → RS
  | .tup [.str x, .int a] => if x = "by" then r.turn a else if x = "to" then r.turn (a - r.stand) else r.look.tell (.str (r.seen a))
  | .tup [.str _, .int a, .tup ts] => r.rep a (intsOf ts)
  | .tup [.str x, .str w, .int n, a, b] => if x = "until" then (match a, b with
      | .int num, .int most => (r.untl w n num most.toNat).1.tell (.int (r.untl w n num most.toNat).2)
      | _, _ => r)
    else inner (r.look.tell (.str (r.seen n))) (itemsOf (if r.seen n = w then a else b))
  | _ => r
def stepS : Nat → RS → D → RS
  | 0 => stepG fun r _ => r
  | k + 1 => stepG fun r xs => xs.foldl (stepS k) r
def innS : Nat → RS → List D → RS
  | 0, r, _ => r
  | k + 1, r, xs => xs.foldl (stepS k) r
theorem stepS_eq (k : Nat) : stepS k = stepG (innS k) := by cases k <;> rfl
def runS (r : RS) (steps : List D) : RS := steps.foldl (stepS 3) r
end DL
/-! DLq: a run's numbers stay small. -/
namespace DL
open PySem PySem.Spec PyProof.Rows L2
/-- stand and answers within c -/
structure Bd (r : RS) (c : Nat) : Prop where
  sc : Sm r.scale
  lo : -((c : Int) * 2 ^ 150) ≤ r.stand
  hi : r.stand ≤ (c : Int) * 2 ^ 150
  an : r.ans.length ≤ c
theorem Bd.mono {r : RS} {c c' : Nat} (h : Bd r c) (k : c ≤ c') : Bd r c' := by
  have : (c : Int) * 2 ^ 150 ≤ (c' : Int) * 2 ^ 150 := Int.mul_le_mul_of_nonneg_right (by omega) (by omega)
  exact ⟨h.sc, by have := h.lo; omega, by have := h.hi; omega, Nat.le_trans h.an k⟩
theorem c_small {c : Nat} (h : c ≤ 2 ^ 19) : (c : Int) * 2 ^ 150 ≤ 2 ^ 169 := by omega
def Wt : Nat → Nat
  | 0 => 1
  | k + 1 => 1 + 4 * Wt k
/-- where wh says yes -/
theorem wh_int {lo hi : Int} {d : D} (h : wh lo hi d = true) : ∃ i : Int, d = .int i ∧ lo ≤ i ∧ i ≤ hi := by
  cases d with
  | int i => simp [wh] at h; exact ⟨i, rfl, h.1, h.2⟩
  | _ => simp [wh] at h
theorem wd_str {d : D} (h : wd d = true) : ∃ w : Str, d = .str w ∧ (w = "below" ∨ w = "at" ∨ w = "above") := by
  cases d with
  | str x => simp [wd] at h; exact ⟨x, rfl, by rcases h with (h | h) | h <;> simp [h]⟩
  | _ => simp [wd] at h
theorem turns_ints : ∀ {ts : List D}, (∀ t ∈ ts, wh (-12) 12 t = true) → ∃ ns : List Int, ts = ns.map .int ∧ (∀ i ∈ ns, -12 ≤ i ∧ i ≤ 12) ∧ ns.length = ts.length
  | [], _ => ⟨[], rfl, by simp, rfl⟩
  | t :: ts, h => by
    obtain ⟨i, rfl, i0, i1⟩ := wh_int (h t (by simp))
    obtain ⟨ns, rfl, h2, h3⟩ := turns_ints (ts := ts) fun x hx => h x (by simp [hx])
    exact ⟨i :: ns, rfl, fun j hj => by rcases List.mem_cons.mp hj with rfl | hj; exact ⟨i0, i1⟩; exact h2 j hj, by simp⟩
theorem intsOf_map : ∀ {ns : List Int}, intsOf (ns.map .int) = ns
  | [] => rfl
  | n :: ns => by simp [intsOf, intsOf_map (ns := ns)]
/-- the shapes of a step -/
inductive Shape (inner : D → Prop) : D → Prop
  | by_ (a : Int) : -12 ≤ a → a ≤ 12 → Shape inner (.tup [.str "by", .int a])
  | to (a : Int) : -40 ≤ a → a ≤ 40 → Shape inner (.tup [.str "to", .int a])
  | look (a : Int) : -40 ≤ a → a ≤ 40 → Shape inner (.tup [.str "look", .int a])
  | rep (a : Int) (ns : List Int) : 0 ≤ a → a < 10 ^ 40 → 1 ≤ ns.length → ns.length ≤ 6 → (∀ i ∈ ns, -12 ≤ i ∧ i ≤ 12) → Shape inner (.tup [.str "repeat", .int a, .tup (ns.map .int)])
  | untl (w : Str) (n num most : Int) : (w = "below" ∨ w = "at" ∨ w = "above") → -40 ≤ n → n ≤ 40 → -12 ≤ num → num ≤ 12 → num ≠ 0 → 1 ≤ most → most ≤ 20 → Shape inner (.tup [.str "until", .str w, .int n, .int num, .int most])
  | cond (w : Str) (n : Int) (ss os : List D) : (w = "below" ∨ w = "at" ∨ w = "above") → -40 ≤ n → n ≤ 40 → ss.length ≤ 4 → os.length ≤ 4 → (∀ s ∈ ss, inner s) → (∀ s ∈ os, inner s) → Shape inner (.tup [.str "if", .str w, .int n, .tup ss, .tup os])
theorem shape_of {f : D → Bool} {g : D → Prop} (hf : ∀ d, f d = true → ∃ ss, d = .tup ss ∧ ss.length ≤ 4 ∧ ∀ s ∈ ss, g s) {d : D} (h : oneB f d = true) : Shape g d := by
  unfold oneB at h
  split at h
  · rename_i x a
    simp at h
    rcases h with ⟨rfl, h⟩ | ⟨rfl | rfl, h⟩ <;> obtain ⟨i, rfl, i0, i1⟩ := wh_int h
    · exact .by_ i i0 i1
    · exact .to i i0 i1
    · exact .look i i0 i1
  · rename_i x a ts
    simp at h
    obtain ⟨⟨rfl, h⟩, ht⟩ := h
    simp [turnsB] at ht
    obtain ⟨i, rfl, i0, i1⟩ := wh_int h
    obtain ⟨ns, rfl, h2, h3⟩ := turns_ints ht.2
    simp at ht
    exact .rep i ns i0 (by omega) ht.1.1 ht.1.2 h2
  · rename_i x w n a b
    simp at h
    obtain ⟨⟨h1, h2⟩, ⟨⟨⟨rfl, h3⟩, h4⟩, h5⟩ | ⟨⟨rfl, h3⟩, h4⟩⟩ := h <;> obtain ⟨w, rfl, hw⟩ := wd_str h1 <;> obtain ⟨n, rfl, n0, n1⟩ := wh_int h2
    · obtain ⟨a, rfl, a0, a1⟩ := wh_int h3
      obtain ⟨b, rfl, b0, b1⟩ := wh_int h5
      simp [nz] at h4
      exact .untl w n a b hw n0 n1 a0 a1 h4 b0 b1
    · obtain ⟨ss, rfl, s1, s2⟩ := hf _ h3
      obtain ⟨os, rfl, o1, o2⟩ := hf _ h4
      exact .cond w n ss os hw n0 n1 s1 o1 s2 o2
  · cases h
def shapeK : Nat → D → Prop
  | 0 => Shape fun _ => False
  | k + 1 => Shape (shapeK k)
theorem shape_step : ∀ (k : Nat) {d : D}, stepB k d = true → Shape (fun e => ∃ j, k = j + 1 ∧ stepB j e = true) d
  | 0, d, h => shape_of (fun d q => by cases q) h
  | k + 1, d, h => shape_of (fun d q => by
    unfold innerB at q
    split at q
    · rename_i ss
      simp at q
      exact ⟨ss, rfl, q.1, fun s hs => ⟨k, rfl, q.2 s hs⟩⟩
    · cases q) h
namespace RS
theorem rep_stand {r : RS} {k : Int} {ns : List Int} (h : 0 ≤ k) : (r.rep k ns).stand = r.stand + k * ns.sum := by
  unfold rep
  split
  · rw [turns_stand]
    show (many ns 14 r).stand + (k - 14 - 1) * ns.sum + ns.sum = _
    rw [many_stand]
    have : (k - 14 - 1) * ns.sum = k * ns.sum - 14 * ns.sum - 1 * ns.sum := by rw [Int.sub_mul, Int.sub_mul]
    omega
  · rw [many_stand, Int.toNat_of_nonneg h]
theorem rep_scale {r : RS} {k : Int} {ns : List Int} : (r.rep k ns).scale = r.scale := by
  unfold rep
  split
  · rw [turns_scale]; exact many_scale ns 14 r
  · exact many_scale ns _ r
theorem rep_whole {r : RS} {k : Int} {ns : List Int} : (r.rep k ns).whole = r.whole := by
  unfold rep
  split
  · rw [turns_whole]; exact many_whole ns 14 r
  · exact many_whole ns _ r
theorem rep_ans {r : RS} {k : Int} {ns : List Int} : (r.rep k ns).ans = r.ans := by
  unfold rep
  split
  · rw [turns_ans]; exact many_ans ns 14 r
  · exact many_ans ns _ r
theorem untl_facts (w : Str) (mark n : Int) (hn : -12 ≤ n ∧ n ≤ 12) : ∀ (k : Nat) (r : RS), ((untl w mark n k r).1.scale = r.scale ∧ (untl w mark n k r).1.whole = r.whole ∧ (untl w mark n k r).1.ans = r.ans) ∧ (untl w mark n k r).2 ≤ k ∧ r.stand - 12 * k ≤ (untl w mark n k r).1.stand ∧ (untl w mark n k r).1.stand ≤ r.stand + 12 * k
  | 0, r => by simp [untl, look]
  | k + 1, r => by
    unfold untl
    split
    · simp [look]; omega
    · have := untl_facts w mark n hn k (r.look.turn n)
      obtain ⟨⟨h1, h2, h3⟩, h4, h5, h6⟩ := this
      simp at h5 h6
      refine ⟨⟨h1, h2, h3⟩, by omega, ?_, ?_⟩ <;> simp <;> omega
end RS
theorem pw_small {a s : Int} (h0 : 0 ≤ a) (h1 : a < 10 ^ 40) (hs : -72 ≤ s ∧ s ≤ 72) : -(2 ^ 150) < a * s ∧ a * s < 2 ^ 150 := by
  have h2 : a * s ≤ a * 72 := Int.mul_le_mul_of_nonneg_left hs.2 h0
  have h3 : a * (-72) ≤ a * s := Int.mul_le_mul_of_nonneg_left hs.1 h0
  omega
theorem stepG_bd {inner : RS → List D → RS} {g : D → Prop} {r : RS} {c w : Nat} (hi : ∀ (r : RS) (c : Nat) (xs : List D), Bd r c → xs.length ≤ 4 → (∀ x ∈ xs, g x) → Bd (inner r xs) (c + w)) {d : D} (hd : Shape g d) (h : Bd r c) : Bd (stepG inner r d) (c + (1 + w)) := by
  have e1 : ((c + (1 + w) : Nat) : Int) * 2 ^ 150 = (c : Int) * 2 ^ 150 + 2 ^ 150 + (w : Int) * 2 ^ 150 := by
    rw [Int.natCast_add, Int.natCast_add, Int.add_mul, Int.add_mul]; omega
  have e0 : 0 ≤ (w : Int) * 2 ^ 150 := Int.mul_nonneg (by omega) (by omega)
  have e2 : 0 ≤ (c : Int) * 2 ^ 150 := Int.mul_nonneg (by omega) (by omega)
  obtain ⟨sc, lo, hi', an⟩ := h
  cases hd with
  | by_ a a0 a1 =>
    refine ⟨sc, ?_, ?_, by show r.ans.length ≤ _; omega⟩
    · show _ ≤ r.stand + a; rw [e1]; omega
    · show r.stand + a ≤ _; rw [e1]; omega
  | to a a0 a1 =>
    refine ⟨sc, ?_, ?_, by show r.ans.length ≤ _; omega⟩
    · show _ ≤ r.stand + (a - r.stand); rw [e1]; omega
    · show r.stand + (a - r.stand) ≤ _; rw [e1]; omega
  | look a a0 a1 =>
    refine ⟨sc, ?_, ?_, ?_⟩
    · show _ ≤ r.stand; rw [e1]; omega
    · show r.stand ≤ _; rw [e1]; omega
    · show (r.ans ++ [_]).length ≤ _; simp; omega
  | rep a ns a0 a1 l1 l6 hn =>
    have hs := sum_bd hn
    have hp := pw_small a0 a1 (s := ns.sum) ⟨by omega, by omega⟩
    show Bd (r.rep a (intsOf (ns.map .int))) _
    rw [intsOf_map]
    refine ⟨by rw [RS.rep_scale]; exact sc, ?_, ?_, by rw [RS.rep_ans]; omega⟩
    · rw [RS.rep_stand a0, e1]; omega
    · rw [RS.rep_stand a0, e1]; omega
  | untl w' n num most hw n0 n1 a0 a1 az m1 m20 =>
    obtain ⟨⟨h1, h2, h3⟩, h4, h5, h6⟩ := RS.untl_facts w' n num ⟨a0, a1⟩ most.toNat r
    refine ⟨?_, ?_, ?_, ?_⟩
    · show Sm (RS.untl w' n num most.toNat r).1.scale; rw [h1]; exact sc
    · show _ ≤ (RS.untl w' n num most.toNat r).1.stand; rw [e1]; omega
    · show (RS.untl w' n num most.toNat r).1.stand ≤ _; rw [e1]; omega
    · show ((RS.untl w' n num most.toNat r).1.ans ++ [_]).length ≤ _; rw [h3]; simp; omega
  | cond w' n ss os hw n0 n1 s4 o4 hs ho =>
    have hb : Bd (r.look.tell (.str (r.seen n))) (c + 1) := by
      have e3 : ((c + 1 : Nat) : Int) * 2 ^ 150 = (c : Int) * 2 ^ 150 + 2 ^ 150 := by rw [Int.natCast_add, Int.add_mul]; omega
      refine ⟨sc, ?_, ?_, ?_⟩
      · show _ ≤ r.stand; rw [e3]; omega
      · show r.stand ≤ _; rw [e3]; omega
      · show (r.ans ++ [_]).length ≤ _; simp; omega
    show Bd (inner (r.look.tell (.str (r.seen n))) (itemsOf (if r.seen n = w' then .tup ss else .tup os))) _
    have : c + (1 + w) = c + 1 + w := by omega
    rw [this]
    split
    · exact hi _ _ ss hb s4 hs
    · exact hi _ _ os hb o4 ho
theorem fold_bd {f : RS → D → RS} {g : D → Prop} {w : Nat} (hf : ∀ (r : RS) (c : Nat) (d : D), Bd r c → g d → Bd (f r d) (c + w)) : ∀ (xs : List D) (r : RS) (c : Nat), Bd r c → (∀ x ∈ xs, g x) → Bd (xs.foldl f r) (c + xs.length * w)
  | [], r, c, h, _ => by simpa using h
  | x :: xs, r, c, h, hg => by
    have := fold_bd hf xs (f r x) (c + w) (hf r c x h (hg x (by simp))) fun y hy => hg y (by simp [hy])
    have e : c + (x :: xs).length * w = c + w + xs.length * w := by rw [List.length_cons, Nat.add_mul]; omega
    rw [e]
    exact this
theorem stepS_bd : ∀ (k : Nat) (r : RS) (c : Nat) (d : D), Bd r c → stepB k d = true → Bd (stepS k r d) (c + Wt k)
  | 0, r, c, d, h, hd => stepG_bd (w := 0) (g := fun e => ∃ j, 0 = j + 1 ∧ stepB j e = true) (fun r c xs hb _ hx => hb) (shape_step 0 hd) h
  | k + 1, r, c, d, h, hd => stepG_bd (w := 4 * Wt k) (g := fun e => ∃ j, k + 1 = j + 1 ∧ stepB j e = true) (fun r c xs hb h4 hx => by
    have := fold_bd (f := stepS k) (g := fun e => stepB k e = true) (w := Wt k) (fun r c d hb hd => stepS_bd k r c d hb hd) xs r c hb fun x hx' => by
      obtain ⟨j, e, hj⟩ := hx x hx'
      obtain rfl : k = j := by omega
      exact hj
    exact this.mono (by have := Nat.mul_le_mul_right (Wt k) h4; omega)) (shape_step (k + 1) hd) h
/-! ### steps are small data -/
section
variable {d : D}
theorem wh_gd {lo hi : Int} (a : -(10 ^ 40) ≤ lo) (b : hi ≤ 10 ^ 40) (h : wh lo hi d = true) : gd 0 d = true := by
  cases d <;> simp [wh] at h
  simp [gd, leafB]
  omega
theorem wd_gd (h : wd d = true) : gd 0 d = true := by
  cases d <;> simp [wd] at h
  have t1 : (Str.ofString "below").length = 5 := by decide
  have t2 : (Str.ofString "above").length = 5 := by decide
  have t3 : (Str.ofString "at").length = 2 := by decide
  rcases h with (h | h) | h <;> subst h <;> simp [gd, leafB, t1, t2, t3]
theorem one_gd {f : D → Bool} (hf : ∀ e, f e = true → gd 0 e = true) (h : oneB f d = true) : gd 0 d = true := by
  have t1 : (Str.ofString "by").length = 2 := by decide
  have t2 : (Str.ofString "to").length = 2 := by decide
  have t3 : (Str.ofString "look").length = 4 := by decide
  have t4 : (Str.ofString "repeat").length = 6 := by decide
  have t5 : (Str.ofString "until").length = 5 := by decide
  have t6 : (Str.ofString "if").length = 2 := by decide
  unfold oneB at h
  split at h
  · rename_i x a
    simp at h
    rcases h with ⟨rfl, h⟩ | ⟨rfl | rfl, h⟩ <;> simp [gd, gds, leafB, t1, t2, t3, wh_gd (by omega) (by omega) h]
  · rename_i x a ts
    simp at h
    obtain ⟨⟨rfl, h⟩, ht⟩ := h
    simp [turnsB] at ht
    have hts : gds 0 ts = true := gds_iff.mpr fun y hy => wh_gd (by omega) (by omega) (ht.2 y hy)
    simp [gd, gds, leafB, t4, wh_gd (by omega) (by omega) h, hts]
    omega
  · rename_i x w n a b
    simp at h
    obtain ⟨⟨h1, h2⟩, ⟨⟨⟨rfl, h3⟩, _⟩, h5⟩ | ⟨⟨rfl, h3⟩, h4⟩⟩ := h
    · simp [gd, gds, leafB, t5, wd_gd h1, wh_gd (by omega) (by omega) h2, wh_gd (by omega) (by omega) h3, wh_gd (by omega) (by omega) h5]
    · simp [gd, gds, leafB, t6, wd_gd h1, wh_gd (by omega) (by omega) h2, hf _ h3, hf _ h4]
  · cases h
theorem step_gd : ∀ (k : Nat) (d : D), stepB k d = true → gd 0 d = true
  | 0, d, h => one_gd (fun e q => by cases q) h
  | k + 1, d, h => one_gd (fun e q => by
    unfold innerB at q
    split at q
    · rename_i ss
      simp at q
      have : gds 0 ss = true := gds_iff.mpr fun y hy => step_gd k y (q.2 y hy)
      simp [gd, this]
      omega
    · cases q) h
end
end DL
/-! DLs: swings and their repeats, in plain words. -/
namespace DL
open PySem PySem.Spec PyProof.Rows L2
theorem mi_cases (a b : Int) : (b < a ∧ mi a b = b) ∨ (a ≤ b ∧ mi a b = a) := by unfold mi; split <;> omega
theorem ma_cases (a b : Int) : (b > a ∧ ma a b = b) ∨ (b ≤ a ∧ ma a b = a) := by unfold ma; split <;> omega
/-- one turn's lag -/
def cl (sc wh lag n : Int) : Int := mi wh (ma 0 (lag + n * sc))
def swing (sc wh : Int) (ns : List Int) (lag : Int) : Int := ns.foldl (cl sc wh) lag
theorem cl_in {sc wh lag n : Int} (h : 0 ≤ wh) : 0 ≤ cl sc wh lag n ∧ cl sc wh lag n ≤ wh := by
  unfold cl
  rcases mi_cases wh (ma 0 (lag + n * sc)) with ⟨h1, h2⟩ | ⟨h1, h2⟩ <;> rcases ma_cases 0 (lag + n * sc) with ⟨h3, h4⟩ | ⟨h3, h4⟩ <;> omega
theorem swing_in {sc wh : Int} (h : 0 ≤ wh) : ∀ (ns : List Int) (lag : Int), 0 ≤ lag → lag ≤ wh → 0 ≤ swing sc wh ns lag ∧ swing sc wh ns lag ≤ wh
  | [], lag, h0, h1 => ⟨h0, h1⟩
  | n :: ns, lag, h0, h1 => swing_in h ns _ (cl_in h).1 (cl_in h).2
theorem swing_snoc {sc wh lag n : Int} {ns : List Int} : swing sc wh (ns ++ [n]) lag = cl sc wh (swing sc wh ns lag) n := by simp [swing]
/-- a swing is a shift within two bounds -/
theorem swing_form {sc wh : Int} (hw : 0 ≤ wh) (ns : List Int) : ∃ a b : Int, 0 ≤ a ∧ a ≤ b ∧ b ≤ wh ∧ ∀ x, 0 ≤ x → x ≤ wh → swing sc wh ns x = mi b (ma a (x + ns.sum * sc)) := by
  suffices h : ∀ (rs : List Int), ∃ a b : Int, 0 ≤ a ∧ a ≤ b ∧ b ≤ wh ∧ ∀ x, 0 ≤ x → x ≤ wh → swing sc wh rs.reverse x = mi b (ma a (x + rs.reverse.sum * sc)) by
    have := h ns.reverse
    rwa [List.reverse_reverse] at this
  intro rs
  induction rs with
  | nil =>
    refine ⟨0, wh, by omega, hw, by omega, fun x h0 h1 => ?_⟩
    simp [swing]
    rcases mi_cases wh (ma 0 x) with ⟨h1, h2⟩ | ⟨h1, h2⟩ <;> rcases ma_cases 0 x with ⟨h3, h4⟩ | ⟨h3, h4⟩ <;> omega
  | cons n rs ih =>
    obtain ⟨a, b, h1, h2, h3, h4⟩ := ih
    have ca := cl_in (sc := sc) (wh := wh) (lag := a) (n := n) hw
    have cb := cl_in (sc := sc) (wh := wh) (lag := b) (n := n) hw
    have key : ∀ t u : Int, cl sc wh a n ≤ cl sc wh b n ∧ mi wh (ma 0 (mi b (ma a t) + u)) = mi (mi wh (ma 0 (b + u))) (ma (mi wh (ma 0 (a + u))) (t + u)) := by
      intro t u
      refine ⟨?_, ?_⟩
      · unfold cl
        generalize n * sc = v
        rcases mi_cases wh (ma 0 (a + v)) with ⟨p1, p2⟩ | ⟨p1, p2⟩ <;> rcases ma_cases 0 (a + v) with ⟨p3, p4⟩ | ⟨p3, p4⟩ <;> rcases mi_cases wh (ma 0 (b + v)) with ⟨p5, p6⟩ | ⟨p5, p6⟩ <;> rcases ma_cases 0 (b + v) with ⟨p7, p8⟩ | ⟨p7, p8⟩ <;> omega
      · unfold mi ma
        split <;> split <;> split <;> (try split) <;> (try split) <;> (try split) <;> (try split) <;> (try split) <;> omega
    refine ⟨cl sc wh a n, cl sc wh b n, ca.1, (key 0 0).1, cb.2, fun x h0 h5 => ?_⟩
    rw [List.reverse_cons, swing_snoc, h4 x h0 h5]
    unfold cl
    rw [(key _ _).2]
    congr 2
    simp [Int.add_mul]
    omega
/-- .. many times -/
def swings (sc wh : Int) (ns : List Int) : Nat → Int → Int
  | 0, x => x
  | k + 1, x => swings sc wh ns k (swing sc wh ns x)
theorem swings_succ {sc wh : Int} {ns : List Int} : ∀ (k : Nat) (x : Int), swings sc wh ns (k + 1) x = swing sc wh ns (swings sc wh ns k x)
  | 0, x => rfl
  | k + 1, x => by
    show swings sc wh ns (k + 1) (swing sc wh ns x) = _
    rw [swings_succ k]
    rfl
theorem swings_in {sc wh : Int} (h : 0 ≤ wh) {ns : List Int} : ∀ (k : Nat) (x : Int), 0 ≤ x → x ≤ wh → 0 ≤ swings sc wh ns k x ∧ swings sc wh ns k x ≤ wh
  | 0, x, h0, h1 => ⟨h0, h1⟩
  | k + 1, x, h0, h1 => swings_in h k _ (swing_in h ns x h0 h1).1 (swing_in h ns x h0 h1).2
/-- the closed form -/
theorem swings_form {sc wh : Int} (hw : 0 ≤ wh) {ns : List Int} {a b : Int} (h1 : 0 ≤ a) (h2 : a ≤ b) (h3 : b ≤ wh) (hf : ∀ x, 0 ≤ x → x ≤ wh → swing sc wh ns x = mi b (ma a (x + ns.sum * sc))) {x : Int} (h0 : 0 ≤ x) (hx : x ≤ wh) (k : Nat) :
    swings sc wh ns (k + 1) x = if 0 ≤ ns.sum * sc then mi b (ma (a + k * (ns.sum * sc)) (x + (k * (ns.sum * sc) + ns.sum * sc))) else ma a (mi (b + k * (ns.sum * sc)) (x + (k * (ns.sum * sc) + ns.sum * sc))) := by
  generalize ht : ns.sum * sc = t at *
  induction k with
  | zero =>
    show swing sc wh ns x = _
    rw [hf x h0 hx]
    simp
    intro hneg
    unfold mi ma
    split <;> split <;> (try split) <;> (try split) <;> omega
  | succ k ih =>
    have hin := swings_in hw (sc := sc) (ns := ns) (k + 1) x h0 hx
    rw [swings_succ (k + 1), hf _ hin.1 hin.2, ih]
    have e : ((k + 1 : Nat) : Int) * t = k * t + t := by rw [Int.natCast_add, Int.add_mul]; simp
    rw [e]
    by_cases ht0 : 0 ≤ t
    · rw [if_pos ht0, if_pos ht0]
      have hk : 0 ≤ (k : Int) * t := Int.mul_nonneg (by omega) ht0
      generalize (k : Int) * t = u at *
      unfold mi ma
      split <;> split <;> (try split) <;> (try split) <;> (try split) <;> (try split) <;> omega
    · rw [if_neg ht0, if_neg ht0]
      have hk : (k : Int) * t ≤ 0 := Int.mul_nonpos_of_nonneg_of_nonpos (by omega) (by omega)
      generalize (k : Int) * t = u at *
      unfold mi ma
      split <;> split <;> (try split) <;> (try split) <;> (try split) <;> (try split) <;> omega
/-- from the seventh on all is as it was, where the swing is no more than six turns wide -/
theorem swings_still {sc wh : Int} (hs : 0 < sc) (hw : 0 ≤ wh) (h6 : wh ≤ 6 * sc) {ns : List Int} {x : Int} (h0 : 0 ≤ x) (hx : x ≤ wh) {j : Nat} (hj : 7 ≤ j) : swings sc wh ns j x = swings sc wh ns 7 x := by
  obtain ⟨a, b, h1, h2, h3, hf⟩ := swing_form (sc := sc) hw ns
  obtain ⟨k, rfl⟩ : ∃ k, j = k + 1 := ⟨j - 1, by omega⟩
  rw [swings_form hw h1 h2 h3 hf h0 hx k, swings_form hw h1 h2 h3 hf h0 hx 6]
  have hk6 : (6 : Int) ≤ k := by omega
  by_cases hz : ns.sum = 0
  · rw [hz]; simp
  · by_cases hp : 0 < ns.sum
    · have t1 : sc ≤ ns.sum * sc := by
        have := Int.mul_le_mul_of_nonneg_right (show (1 : Int) ≤ ns.sum by omega) (Int.le_of_lt hs)
        omega
      generalize ns.sum * sc = t at *
      have u1 : 6 * t ≤ (k : Int) * t := Int.mul_le_mul_of_nonneg_right hk6 (by omega)
      rw [if_pos (by omega), if_pos (by omega)]
      generalize (k : Int) * t = u at *
      have e6 : ((6 : Nat) : Int) * t = 6 * t := rfl
      rw [e6]
      unfold mi ma
      split <;> split <;> (try split) <;> (try split) <;> omega
    · have t1 : ns.sum * sc ≤ -sc := by
        have := Int.mul_le_mul_of_nonneg_right (show ns.sum ≤ -1 by omega) (Int.le_of_lt hs)
        omega
      generalize ns.sum * sc = t at *
      have u1 : (k : Int) * t ≤ 6 * t := by
        have := Int.mul_le_mul_of_nonpos_right hk6 (show t ≤ 0 by omega)
        omega
      rw [if_neg (by omega), if_neg (by omega)]
      generalize (k : Int) * t = u at *
      have e6 : ((6 : Nat) : Int) * t = 6 * t := rfl
      rw [e6]
      unfold mi ma
      split <;> split <;> (try split) <;> (try split) <;> omega
end DL
namespace DL
/-- the closed form by what the swing does at both bounds -/
theorem swings_ends {sc wh : Int} (hw : 0 ≤ wh) {ns : List Int} {x : Int} (h0 : 0 ≤ x) (hx : x ≤ wh) (k : Nat) :
    swings sc wh ns (k + 1) x = if 0 ≤ ns.sum * sc then mi (swing sc wh ns wh) (ma (swing sc wh ns 0 + k * (ns.sum * sc)) (x + (k * (ns.sum * sc) + ns.sum * sc))) else ma (swing sc wh ns 0) (mi (swing sc wh ns wh + k * (ns.sum * sc)) (x + (k * (ns.sum * sc) + ns.sum * sc))) := by
  obtain ⟨a, b, h1, h2, h3, hf⟩ := swing_form (sc := sc) hw ns
  rw [swings_form hw h1 h2 h3 hf h0 hx k, hf 0 (by omega) hw, hf wh hw (by omega)]
  generalize ns.sum * sc = t
  by_cases ht : 0 ≤ t
  · have hk : 0 ≤ (k : Int) * t := Int.mul_nonneg (by omega) ht
    rw [if_pos ht, if_pos ht]
    generalize (k : Int) * t = u at *
    have e1 : mi b (ma a (wh + t)) = b := by unfold mi ma; split <;> split <;> omega
    rw [e1]
    have c1 := ma_cases a (0 + t)
    have c2 := mi_cases b (ma a (0 + t))
    have c3 := ma_cases (a + u) (x + (u + t))
    have c4 := mi_cases b (ma (a + u) (x + (u + t)))
    have c5 := ma_cases (mi b (ma a (0 + t)) + u) (x + (u + t))
    have c6 := mi_cases b (ma (mi b (ma a (0 + t)) + u) (x + (u + t)))
    omega
  · have hk : (k : Int) * t ≤ 0 := Int.mul_nonpos_of_nonneg_of_nonpos (by omega) (by omega)
    rw [if_neg ht, if_neg ht]
    generalize (k : Int) * t = u at *
    have e1 : mi b (ma a (0 + t)) = a := by unfold mi ma; split <;> split <;> omega
    rw [e1]
    have c1 := ma_cases a (wh + t)
    have c2 := mi_cases b (ma a (wh + t))
    have c3 := mi_cases (b + u) (x + (u + t))
    have c4 := ma_cases a (mi (b + u) (x + (u + t)))
    have c5 := mi_cases (mi b (ma a (wh + t)) + u) (x + (u + t))
    have c6 := ma_cases a (mi (mi b (ma a (wh + t)) + u) (x + (u + t)))
    omega
end DL
/-! DLt: what a run tells of repeats is what all turns would tell. -/
namespace DL
open PySem PySem.Spec PyProof.Rows L2
theorem mi_assoc (a b c : Int) : mi (mi a b) c = mi a (mi b c) := by unfold mi; split <;> split <;> (try split) <;> omega
theorem ma_assoc (a b c : Int) : ma (ma a b) c = ma a (ma b c) := by unfold ma; split <;> split <;> (try split) <;> omega
theorem mi_add (a b c : Int) : c + mi a b = mi (c + a) (c + b) := by unfold mi; split <;> split <;> omega
theorem ma_add (a b c : Int) : c + ma a b = ma (c + a) (c + b) := by unfold ma; split <;> split <;> omega
/-- the least and the greatest place of one row of turns, from the place at its beginning without the lag -/
def lowA (sc wh : Int) : Int → Int → List Int → Int
  | lag, n, [] => n * sc - cl sc wh lag n
  | lag, n, n2 :: ns => mi (n * sc - cl sc wh lag n) (n * sc + lowA sc wh (cl sc wh lag n) n2 ns)
def highA (sc wh : Int) : Int → Int → List Int → Int
  | lag, n, [] => n * sc - cl sc wh lag n
  | lag, n, n2 :: ns => ma (n * sc - cl sc wh lag n) (n * sc + highA sc wh (cl sc wh lag n) n2 ns)
namespace RS
theorem turn_lag {r : RS} {n : Int} : (r.turn n).lag = cl r.scale r.whole r.lag n := rfl
theorem turn_low {r : RS} {n : Int} : (r.turn n).low = mi r.low (r.stand * r.scale + (n * r.scale - cl r.scale r.whole r.lag n)) := by
  show mi r.low ((r.stand + n) * r.scale - cl r.scale r.whole r.lag n) = _
  congr 1
  rw [Int.add_mul]; omega
theorem turn_high {r : RS} {n : Int} : (r.turn n).high = ma r.high (r.stand * r.scale + (n * r.scale - cl r.scale r.whole r.lag n)) := by
  show ma r.high ((r.stand + n) * r.scale - cl r.scale r.whole r.lag n) = _
  congr 1
  rw [Int.add_mul]; omega
theorem turns_lag : ∀ (ns : List Int) (r : RS), (r.turns ns).lag = swing r.scale r.whole ns r.lag
  | [], r => rfl
  | n :: ns, r => by rw [turns_cons, turns_lag ns]; rfl
theorem many_lag (ns : List Int) : ∀ (k : Nat) (r : RS), (many ns k r).lag = swings r.scale r.whole ns k r.lag
  | 0, r => rfl
  | k + 1, r => by
    show (many ns k (r.turns ns)).lag = swings r.scale r.whole ns k (swing r.scale r.whole ns r.lag)
    rw [many_lag ns k, turns_lag, turns_scale, turns_whole]
theorem turns_looks : ∀ (ns : List Int) (r : RS), (r.turns ns).looks = r.looks
  | [], r => rfl
  | a :: ns, r => by rw [turns_cons, turns_looks ns]; rfl
theorem many_looks (ns : List Int) : ∀ (k : Nat) (r : RS), (many ns k r).looks = r.looks
  | 0, r => rfl
  | k + 1, r => by unfold many; rw [many_looks ns k, turns_looks]
theorem turns_low : ∀ (ns : List Int) (n : Int) (r : RS), (r.turns (n :: ns)).low = mi r.low (r.stand * r.scale + lowA r.scale r.whole r.lag n ns)
  | [], n, r => turn_low
  | n2 :: ns, n, r => by
    have e : lowA r.scale r.whole r.lag n (n2 :: ns) = mi (n * r.scale - cl r.scale r.whole r.lag n) (n * r.scale + lowA r.scale r.whole (cl r.scale r.whole r.lag n) n2 ns) := rfl
    rw [turns_cons, turns_low ns n2, turn_low, turn_stand, turn_scale, turn_whole, turn_lag, e, mi_assoc, mi_add]
    congr 2
    rw [Int.add_mul]; omega
theorem turns_high : ∀ (ns : List Int) (n : Int) (r : RS), (r.turns (n :: ns)).high = ma r.high (r.stand * r.scale + highA r.scale r.whole r.lag n ns)
  | [], n, r => turn_high
  | n2 :: ns, n, r => by
    have e : highA r.scale r.whole r.lag n (n2 :: ns) = ma (n * r.scale - cl r.scale r.whole r.lag n) (n * r.scale + highA r.scale r.whole (cl r.scale r.whole r.lag n) n2 ns) := rfl
    rw [turns_cons, turns_high ns n2, turn_high, turn_stand, turn_scale, turn_whole, turn_lag, e, ma_assoc, ma_add]
    congr 2
    rw [Int.add_mul]; omega
theorem ext' {r r' : RS} (h1 : r.scale = r'.scale) (h2 : r.whole = r'.whole) (h3 : r.stand = r'.stand) (h4 : r.lag = r'.lag) (h5 : r.ans = r'.ans) (h6 : r.looks = r'.looks) (h7 : r.low = r'.low) (h8 : r.high = r'.high) : r = r' := by
  cases r; cases r'; simp_all
/-- what a run keeps -/
structure Fit (r : RS) : Prop where
  sc : 0 < r.scale
  l0 : 0 ≤ r.lag
  lw : r.lag ≤ r.whole
  w6 : r.whole ≤ 6 * r.scale
theorem rep_many {r : RS} (f : Fit r) {ns : List Int} {k : Int} (hk : 0 ≤ k) : r.rep k ns = many ns k.toNat r := by
  by_cases h14 : k > 14
  · obtain ⟨i, rfl⟩ : ∃ i : Nat, k = (i : Int) + 15 := ⟨(k - 15).toNat, by omega⟩
    have e0 : ((i : Int) + 15).toNat = (14 + i) + 1 := by omega
    rw [e0, many_succ]
    unfold rep
    rw [if_pos h14]
    have e1 : ((i : Int) + 15 - 14 - 1) = i := by omega
    rw [e1]
    have hw : 0 ≤ r.whole := Int.le_trans f.l0 f.lw
    cases ns with
    | nil =>
      have em : ∀ (j : Nat) (r : RS), many [] j r = r := by
        intro j
        induction j with
        | zero => intro r; rfl
        | succ j ih => intro r; unfold many; rw [ih]; rfl
      rw [em, em]
      simp [turns]
    | cons n ns =>
      have still : ∀ j : Nat, 7 ≤ j → (many (n :: ns) j r).lag = swings r.scale r.whole (n :: ns) 7 r.lag := fun j hj => by
        rw [many_lag, swings_still f.sc hw f.w6 f.l0 f.lw hj]
      generalize hx : swings r.scale r.whole (n :: ns) 7 r.lag = x at still
      generalize hA : lowA r.scale r.whole x n ns = A
      generalize hB : highA r.scale r.whole x n ns = B
      generalize hT : (n :: ns).sum * r.scale = T
      have hD : ∀ j : Nat, (many (n :: ns) (j + 1) r).stand * r.scale = (many (n :: ns) j r).stand * r.scale + T := fun j => by
        rw [many_stand, many_stand, ← hT, ← Int.add_mul]
        congr 1
        rw [Int.natCast_add, Int.add_mul]; simp; omega
      have low1 : ∀ j : Nat, 7 ≤ j → (many (n :: ns) (j + 1) r).low = mi (many (n :: ns) j r).low ((many (n :: ns) j r).stand * r.scale + A) := fun j hj => by
        rw [many_succ, turns_low, many_scale, many_whole, still j hj, hA]
      have high1 : ∀ j : Nat, 7 ≤ j → (many (n :: ns) (j + 1) r).high = ma (many (n :: ns) j r).high ((many (n :: ns) j r).stand * r.scale + B) := fun j hj => by
        rw [many_succ, turns_high, many_scale, many_whole, still j hj, hB]
      have up : ∀ i : Nat, (0 ≤ T → (many (n :: ns) 13 r).stand * r.scale ≤ (many (n :: ns) (14 + i) r).stand * r.scale) ∧ (T ≤ 0 → (many (n :: ns) (14 + i) r).stand * r.scale ≤ (many (n :: ns) 13 r).stand * r.scale) := by
        intro i
        induction i with
        | zero => have := hD 13; constructor <;> intro _ <;> simp at this ⊢ <;> omega
        | succ i ih =>
          have := hD (14 + i)
          rw [← Nat.add_assoc]
          constructor
          · intro hT0; have := ih.1 hT0; omega
          · intro hT0; have := ih.2 hT0; omega
      have l14 := low1 13 (by omega)
      have h14' := high1 13 (by omega)
      have lowi : ∀ i : Nat, mi (many (n :: ns) (14 + i) r).low ((many (n :: ns) (14 + i) r).stand * r.scale + A) = mi (many (n :: ns) 14 r).low ((many (n :: ns) (14 + i) r).stand * r.scale + A) := by
        intro i
        induction i with
        | zero => rfl
        | succ i ih =>
          rw [← Nat.add_assoc, low1 (14 + i) (by omega), ih]
          have := hD (14 + i)
          have u := up i
          simp only [Nat.reduceAdd] at l14
          unfold mi at l14 ⊢
          split at l14 <;> split <;> split <;> (try split) <;> (try split) <;> omega
      have highi : ∀ i : Nat, ma (many (n :: ns) (14 + i) r).high ((many (n :: ns) (14 + i) r).stand * r.scale + B) = ma (many (n :: ns) 14 r).high ((many (n :: ns) (14 + i) r).stand * r.scale + B) := by
        intro i
        induction i with
        | zero => rfl
        | succ i ih =>
          rw [← Nat.add_assoc, high1 (14 + i) (by omega), ih]
          have := hD (14 + i)
          have u := up i
          simp only [Nat.reduceAdd] at h14'
          unfold ma at h14' ⊢
          split at h14' <;> split <;> split <;> (try split) <;> (try split) <;> omega
      have st : (many (n :: ns) 14 r).stand + (i : Int) * (n :: ns).sum = (many (n :: ns) (14 + i) r).stand := by
        rw [many_stand, many_stand, Int.natCast_add, Int.add_mul]
        omega
      refine ext' ?_ ?_ ?_ ?_ ?_ ?_ ?_ ?_
      · rw [turns_scale, turns_scale, many_scale]; exact (many_scale _ _ _).symm
      · rw [turns_whole, turns_whole, many_whole]; exact (many_whole _ _ _).symm
      · rw [turns_stand, turns_stand]
        show (many (n :: ns) 14 r).stand + (i : Int) * (n :: ns).sum + _ = _
        rw [st]
      · rw [turns_lag, turns_lag]
        show swing (many (n :: ns) 14 r).scale (many (n :: ns) 14 r).whole _ (many (n :: ns) 14 r).lag = _
        rw [many_scale, many_whole, many_scale, many_whole, still 14 (by omega), still (14 + i) (by omega)]
      · rw [turns_ans, turns_ans, many_ans]; exact (many_ans _ _ _).symm
      · rw [turns_looks, turns_looks, many_looks]; exact (many_looks _ _ _).symm
      · rw [turns_low, turns_low]
        show mi (many (n :: ns) 14 r).low (((many (n :: ns) 14 r).stand + (i : Int) * (n :: ns).sum) * (many (n :: ns) 14 r).scale + lowA (many (n :: ns) 14 r).scale (many (n :: ns) 14 r).whole (many (n :: ns) 14 r).lag n ns) = _
        rw [st, many_scale, many_whole, many_scale, many_whole, still 14 (by omega), still (14 + i) (by omega), hA, lowi]
      · rw [turns_high, turns_high]
        show ma (many (n :: ns) 14 r).high (((many (n :: ns) 14 r).stand + (i : Int) * (n :: ns).sum) * (many (n :: ns) 14 r).scale + highA (many (n :: ns) 14 r).scale (many (n :: ns) 14 r).whole (many (n :: ns) 14 r).lag n ns) = _
        rw [st, many_scale, many_whole, many_scale, many_whole, still 14 (by omega), still (14 + i) (by omega), hB, highi]
  · unfold rep
    rw [if_neg h14]
end RS
end DL
/-! DLu: valid plays and slacks, their common scale. -/
namespace DL
open PySem PySem.Spec PyProof.Rows L2
structure VP (lo hi p q r s : Int) : Prop where
  mach : machB (.tup [.int lo, .int hi]) = true
  play : playB lo hi (.tup [.int p, .int q]) = true
  slack : slackB p q (.tup [.int r, .int s]) = true
  q2 : q < 2 ^ 100
  s2 : s < 2 ^ 100
structure VF (lo hi p q r s : Int) : Prop where
  l0 : 0 ≤ lo
  lh : lo ≤ hi
  h6 : hi ≤ 6
  q1 : 1 ≤ q
  s1 : 1 ≤ s
  p0 : 0 ≤ p
  p6 : p ≤ 6 * q
  r0 : 0 ≤ r
  rp : r * q ≤ p * s
  r6 : r ≤ 6 * s
theorem VP.f {lo hi p q r s : Int} (v : VP lo hi p q r s) : VF lo hi p q r s := by
  have a := v.mach
  have b := v.play
  have c := v.slack
  simp [machB] at a
  simp [playB, fracB] at b
  simp [slackB, fracB] at c
  obtain ⟨⟨a1, a2⟩, a3⟩ := a
  obtain ⟨⟨⟨b1, _⟩, _⟩, b2, b3⟩ := b
  obtain ⟨⟨⟨c1, _⟩, _⟩, c2, c3⟩ := c
  have p0 : 0 ≤ lo * q := Int.mul_nonneg a1 (by omega)
  have p6 : hi * q ≤ 6 * q := Int.mul_le_mul_of_nonneg_right a3 (by omega)
  have r6 : r ≤ 6 * s := by
    have h1 : p * s ≤ 6 * q * s := Int.mul_le_mul_of_nonneg_right (by omega) (by omega)
    have h2 : r * q ≤ (6 * s) * q := by
      have : 6 * q * s = 6 * s * q := by rw [Int.mul_assoc, Int.mul_comm q s, ← Int.mul_assoc]
      omega
    exact Int.le_of_mul_le_mul_right h2 (by omega)
  exact ⟨a1, a2, a3, b1, c1, by omega, by omega, c2, c3, r6⟩
theorem VP.g {lo hi p q r s : Int} (v : VP lo hi p q r s) : gd 0 (.tup [.int lo, .int hi]) = true ∧ gd 0 (.tup [.int p, .int q]) = true ∧ gd 0 (.tup [.int r, .int s]) = true := by
  have f := v.f
  obtain ⟨l0, lh, h6, q1, s1, p0, p6, r0, rp, r6⟩ := f
  have := v.q2
  have := v.s2
  simp [gd, gds, leafB]
  omega
theorem low_le {a b : Int} (h : 0 < b) : low2 a b ≤ b := by
  have hg := gcd_le (x := a) h
  have hp := low_pos (a := a) h
  have e := (low_eq (a := a) (b := b)).2
  have : low2 a b * 1 ≤ low2 a b * (Int.gcd a b : Int) := Int.mul_le_mul_of_nonneg_left hg.1 (Int.le_of_lt hp)
  omega
theorem vp_of {lo hi P R b : Int} (h0 : 0 ≤ lo) (h1 : lo ≤ hi) (h6 : hi ≤ 6) (b0 : 0 < b) (b1 : b < 2 ^ 100) (p1 : lo * b ≤ P) (p2 : P ≤ hi * b) (r0 : 0 ≤ R) (r1 : R ≤ P) : VP lo hi (low1 P b) (low2 P b) (low1 R b) (low2 R b) := by
  have g1 := gcd_le (x := P) b0
  have g2 := gcd_le (x := R) b0
  have e1 := low_eq (a := P) (b := b)
  have e2 := low_eq (a := R) (b := b)
  have q1 := low_pos (a := P) b0
  have q2 := low_pos (a := R) b0
  have l1 := low_le (a := P) b0
  have l2 := low_le (a := R) b0
  have n1 := low_low (low_gcd (a := P) b0)
  have n2 := low_low (low_gcd (a := R) b0)
  have rr : 0 ≤ low1 R b := Int.ediv_nonneg r0 (by omega)
  generalize hG1 : (Int.gcd P b : Int) = G1 at *
  generalize hG2 : (Int.gcd R b : Int) = G2 at *
  generalize low1 P b = p at *
  generalize low2 P b = q at *
  generalize low1 R b = r at *
  generalize low2 R b = s at *
  have c1 : lo * q ≤ p := by
    have : lo * q * G1 ≤ p * G1 := by rw [Int.mul_assoc, ← e1.2, ← e1.1]; exact p1
    exact Int.le_of_mul_le_mul_right this (by omega)
  have c2 : p ≤ hi * q := by
    have : p * G1 ≤ hi * q * G1 := by rw [Int.mul_assoc, ← e1.2, ← e1.1]; exact p2
    exact Int.le_of_mul_le_mul_right this (by omega)
  have c3 : r * q ≤ p * s := by
    have x1 : r * q * (G1 * G2) = R * b := by
      rw [show r * q * (G1 * G2) = (r * G2) * (q * G1) by simp [Int.mul_comm, Int.mul_left_comm, Int.mul_assoc], ← e2.1, ← e1.2]
    have x2 : p * s * (G1 * G2) = P * b := by
      rw [show p * s * (G1 * G2) = (p * G1) * (s * G2) by simp [Int.mul_comm, Int.mul_left_comm, Int.mul_assoc], ← e1.1, ← e2.2]
    have x3 : R * b ≤ P * b := Int.mul_le_mul_of_nonneg_right r1 (Int.le_of_lt b0)
    exact Int.le_of_mul_le_mul_right (show r * q * (G1 * G2) ≤ p * s * (G1 * G2) by omega) (Int.mul_pos (by omega) (by omega))
  refine ⟨?_, ?_, ?_, by omega, by omega⟩
  · simp [machB, h0, h1, h6]
  · simp [playB, fracB, n1.1, n1.2, c1, c2]; omega
  · simp [slackB, fracB, n2.1, n2.2, rr, c3]; omega
/-- the common scale -/
structure SF (q s S : Int) (g q' s' : Int) : Prop where
  g0 : 0 < g
  eq : q = q' * g
  es : s = s' * g
  q0 : 0 < q'
  s0 : 0 < s'
  eS : S = q' * s' * g
  dq : S / q = s'
  ds : S / s = q'
theorem scale_facts {q s : Int} (hq : 0 < q) (hs : 0 < s) : ∃ g q' s', SF q s (q * s / (Int.gcd q s : Int)) g q' s' := by
  have hg := gcd_le (x := q) hs
  have eq := (low_eq (a := q) (b := s)).1
  have es := (low_eq (a := q) (b := s)).2
  have q0 : 0 < low1 q s := Int.ediv_pos_of_pos_of_dvd hq (by omega) (Int.gcd_dvd_left ..)
  have s0 : 0 < low2 q s := low_pos hs
  generalize (Int.gcd q s : Int) = g at *
  generalize low1 q s = q' at *
  generalize low2 q s = s' at *
  have eS : q * s / g = q' * s' * g := by
    have : q * s = (q' * s' * g) * g := by
      rw [eq, es]
      rw [Int.mul_assoc q' g, ← Int.mul_assoc g s' g, Int.mul_comm g s', Int.mul_assoc s' g g, ← Int.mul_assoc q' s', Int.mul_assoc (q' * s') g g]
    rw [this]
    exact Int.mul_ediv_cancel _ (by omega)
  have dq : q' * s' * g / q = s' := by
    have : q' * s' * g = s' * q := by rw [eq, Int.mul_comm q' s', Int.mul_assoc]
    rw [this]
    exact Int.mul_ediv_cancel _ (by omega)
  have ds : q' * s' * g / s = q' := by
    have : q' * s' * g = q' * s := by rw [es, Int.mul_assoc]
    rw [this]
    exact Int.mul_ediv_cancel _ (by omega)
  exact ⟨g, q', s', by omega, eq, es, q0, s0, eS, by rw [eS]; exact dq, by rw [eS]; exact ds⟩
/-- the run that begins -/
def newR (sc wh lag : Int) : RS := ⟨sc, wh, 0, lag, [], 0, -lag, -lag⟩
def runOf (p q r s : Int) : RS := newR (q * s / (Int.gcd q s : Int)) (p * (q * s / (Int.gcd q s : Int) / q)) (r * (q * s / (Int.gcd q s : Int) / s))
theorem fit_of {lo hi p q r s : Int} (v : VF lo hi p q r s) : RS.Fit (runOf p q r s) := by
  obtain ⟨g, q', s', sf⟩ := scale_facts (q := q) (s := s) (by have := v.q1; omega) (by have := v.s1; omega)
  have hq := v.q1
  refine ⟨?_, ?_, ?_, ?_⟩
  · show 0 < q * s / (Int.gcd q s : Int)
    rw [sf.eS]; exact Int.mul_pos (Int.mul_pos sf.q0 sf.s0) sf.g0
  · show 0 ≤ r * (q * s / (Int.gcd q s : Int) / s)
    rw [sf.ds]; exact Int.mul_nonneg v.r0 (Int.le_of_lt sf.q0)
  · show r * (q * s / (Int.gcd q s : Int) / s) ≤ p * (q * s / (Int.gcd q s : Int) / q)
    rw [sf.ds, sf.dq]
    have h := v.rp
    rw [sf.eq, sf.es, ← Int.mul_assoc, ← Int.mul_assoc] at h
    exact Int.le_of_mul_le_mul_right h sf.g0
  · show p * (q * s / (Int.gcd q s : Int) / q) ≤ 6 * (q * s / (Int.gcd q s : Int))
    rw [sf.dq, sf.eS]
    have h := Int.mul_le_mul_of_nonneg_right v.p6 (Int.le_of_lt sf.s0)
    have e : 6 * q * s' = 6 * (q' * s' * g) := by
      rw [sf.eq, Int.mul_assoc, Int.mul_assoc q' g s', Int.mul_comm g s', ← Int.mul_assoc q' s' g]
    omega
theorem runOf_small {lo hi p q r s : Int} (v : VF lo hi p q r s) (hq : q < 2 ^ 100) (hs : s < 2 ^ 100) : Bd (runOf p q r s) 0 := by
  have h1 := v.q1
  have h2 := v.s1
  have hqs : q * s < 2 ^ 200 := by
    have := Int.mul_lt_mul hq (Int.le_of_lt hs) (show 0 < s by omega) (by omega)
    omega
  have h0 : 0 ≤ q * s := Int.mul_nonneg (by omega) (by omega)
  have g0 := gcd_le (x := q) (y := s) (by omega)
  have hS : 0 ≤ q * s / (Int.gcd q s : Int) := Int.ediv_nonneg h0 (by omega)
  have hS2 : q * s / (Int.gcd q s : Int) ≤ q * s := Int.ediv_le_self _ h0
  refine ⟨⟨?_, ?_⟩, ?_, ?_, ?_⟩
  · show _ < q * s / (Int.gcd q s : Int); omega
  · show q * s / (Int.gcd q s : Int) < _; omega
  · show _ ≤ (0 : Int); omega
  · show (0 : Int) ≤ _; omega
  · show ([] : List D).length ≤ 0; simp
theorem tup_gd {nn : Nat} {xs : List D} (h : ∀ x ∈ xs, gd nn x = true) (hl : xs.length ≤ 100) : gd nn (.tup xs) = true := by
  have := gds_iff.mpr h
  have h1 : 1 ≤ 2 ^ nn := Nat.one_le_two_pow
  simp [gd, this]
  omega
theorem script_gd {d : D} (h : scriptB d = true) : gd 0 d = true := by
  unfold scriptB at h
  split at h
  · simp at h
    exact tup_gd (fun x hx => step_gd 3 x (h.2 x hx)) (by omega)
  · cases h
/-- what a run keeps, and whose it is -/
structure Of (sc wh : Int) (r : RS) : Prop where
  fit : RS.Fit r
  sc : r.scale = sc
  wh : r.whole = wh
namespace Of
variable {sc wh : Int} {r : RS}
theorem w0 (h : Of sc wh r) : 0 ≤ r.whole := Int.le_trans h.fit.l0 h.fit.lw
theorem turn (h : Of sc wh r) (n : Int) : Of sc wh (r.turn n) := by
  have c := cl_in (sc := r.scale) (lag := r.lag) (n := n) h.w0
  exact ⟨⟨h.fit.sc, c.1, c.2, h.fit.w6⟩, h.sc, h.wh⟩
theorem look (h : Of sc wh r) : Of sc wh r.look := ⟨⟨h.fit.sc, h.fit.l0, h.fit.lw, h.fit.w6⟩, h.sc, h.wh⟩
theorem tell (h : Of sc wh r) (d : D) : Of sc wh (r.tell d) := ⟨⟨h.fit.sc, h.fit.l0, h.fit.lw, h.fit.w6⟩, h.sc, h.wh⟩
theorem turns : ∀ {ns : List Int} {r : RS}, Of sc wh r → Of sc wh (r.turns ns)
  | [], _, h => h
  | n :: ns, r, h => turns (ns := ns) (h.turn n)
theorem many {ns : List Int} : ∀ {k : Nat} {r : RS}, Of sc wh r → Of sc wh (RS.many ns k r)
  | 0, _, h => h
  | k + 1, r, h => many (k := k) h.turns
theorem rep (h : Of sc wh r) {k : Int} (hk : 0 ≤ k) {ns : List Int} : Of sc wh (r.rep k ns) := by
  rw [RS.rep_many h.fit hk]; exact h.many
theorem untl {w : Str} {mark n : Int} : ∀ {k : Nat} {r : RS}, Of sc wh r → Of sc wh (r.untl w mark n k).1
  | 0, _, h => h.look
  | k + 1, r, h => by
    unfold RS.untl
    split
    · exact h.look
    · exact untl (k := k) (h.look.turn n)
theorem stepG {inner : RS → List D → RS} (hi : ∀ (r : RS) (xs : List D), Of sc wh r → Of sc wh (inner r xs)) {g : D → Prop} {d : D} (hd : Shape g d) (h : Of sc wh r) : Of sc wh (stepG inner r d) := by
  cases hd with
  | by_ a a0 a1 => exact h.turn a
  | to a a0 a1 => exact h.turn _
  | look a a0 a1 => exact h.look.tell _
  | rep a ns a0 a1 l1 l6 hn => exact h.rep a0
  | untl w' n num most hw n0 n1 a0 a1 az m1 m20 => exact h.untl.tell _
  | cond w' n ss os hw n0 n1 s4 o4 hs ho => exact hi _ _ (h.look.tell _)
end Of
theorem stepS_of {sc wh : Int} : ∀ (k : Nat) (r : RS) (d : D), stepB k d = true → Of sc wh r → Of sc wh (stepS k r d)
  | 0, r, d, hd, h => Of.stepG (fun _ _ h => h) (shape_step 0 hd) h
  | k + 1, r, d, hd, h => by
    cases shape_step (k + 1) hd with
    | cond w' n ss os hw n0 n1 s4 o4 hs ho =>
      have fold : ∀ (xs : List D) (r : RS), (∀ s ∈ xs, ∃ j, k + 1 = j + 1 ∧ stepB j s = true) → Of sc wh r → Of sc wh (xs.foldl (stepS k) r) := by
        intro xs
        induction xs with
        | nil => exact fun r _ h => h
        | cons x xs ih => exact fun r hx h => ih _ (fun s hs => hx s (by simp [hs])) (by
            obtain ⟨j, e, hj⟩ := hx x (by simp)
            obtain rfl : k = j := by omega
            exact stepS_of k r x hj h)
      show Of sc wh ((itemsOf (if r.seen n = w' then .tup ss else .tup os)).foldl (stepS k) (r.look.tell (.str (r.seen n))))
      split
      · exact fold ss _ hs (h.look.tell _)
      · exact fold os _ ho (h.look.tell _)
    | by_ a a0 a1 => exact h.turn a
    | to a a0 a1 => exact h.turn _
    | look a a0 a1 => exact h.look.tell _
    | rep a ns a0 a1 l1 l6 hn => exact h.rep a0
    | untl w' n num most hw n0 n1 a0 a1 az m1 m20 => exact h.untl.tell _
theorem runS_of {sc wh : Int} : ∀ (xs : List D) (r : RS), (∀ x ∈ xs, stepB 3 x = true) → Of sc wh r → Of sc wh (runS r xs)
  | [], r, _, h => h
  | x :: xs, r, hx, h => runS_of xs (stepS 3 r x) (fun y hy => hx y (by simp [hy])) (stepS_of 3 r x (hx x (by simp)) h)
theorem runOf_of {lo hi p q r s : Int} (v : VF lo hi p q r s) : Of (runOf p q r s).scale (runOf p q r s).whole (runOf p q r s) := ⟨fit_of v, rfl, rfl⟩
end DL
/-! DLv: a run told turn by turn: the places that it comes to; the same run at another scale. -/
namespace DL
open PySem PySem.Spec PyProof.Rows L2
/-- the places so far, whose least and greatest the run keeps -/
structure Sp (r : RS) (spots : List D) (k : Nat) : Prop where
  ex : ∃ ns : List Int, spots = ns.map .int ∧ r.low ∈ ns ∧ (∀ x ∈ ns, r.low ≤ x) ∧ r.high ∈ ns ∧ (∀ x ∈ ns, x ≤ r.high)
  len : spots.length ≤ k
theorem Sp.turn {r : RS} {spots : List D} {k : Nat} (h : Sp r spots k) (n : Int) : Sp (r.turn n) (spots ++ [.int (r.turn n).spot]) (k + 1) := by
  obtain ⟨ns, rfl, h1, h2, h3, h4⟩ := h.ex
  refine ⟨⟨ns ++ [(r.turn n).spot], by simp, ?_, ?_, ?_, ?_⟩, by have := h.len; simp at this ⊢; omega⟩
  · show mi r.low (r.turn n).spot ∈ _
    rcases mi_cases r.low (r.turn n).spot with ⟨_, e⟩ | ⟨_, e⟩ <;> rw [e] <;> simp [h1]
  · intro x hx
    show mi r.low (r.turn n).spot ≤ x
    have hc := mi_cases r.low (r.turn n).spot
    rcases List.mem_append.mp hx with hx | hx
    · have := h2 x hx; omega
    · simp at hx; omega
  · show ma r.high (r.turn n).spot ∈ _
    rcases ma_cases r.high (r.turn n).spot with ⟨_, e⟩ | ⟨_, e⟩ <;> rw [e] <;> simp [h3]
  · intro x hx
    show x ≤ ma r.high (r.turn n).spot
    have hc := ma_cases r.high (r.turn n).spot
    rcases List.mem_append.mp hx with hx | hx
    · have := h4 x hx; omega
    · simp at hx; omega
theorem Sp.same {r r' : RS} {spots : List D} {k k' : Nat} (h : Sp r spots k) (e1 : r'.low = r.low) (e2 : r'.high = r.high) (hk : k ≤ k') : Sp r' spots k' := by
  obtain ⟨ns, hx⟩ := h.ex
  exact ⟨⟨ns, by rw [e1, e2]; exact hx⟩, Nat.le_trans h.len hk⟩
/-- repeats of few times -/
def fewG (inner : D → Bool) : D → Bool
  | .tup [_, .int a, .tup _] => decide (a < 100)
  | .tup [_, _, _, .tup ss, .tup os] => ss.all inner && os.all inner
  | _ => true
def fewS : Nat → D → Bool
  | 0 => fewG fun _ => true
  | k + 1 => fewG (fewS k)
theorem turns_many {ns : List Int} : ∀ (k : Nat) (r : RS), RS.many ns k r = r.turns (List.replicate k ns).flatten
  | 0, r => rfl
  | k + 1, r => by
    show RS.many ns k (r.turns ns) = _
    rw [turns_many k, List.replicate_succ, List.flatten_cons]
    simp [RS.turns]
/-! ### another scale -/
def RS.mul (g : Int) (r : RS) : RS := { r with scale := g * r.scale, whole := g * r.whole, lag := g * r.lag, low := g * r.low, high := g * r.high }
theorem mul_mi {g a b : Int} (h : 0 < g) : mi (g * a) (g * b) = g * mi a b := by
  have : g * b < g * a ↔ b < a := Int.mul_lt_mul_left h
  unfold mi
  split <;> split <;> simp_all
theorem mul_ma {g a b : Int} (h : 0 < g) : ma (g * a) (g * b) = g * ma a b := by
  have : g * a < g * b ↔ a < b := Int.mul_lt_mul_left h
  unfold ma
  split <;> split <;> simp_all
theorem mul_cl {g sc wh lag n : Int} (h : 0 < g) : cl (g * sc) (g * wh) (g * lag) n = g * cl sc wh lag n := by
  unfold cl
  have e : g * lag + n * (g * sc) = g * (lag + n * sc) := by rw [Int.mul_add, ← Int.mul_assoc, Int.mul_comm n g, Int.mul_assoc]
  have e0 : (0 : Int) = g * 0 := by simp
  rw [e]
  conv => lhs; rw [e0]
  rw [mul_ma h, mul_mi h]
namespace RS
variable {g : Int} {r : RS}
theorem mul_spot : (r.mul g).spot = g * r.spot := by
  show r.stand * (g * r.scale) - g * r.lag = g * (r.stand * r.scale - r.lag)
  rw [Int.mul_sub]; congr 1; rw [← Int.mul_assoc, Int.mul_comm r.stand g, Int.mul_assoc]
theorem mul_turn (h : 0 < g) (n : Int) : (r.mul g).turn n = (r.turn n).mul g := by
  refine ext' rfl rfl rfl ?_ rfl rfl ?_ ?_
  · exact mul_cl h
  · rw [turn_low]
    show mi (g * r.low) (r.stand * (g * r.scale) + (n * (g * r.scale) - cl (g * r.scale) (g * r.whole) (g * r.lag) n)) = g * (r.turn n).low
    rw [turn_low, ← mul_mi h, mul_cl h]
    congr 1
    rw [Int.mul_add, Int.mul_sub, ← Int.mul_assoc, ← Int.mul_assoc, ← Int.mul_assoc g n, ← Int.mul_assoc g r.stand, Int.mul_comm g n, Int.mul_comm g r.stand]
  · rw [turn_high]
    show ma (g * r.high) (r.stand * (g * r.scale) + (n * (g * r.scale) - cl (g * r.scale) (g * r.whole) (g * r.lag) n)) = g * (r.turn n).high
    rw [turn_high, ← mul_ma h, mul_cl h]
    congr 1
    rw [Int.mul_add, Int.mul_sub, ← Int.mul_assoc, ← Int.mul_assoc, ← Int.mul_assoc g n, ← Int.mul_assoc g r.stand, Int.mul_comm g n, Int.mul_comm g r.stand]
theorem mul_turns (h : 0 < g) : ∀ (ns : List Int) (r : RS), (r.mul g).turns ns = (r.turns ns).mul g
  | [], r => rfl
  | n :: ns, r => by rw [turns_cons, mul_turn h, mul_turns h ns]; rfl
theorem mul_many (h : 0 < g) (ns : List Int) : ∀ (k : Nat) (r : RS), many ns k (r.mul g) = (many ns k r).mul g
  | 0, r => rfl
  | k + 1, r => by
    show many ns k ((r.mul g).turns ns) = (many ns k (r.turns ns)).mul g
    rw [mul_turns h, mul_many h ns k]
theorem mul_rep (h : 0 < g) {k : Int} {ns : List Int} : (r.mul g).rep k ns = (r.rep k ns).mul g := by
  unfold rep
  split
  · rw [mul_many h, ← mul_turns h]; rfl
  · exact mul_many h ns _ r
theorem mul_seen (h : 0 < g) {mark : Int} : (r.mul g).seen mark = r.seen mark := by
  unfold seen
  rw [mul_spot]
  show (if g * r.spot - mark * (g * r.scale) = 0 then _ else if g * r.spot - mark * (g * r.scale) < 0 then _ else _) = _
  have e : g * r.spot - mark * (g * r.scale) = g * (r.spot - mark * r.scale) := by
    rw [Int.mul_sub, ← Int.mul_assoc, Int.mul_comm mark g, Int.mul_assoc]
  rw [e]
  have z1 : g * (r.spot - mark * r.scale) = 0 ↔ r.spot - mark * r.scale = 0 := by
    constructor
    · intro q; rcases Int.mul_eq_zero.mp q with q | q <;> omega
    · intro q; rw [q]; simp
  have z2 : g * (r.spot - mark * r.scale) < 0 ↔ r.spot - mark * r.scale < 0 := by
    constructor
    · intro q
      by_cases q2 : r.spot - mark * r.scale < 0
      · exact q2
      · have := Int.mul_nonneg (Int.le_of_lt h) (show 0 ≤ r.spot - mark * r.scale by omega)
        omega
    · exact fun q => Int.mul_neg_of_pos_of_neg h q
  simp only [z1, z2]
theorem mul_untl (h : 0 < g) {w : Str} {mark n : Int} : ∀ (k : Nat) (r : RS), untl w mark n k (r.mul g) = ((untl w mark n k r).1.mul g, (untl w mark n k r).2)
  | 0, r => rfl
  | k + 1, r => by
    unfold untl
    rw [mul_seen h]
    split
    · rfl
    · show (_, _) = _
      have e : (r.mul g).look.turn n = (r.look.turn n).mul g := by
        show (r.look.mul g).turn n = _
        exact mul_turn h n
      rw [e, mul_untl h k]
end RS
theorem mul_stepG {g : Int} (h : 0 < g) {inner : RS → List D → RS} (hi : ∀ (r : RS) (xs : List D), inner (r.mul g) xs = (inner r xs).mul g) (r : RS) (d : D) : stepG inner (r.mul g) d = (stepG inner r d).mul g := by
  unfold stepG
  split
  · split
    · exact RS.mul_turn h _
    · split
      · exact RS.mul_turn h _
      · rw [RS.mul_seen h]; rfl
  · exact RS.mul_rep h
  · split
    · split
      · rw [RS.mul_untl h]; rfl
      · rfl
    · rw [RS.mul_seen h]; exact hi (r.look.tell _) _
  · rfl
theorem mul_stepS {g : Int} (h : 0 < g) : ∀ (k : Nat) (r : RS) (d : D), stepS k (r.mul g) d = (stepS k r d).mul g
  | 0, r, d => mul_stepG h (fun _ _ => rfl) r d
  | k + 1, r, d => mul_stepG h (fun r xs => by
    induction xs generalizing r with
    | nil => rfl
    | cons x xs ih => rw [List.foldl_cons, List.foldl_cons, mul_stepS h k, ih]) r d
theorem mul_runS {g : Int} (h : 0 < g) : ∀ (xs : List D) (r : RS), runS (r.mul g) xs = (runS r xs).mul g
  | [], r => rfl
  | x :: xs, r => by
    show runS (stepS 3 (r.mul g) x) xs = (runS (stepS 3 r x) xs).mul g
    rw [mul_stepS h, mul_runS h xs]
end DL
/-! DLwa: while an exception is handled: ends of walks, zip, targets, comprehensions. -/
namespace DLH
open PySem PySem.Spec PyProof.Rows L2 HotX L2H

section
variable {prog : Program} {w : World} {A : Around} {E : Value → Shared → Prop} {s : Shared} {x1 : Addr}
theorem hkeep {h h' : Heap} (k : HotAt A x1 h) (e : ∀ o, h.get? x1 = some o → h'.get? x1 = some o) : HotAt A x1 h' := by
  obtain ⟨a, o, vs, b, c, d⟩ := k
  exact ⟨a, o, vs, e _ b, c, d⟩
/-- the walk's end is raised: a new object, chained to what is handled -/
theorem stop_hot {α : Type} {Q : α → Shared → Prop} (hot : HotAt A x1 s.heap) (hE : ∀ h' e, (∀ b o, s.heap.get? b = some o → h'.get? b = some o) → (∃ o, h'.get? e = some o ∧ o.cls = .type "StopIteration") → E (.ref e) { s with heap := h' }) :
    wpAny (model prog w) A (newExc (.type "StopIteration") [] >>= fun v => (raiseNew v : Sem α)) Q E s := by
  obtain ⟨hh, o1, vs1, g1, d1, c1⟩ := hot
  refine wpAny_bind ?_
  simp only [newExc, newTuple]
  refine wpAny_bind (wpAny_newObj_type ?_ (by size_fits))
  refine wpAny_bind (m := firstArgMember _ _) (wpAny_of_eq (a := Value.none) (by simp only [firstArgMember]; rfl) ?_)
  refine wpAny_newObj_type ?_ (by size_fits)
  have g2 := Heap.get?_push_of_some { cls := .type "tuple", data := .seq ([] : List Value).toArray } g1
  refine raiseNew_hot ⟨hh, o1, vs1, Heap.get?_push_of_some _ g2, d1, c1⟩ (Nat.ne_of_lt (Heap.lt_size g2)) (Heap.get?_push_size _ rfl) rfl (by simp; omega) (hE _ _ (fun b o e => ?_) ⟨_, Heap.get?_update_self _ (Heap.get?_push_size _ rfl) rfl, rfl⟩)
  have e2 := Heap.get?_push_of_some { cls := .type "tuple", data := .seq ([] : List Value).toArray } e
  rw [Heap.get?_update_other _ _ (Nat.ne_of_gt (Heap.lt_size e2))]
  exact Heap.get?_push_of_some _ e2
/-- a list's walk ends -/
theorem nextOf_list_hot {it l : Addr} {i : Nat} {items : Array Value} {Q : Value → Shared → Prop} (hot : HotAt A x1 s.heap) (hx : x1 ≠ it) (hit : s.heap.IsListIter it l i) (hl : s.heap.IsList l items) (hn : items[i]? = none)
    (hE : ∀ h' e, Heap.ExtBut it s.heap h' → (∃ o, h'.get? e = some o ∧ o.cls = .type "StopIteration") → E (.ref e) { s with heap := h' }) : wpAny (model prog w) A (Builtin.SmallTypes.nextOf (.ref it)) Q E s := by
  obtain ⟨o, ho, hc, hd⟩ := id hit
  obtain ⟨ol, hol, _, nl, hdl⟩ := hl
  unfold Builtin.SmallTypes.nextOf
  refine wpAny_bind (wpAny_callSpecial?_slot (name := Str.ofString "__next__") hit.typeIs slot_listiter_next (wpAny_call_entry slot_listiter_next hit.typeIs entry_listiter_next ?_ (args_listiter_next _)))
  refine show wpAny _ _ (field (.ref it) 0 >>= _) _ _ s from wpAny_bind (wpAny_field ho hd (x := .ref l) rfl ?_)
  refine show wpAny _ _ (if (Value.ref l == Value.none) = true then _ else _) _ _ s from ?_
  rw [if_neg (show ¬ ((Value.ref l == Value.none) = true) from Bool.false_ne_true)]
  refine show wpAny _ _ (field (.ref it) 1 >>= _) _ _ s from wpAny_bind (wpAny_field ho hd (x := .int i 0) rfl ?_)
  refine show wpAny _ _ (seqItems? (.ref l) >>= _) _ _ s from wpAny_bind (wpAny_seqItems hol hdl ?_)
  simp only [Int.toNat_natCast, hn]
  refine wpAny_bind (wpAny_rule (wpAny_bind (wpAny_setField ho hd (by simp) ?_)))
  refine stop_hot (hkeep hot fun o q => ?_) fun h' e k he => hE h' e (fun b o hb q => k b o ?_) he
  · exact (Heap.get?_update_other _ _ (Ne.symm hx)).trans q
  · exact (Heap.get?_update_other _ _ (Ne.symm hb)).trans q
theorem draws_list {it l : Addr} (hot : A.handled = some (.ref x1)) (hx : x1 ≠ it) (hne : l ≠ it) (items : Array Value) :
    Draws prog w A it [it, l, x1] items.size (fun i v => items[i]? = some v) (fun i h => h.IsListIter it l i ∧ h.IsList l items ∧ HotAt A x1 h) where
  live := fun _ _ st => let ⟨o, ho, _⟩ := st.1; ⟨o, ho⟩
  frame := fun _ _ _ st hk => ⟨st.1.at fun o e => hk it (by simp) o e, st.2.1.at fun o e => hk l (by simp) o e, hkeep st.2.2 fun o e => hk x1 (by simp) o e⟩
  item := fun i s Q E hi st hQ => by
    refine wpAny_nextOf_list_item st.1 st.2.1 (x := items[i]) (by simp [hi]) fun h' hit' hs' => ?_
    exact hQ _ h' s.toks (by simp [hi]) ⟨hit', st.2.1.extBut hs'.extBut hne, hkeep st.2.2 fun o e => hs'.extBut _ _ hx e⟩ hs'
  done := fun s Q E st hE => nextOf_list_hot st.2.2 hx st.1 st.2.1 (by simp) hE
/-- a tuple's walk ends -/
theorem pyNext_tuple_hot {it t : Addr} {i : Nat} {items : Array Value} {Q : Option Value → Shared → Prop} (hot : HotAt A x1 s.heap) (hx : x1 ≠ it) (hit : s.heap.IsTupleIter it t i) (hl : s.heap.IsTuple t items) (hn : items[i]? = none)
    (hQ : ∀ h', Heap.ExtBut it s.heap h' → Q none { s with heap := h' }) : wpAny (model prog w) A (pyNext (.ref it)) Q E s := by
  obtain ⟨o, ho, hc, hd⟩ := id hit
  obtain ⟨ol, hol, _, nl, hdl⟩ := hl
  unfold pyNext
  refine wpAny_bind (wpAny_attempt (wpAny_callSpecial?_slot (name := Str.ofString "__next__") hit.typeIs F.slot_tuple_iterator_next (wpAny_call_entry F.slot_tuple_iterator_next hit.typeIs F.entry_tuple_iterator_next ?_ (F.args_tuple_iterator_next_1 _))))
  refine show wpAny _ _ (field (.ref it) 0 >>= _) _ _ s from wpAny_bind (wpAny_field ho hd (x := .ref t) rfl ?_)
  refine show wpAny _ _ (if (Value.ref t == Value.none) = true then _ else _) _ _ s from ?_
  rw [if_neg (show ¬ ((Value.ref t == Value.none) = true) from Bool.false_ne_true)]
  refine show wpAny _ _ (field (.ref it) 1 >>= _) _ _ s from wpAny_bind (wpAny_field ho hd (x := .int i 0) rfl ?_)
  refine show wpAny _ _ (seqItems? (.ref t) >>= _) _ _ s from wpAny_bind (wpAny_seqItems hol hdl ?_)
  simp only [Int.toNat_natCast, hn]
  refine wpAny_bind (wpAny_rule (wpAny_bind (wpAny_setField ho hd (by simp) ?_)))
  refine stop_hot (hkeep hot fun o q => ?_) fun h' e k he => ?_
  · exact (Heap.get?_update_other _ _ (Ne.symm hx)).trans q
  · obtain ⟨oe, h1, h2⟩ := he
    refine wpAny_bind (wpAny_isInstance (T := "StopIteration") (b := true) ⟨oe, h1, h2⟩ isSubtype_stop ?_)
    exact wpAny_pure (hQ _ fun b o hb q => k b o ((Heap.get?_update_other _ _ (Ne.symm hb)).trans q))
theorem assign_tuple_hot {env : PySem.Env} {elts : List Expr} {k} {pos : Pos} {t : Addr} {items : Array Value} {Q : Unit → Shared → Prop} (hot : HotAt A x1 s.heap) (ht : s.heap.IsTuple t items) (hn : (assignEach elts env).length = items.size)
    (hstar : (assignEach elts env).findIdx? (·.1) = none) (h : ∀ h', Heap.ExtBut s.heap.objs.size s.heap h' → wpAny (model prog w) A (assignInOrder ((assignEach elts env).map (·.2)) items.toList) Q E { s with heap := h' }) :
    wpAny (model prog w) A (assign (.Tuple elts k pos) env (.ref t)) Q E s := by
  have nt : t ≠ s.heap.objs.size := let ⟨o, ho, _⟩ := ht; Nat.ne_of_lt (Heap.lt_size ho)
  have nx : x1 ≠ s.heap.objs.size := let ⟨_, o, _, ho, _⟩ := hot; Nat.ne_of_lt (Heap.lt_size ho)
  rw [arm_assign_Tuple]
  refine wpAny_bind (wpAny_standAt ?_)
  unfold unpack
  rw [hn, hstar]
  refine wpAny_bind (wpAny_holding ?_)
  unfold unpackItems
  refine wpAny_bind ?_
  unfold notIterableAtAll
  refine wpAny_bind (wpAny_specialOf ht.typeIs F.slot_tuple_iter.lookup (wpAny_pure ?_))
  simp only [Bool.false_eq_true, if_false]
  refine wpAny_bind (wpAny_holding (wpAny_pyIter_tuple ht ?_))
  refine wpAny_bind (wpAny_holding (wpAny_draw_tuple nt items.size 0 _ _ ⟨_, Heap.get?_push_size _ rfl, rfl, rfl⟩ (ht.push _) (Nat.le_of_eq (Nat.zero_add _)) fun g hg sg => ?_))
  have all : List.take items.size (List.drop 0 items.toList) = items.toList := List.take_of_length_le (by simp)
  rw [all, if_neg (by simp)]
  have up : ∀ b o, b ≠ s.heap.objs.size → s.heap.get? b = some o → g.get? b = some o := fun b o hb e => sg.extBut b o hb (Heap.get?_push_of_some _ e)
  refine wpAny_bind (wpAny_holding (pyNext_tuple_hot (hkeep hot fun o e => up _ o nx e) nx hg ((ht.push _).extBut sg.extBut nt) (by simp) fun g2 e2 => ?_))
  simp only [Option.isSome_none, Bool.false_eq_true, if_false]
  exact wpAny_pure (h g2 fun b o hb e => e2 b o hb (up b o hb e))
end

/-! ### contexts that bear what is handled -/
def HotB (X : Cx) : Prop := ∃ p : Addr × Obj, Hot1 X.A p ∧ (p ∈ X.pn ∨ (X.s_0.heap.get? p.1 = some p.2 ∧ X.H_0 p.1 = none ∧ p.1 ∉ X.fs ∧ p.1 ∉ X.ex))
section
variable {X : Cx} {pins : List (Addr × Obj)} {σ : L2.St} {H : Hp} {s : Shared}
theorem HotB.at (c : HotB X) (I : Inv X pins σ H s) : ∃ x1, HotAt X.A x1 s.heap ∧ ∀ b H', FpOk X pins H' b → x1 ≠ b := by
  obtain ⟨p, ⟨hh, vs, e1, c1⟩, h⟩ := c
  refine ⟨p.1, ⟨hh, p.2, vs, ?_, e1, c1⟩, fun b H' f z => ?_⟩
  · rcases h with h | ⟨h1, h2, h3, h4⟩
    · exact (I.pin p (List.mem_append_left _ h)).1
    · exact I.base.keep p.1 p.2 h1 h2 h3 h4
  · obtain ⟨_, _, _, f3, _, f5⟩ := f
    rcases h with h | ⟨h1, h2, h3, h4⟩
    · exact f5 p (List.mem_append_left _ h) z
    · rcases f3 with f3 | f3
      · exact h4 (z ▸ f3)
      · exact absurd (Heap.lt_size h1) (Nat.not_lt.mpr (z ▸ f3))
theorem HotC.b (c : HotC X) : HotB X := let ⟨p, h, q⟩ := c; ⟨p, h, .inl q⟩
/-- in a block that starts here -/
theorem HotB.blk (c : HotB X) (I : Inv X pins σ H s) {scope : Scope} {cenv : PySem.Env} {fp : List Addr} (hfp : ∀ b ∈ fp, FpOk X pins H b) : HotB (X.blk s H scope cenv fp) := by
  obtain ⟨p, hp, h⟩ := c
  have at_ : s.heap.get? p.1 = some p.2 ∧ H p.1 = none ∧ p.1 ∉ frs X.stack ∧ ∀ b ∈ fp, p.1 ≠ b := by
    rcases h with h | ⟨h1, h2, h3, h4⟩
    · obtain ⟨e, n, nl, nf, _⟩ := I.pin p (List.mem_append_left _ h)
      refine ⟨e, n, fun z => ?_, fun b hb z => ?_⟩
      · rcases List.mem_cons.mp (I.stkSub _ z) with q | q
        · exact nl q
        · exact nf q
      · exact (hfp b hb).2.2.2.2.2 p (List.mem_append_left _ h) z
    · refine ⟨I.base.keep p.1 p.2 h1 h2 h3 h4, I.base.free p.1 p.2 h1 h2 h4, fun z => ?_, fun b hb z => ?_⟩
      · rcases List.mem_cons.mp (I.stkSub _ z) with q | q
        · exact absurd (Heap.lt_size h1) (Nat.not_lt.mpr (q ▸ I.ok.above))
        · exact h3 q
      · rcases (hfp b hb).2.2.2.1 with q | q
        · exact h4 (z ▸ q)
        · exact absurd (Heap.lt_size h1) (Nat.not_lt.mpr (z ▸ q))
  exact ⟨p, hp, .inr ⟨at_.1, at_.2.1, at_.2.2.1, fun z => at_.2.2.2 _ z rfl⟩⟩
/-- a target of several names -/
theorem pg_tupH {es : List Expr} {k n : Nat} {t : TGs} {pos : Pos} (hc : HotB X) (h : PGs X es t) (hn : (assignEach es X.env).length = n := by rfl) (hst : (assignEach es X.env).findIdx? (·.1) = none := by rfl) : PG X (.Tuple es k pos) (gTup X.K n t) := by
  refine ⟨fun pins s σ H v u Q I r hw => ?_⟩
  obtain ⟨a, xs, rfl, hq, hl, hw⟩ := hw
  cases r
  obtain ⟨its, rv, ht, hz⟩ := I.tuple hq
  obtain ⟨x1, hot, _⟩ := hc.at I
  refine assign_tuple_hot hot ht (by simp [hn, ← hl, rv.length]) hst fun h' hx => ?_
  exact h.run pins _ σ H xs _ Q (I.kept (t' := s.toks) fun b o e => hx b o (Nat.ne_of_lt (Heap.lt_size e)) e) (by simpa using rv) hw
end

/-! ### walks -/
structure TurnW (P : Program) (w : World) (K : PySem.W.Frag) (tg : Expr) (J : It) (fp : List Addr) (it : Addr) (tn : Nat → Heap → Prop) : Prop where
  obj : ∀ i h, tn i h → ∀ b ∈ fp, ∃ o, h.get? b = some o ∧ ∀ v, o.data ≠ .cell v
  keep : ∀ i h h', tn i h → (∀ b ∈ fp, ∀ o, h.get? b = some o → h'.get? b = some o) → tn i h'
  item : ∀ (X : Cx), X.prog = P → X.w = w → X.K = K → HotB X → ∀ (i : Nat) (pins : List (Addr × Obj)) (s : Shared) (σ : L2.St) (H : Hp) (E : Value → Shared → Prop), Inv X pins σ H s → (∀ b ∈ fp, FpOk X pins H b) → tn i s.heap → J.go i H →
    wpAny (model P w) X.A (pyNext (.ref it)) (fun r s1 => ∃ u, r = some u ∧
      wpAny (model P w) X.A (letOwnedTupleGo tg (.ref it) u) (fun _ s2 => ∃ x H', Inv X pins σ H' s2 ∧ RelV x u ∧ J.yld i H x H' ∧ tn (i + 1) s2.heap ∧ ∀ b ∈ fp, H' b = none) E s1) E s
  done : ∀ (X : Cx), X.prog = P → X.w = w → X.K = K → HotB X → ∀ (i : Nat) (pins : List (Addr × Obj)) (s : Shared) (σ : L2.St) (H : Hp) (E : Value → Shared → Prop), Inv X pins σ H s → (∀ b ∈ fp, FpOk X pins H b) → tn i s.heap → J.stop i H →
    wpAny (model P w) X.A (pyNext (.ref it)) (fun r s1 => r = none ∧ Inv X pins σ H s1) E s
  self : ∀ (A : Around) (i : Nat) (s : Shared) (Q : Value → Shared → Prop) (E : Value → Shared → Prop), tn i s.heap → Q (.ref it) s → wpAny (model P w) A (pyIter (.ref it)) Q E s
/-- two lists walked together, to the end of the shorter -/
def ItzH (K : PySem.W.Frag) (a b : Addr) : It := ⟨(Itz K a b).go, (Itz K a b).yld, fun i H => ∃ xs ys : List V, SqL K H a xs ∧ SqL K H b ys ∧ i ≤ xs.length ∧ i ≤ ys.length ∧ (i = xs.length ∨ i = ys.length)⟩
theorem turn_zipW {P : Program} {w : World} {K : PySem.W.Frag} {elts : List Expr} {kk : Nat} {tpos : Pos} {a b z TI TO i1 i2 : Addr} (D : ZipApart z TI TO i1 i2 a b) :
    TurnW P w K (.Tuple elts kk tpos) (ItzH K a b) [z, TI, TO, i1, i2] z (fun i h => IsZip h z TI TO .none ∧ IsPair h TI (.ref i1) (.ref i2) ∧ (∃ x y, IsPair h TO x y) ∧ h.IsListIter i1 a i ∧ h.IsListIter i2 b i) where
  obj := fun i h st c hc => by
    obtain ⟨hz, hTI, ⟨x, y, hTO⟩, ⟨o1, e1, _, d1⟩, ⟨o2, e2, _, d2⟩⟩ := st
    simp only [List.mem_cons, List.not_mem_nil, or_false] at hc
    rcases hc with rfl | rfl | rfl | rfl | rfl
    · exact ⟨_, hz, fun v q => nomatch q⟩
    · exact ⟨_, hTI, fun v q => nomatch q⟩
    · exact ⟨_, hTO, fun v q => nomatch q⟩
    · exact ⟨o1, e1, fun v q => by rw [d1] at q; cases q⟩
    · exact ⟨o2, e2, fun v q => by rw [d2] at q; cases q⟩
  keep := fun i h h' ⟨hz, hTI, ⟨x, y, hTO⟩, h1, h2⟩ k => ⟨k z (by simp) _ hz, k TI (by simp) _ hTI, ⟨x, y, k TO (by simp) _ hTO⟩, h1.at fun o q => k i1 (by simp) o q, h2.at fun o q => k i2 (by simp) o q⟩
  item := by
    rintro X rfl rfl rfl hc i pins s σ H E I hf ⟨hz, hTI, ⟨x0, y0, hTO⟩, h1, h2⟩ ⟨xs, ys, x, y, qx, qy, hx, hy⟩
    obtain ⟨its, rv, p, _⟩ := I.list qx
    obtain ⟨its2, rv2, p2, _⟩ := I.list qy
    obtain ⟨u, hu, ru⟩ := rv.get hx
    obtain ⟨u2, hu2, ru2⟩ := rv2.get hy
    have zl : z < s.heap.objs.size := Heap.lt_size hz
    refine wpAny_pyNext_zip_item D hz hTI hTO h1 h2 p.isList p2.isList (x := u) (y := u2) (by simpa using hu) (by simpa using hu2) fun g z1 TO1 k1 k2 hT hsz hk => ⟨_, rfl, ?_⟩
    refine wpAny_letOwnedTupleGo_zip (s := { s with heap := g }) z1 fun g2 z2 sb => ?_
    have hT2 := (sb.2 _ (Nat.ne_of_gt zl)).trans hT
    have keep : ∀ c o, c ∉ [z, TI, TO, i1, i2] → s.heap.get? c = some o → g2.get? c = some o := fun c o hb q => by
      simp only [List.mem_cons, List.not_mem_nil, or_false, not_or] at hb
      exact (sb.2 c hb.1).trans (hk c o hb.1 hb.2.2.1 hb.2.2.2.1 hb.2.2.2.2 q)
    have I1 : Inv X pins σ (upd H s.heap.objs.size (.tup [x, y])) { s with heap := g2 } :=
      I.turnedNew (t' := s.toks) (ch := [z, TI, TO, i1, i2]) keep hf (Nat.le_refl _) ⟨by show 2 ≤ sizeLine; decide, [u, u2], .cons ru (.cons ru2 .nil), ⟨_, hT2, rfl, _, rfl⟩⟩
    refine ⟨.ref s.heap.objs.size, _, I1, rfl, ⟨_, x, y, rfl, I.hok.fresh (Nat.le_refl _), rfl, fun l hl => by rw [I.list_inj hl qx]; exact hx, fun l hl => by rw [I.list_inj hl qy]; exact hy⟩,
      ⟨z2, (sb.2 _ D.TIz).trans (hk _ _ D.TIz D.TITO D.TIi1 D.TIi2 hTI), ⟨u, u2, (sb.2 _ D.TOz).trans TO1⟩, k1.at fun o q => (sb.2 _ D.i1z).trans q, k2.at fun o q => (sb.2 _ D.i2z).trans q⟩, fun c hcm => ?_⟩
    have lt : c < s.heap.objs.size := by
      have hcm' := hcm
      simp only [List.mem_cons, List.not_mem_nil, or_false] at hcm'
      rcases hcm' with rfl | rfl | rfl | rfl | rfl
      · exact zl
      · exact Heap.lt_size hTI
      · exact Heap.lt_size hTO
      · exact let ⟨_, e, _⟩ := h1; Heap.lt_size e
      · exact let ⟨_, e, _⟩ := h2; Heap.lt_size e
    rw [upd_ne (Nat.ne_of_lt lt)]
    exact (hf c hcm).1
  done := by
    rintro X rfl rfl rfl hc i pins s σ H E I hf ⟨hz, hTI, ⟨x0, y0, hTO⟩, h1, h2⟩ ⟨xs, ys, qx, qy, b1, b2, hend⟩
    obtain ⟨its, rv, p, _⟩ := I.list qx
    obtain ⟨its2, rv2, p2, _⟩ := I.list qy
    obtain ⟨x1, hot, ne⟩ := hc.at I
    have n1 := ne i1 H (hf i1 (by simp))
    have n2 := ne i2 H (hf i2 (by simp))
    have nz := ne z H (hf z (by simp))
    have nT := ne TO H (hf TO (by simp))
    have hh := hot.1
    have S : ZipSep2 z TI TO i1 i2 [i1, a, x1] [i2, b, x1] := ⟨D.TIz, D.TOz, D.TITO, D.TIi1, by simp, by simp [D.i1z.symm, D.l1z.symm, nz.symm], by simp [D.TOi1, D.l1TO.symm, nT.symm], D.TIi2, by simp, by simp [D.i2z.symm, D.l2z.symm, nz.symm], by simp [D.TOi2, D.l2TO.symm, nT.symm],
      by simp [D.i12, D.l2i1.symm, n1.symm], by simp [D.i12.symm, D.l1i2.symm, n2.symm]⟩
    have fin : ∀ (h' : Heap) (tk : Nat), (∀ c o, c ≠ z → c ≠ TO → c ≠ i1 → c ≠ i2 → s.heap.get? c = some o → h'.get? c = some o) → (none : Option Value) = none ∧ Inv X pins σ H { s with heap := h', toks := tk } := fun h' tk k =>
      ⟨rfl, I.turnedL (ch := [z, TI, TO, i1, i2]) (fun c o hb q => by
        simp only [List.mem_cons, List.not_mem_nil, or_false, not_or] at hb
        exact k c o hb.1 hb.2.2.1 hb.2.2.2.1 hb.2.2.2.2 q) hf⟩
    have l1 := rv.length
    have l2 := rv2.length
    refine wpAny_pyNext_zipD2_end (n1 := its.toArray.size) (n2 := its2.toArray.size) (i := i) S (draws_list (A := X.A.in1) hh n1 D.l1i1 its.toArray) (draws_list (A := X.A.in1) hh n2 D.l2i2 its2.toArray) hz hTI hTO
      ⟨h1, p.isList, hot⟩ ⟨h2, p2.isList, hot⟩ (by simp; omega) (by simp; omega) (by simp; omega) fin
  self := fun A i s Q E st h => wpAny_pyIter_zip st.1 h
/-! ### comprehensions -/
def PIEW (X : Cx) (pins : List (Addr × Obj)) (σ : L2.St) (tg : Expr) (R : It → Hp → Prop) (itv : Value) (s2 : Shared) : Prop :=
  ∃ (it : Addr) (fp : List Addr) (tn : Nat → Heap → Prop) (J : It) (H' : Hp), itv = .ref it ∧ Inv X pins σ H' s2 ∧ TurnW X.prog X.w X.K tg J fp it tn ∧ tn 0 s2.heap ∧ (∀ b ∈ fp, FpOk X pins H' b) ∧ R J H'
structure PIW (X : Cx) (tg iter : Expr) (wi : TI) : Prop where
  run : ∀ (pins : List (Addr × Obj)) (s : Shared) (σ : L2.St) (H : Hp) (R : It → Hp → Prop), Inv X pins σ H s → wi σ H R → wpAny (model X.prog X.w) X.A (eval iter X.env) (fun v s1 => wpAny (model X.prog X.w) X.A (pyIter v) (PIEW X pins σ tg R) X.xe s1) X.xe s
theorem pi_zipW {X : Cx} {e e2 : Expr} {ta : TA} {p pos tpos : Pos} {elts : List Expr} {kk : Nat} (hg : Gl X "zip") (hm : X.mg "zip" = none) (ha : PA X [e, e2] ta)
    (hs : starEach [e, e2] X.env = (false, eval e X.env) :: starEach [e2] X.env := by rfl) (hpl : (backTo pos (starEach [e2] X.env)).any (·.1) = false := by rfl) :
    PIW X (.Tuple elts kk tpos) (.Call (.Name "zip" p) [e, e2] [] pos) (fun σ H R => ta σ H fun vs H1 => ∃ a b xs ys, vs = [.ref a, .ref b] ∧ SqL X.K H1 a xs ∧ SqL X.K H1 b ys ∧ R (ItzH X.K a b) H1) := by
  refine ⟨fun pins s σ H R I h => Call_ (ld_blt I hg hm PyProof.Rows.boot_zip (PyProof.Rows.callWith_type1 (thn (ha.run pos pins s σ H _ I h) fun us s1 ⟨vs, H1, I1, r1, a, b, xs, ys, ex, qx, qy, q⟩ => ?_) hs hpl))⟩
  subst ex
  obtain _ | ⟨r, rr⟩ := r1
  obtain _ | ⟨r', rr⟩ := rr
  cases rr; cases r; cases r'
  obtain ⟨its, rv, p1, _⟩ := I1.list qx
  obtain ⟨its2, rv2, p2, _⟩ := I1.list qy
  refine call_zip_2 p1.isList p2.isList fun h' hz hTI hTO h1 h2 hsz hk => wpAny_pyIter_zip hz ?_
  have n := s1.heap.objs.size
  refine ⟨s1.heap.objs.size + 4, [s1.heap.objs.size + 4, s1.heap.objs.size + 2, s1.heap.objs.size + 3, s1.heap.objs.size, s1.heap.objs.size + 1], _, _, H1, rfl, I1.kept (t' := s1.toks) hk, turn_zipW (PySem.W.ktu_apart s1.heap.objs.size a b p1.lt p2.lt), ⟨hz, hTI, ⟨_, _, hTO⟩, h1, h2⟩, fun c hc => ?_, q⟩
  have le : s1.heap.objs.size ≤ c := by
    simp only [List.mem_cons, List.not_mem_nil, or_false] at hc
    rcases hc with q | q | q | q | q <;> rw [q]
    · exact Nat.le_add_right _ _
    · exact Nat.le_add_right _ _
    · exact Nat.le_add_right _ _
    · exact Nat.le_refl _
    · exact Nat.le_add_right _ _
  exact I1.fpOk le (I1.hok.fresh le)
section
variable {X : Cx}
theorem pe_lcW {elt tg iter : Expr} {ifs : List Expr} {scope : Scope} {own : List (Str × Nat)} {pos : Pos} {wi : TI} {g : TG} {tt : TT} {te : TE} (hc : HotB X) (hN : X.N.Nodup) (hi : PIW X tg iter wi) (ok : BlkOk X.N X.env.scope scope own)
    (hg : ∀ (s : Shared) (H : Hp) (C : Addr) (cl : List (Str × Addr)) (fp : List Addr), HotB (X.blk s H scope (compEnvC scope cl C X.env) fp) → PG (X.blk s H scope (compEnvC scope cl C X.env) fp) tg g)
    (ht : ∀ (s : Shared) (H : Hp) (C : Addr) (cl : List (Str × Addr)) (fp : List Addr), PTs (X.blk s H scope (compEnvC scope cl C X.env) fp) ifs tt)
    (he : ∀ (s : Shared) (H : Hp) (C : Addr) (cl : List (Str × Addr)) (fp : List Addr), PE (X.blk s H scope (compEnvC scope cl C X.env) fp) elt te) (hs : ∀ x, foldedSetIterable iter X.env x = pure x := by intro _; rfl) :
    PE X (.ListComp elt [⟨tg, iter, ifs, 0⟩] scope pos) (tLc wi g tt te (own.map (·.2))) := by
  refine ⟨fun pins s σ H Q I h => ?_⟩
  rw [eval_ListComp]
  have cells : ∀ y ∈ scope.names, y.2 = .free → ∃ c, X.env.cells.lookup y.1 = some c := fun y hy e => (ok.free y hy e).elim (fun k => I.ok.has _ (.inl k)) fun k => I.ok.has _ (.inr k)
  refine wpAny_comprehension_free (use := none) rfl hs (closure_ok cells) ok.kind (fun y hy e => by rw [ok.uniq y hy, e]) (thn (hi.run pins s σ H _ I h) fun xv s1 hx => thn hx fun itv s2 h2 => ?_)
  obtain ⟨it, fp, tn, J, H2, rfl, I2, T, st2, f2, q⟩ := h2
  refine wpAny_newObj_type (newEnv_comp ?_) (Nat.zero_le _)
  -- the list that is made, D
  obtain ⟨D, hD⟩ : ∃ D, D = s2.heap.objs.size := ⟨_, rfl⟩
  obtain ⟨W, ⟨m0, w0⟩, turn⟩ := q D (I2.hok.fresh (Nat.le_of_eq hD.symm))
  rw [← hD]
  obtain ⟨s3, hs3⟩ : ∃ s3 : Shared, s3 = { s2 with heap := s2.heap.push { cls := .type "list", data := .seq ([] : List Value).toArray } } := ⟨_, rfl⟩
  have push : ∀ b o, s2.heap.get? b = some o → s3.heap.get? b = some o := fun b o e => by rw [hs3]; exact Heap.get?_push_of_some _ e
  obtain ⟨H3, hH3⟩ : ∃ H3, H3 = upd H2 D (.lst []) := ⟨_, rfl⟩
  rw [← hH3] at w0
  have I3 : Inv X pins σ H3 s3 := by
    rw [hs3, hH3]
    refine I2.laid (t' := s2.toks) (fun b o e => Heap.get?_push_of_some _ e) (Nat.le_of_eq hD.symm) ⟨Nat.zero_le _, [], 0, .nil, ?_⟩
    rw [hD]
    exact Heap.get?_push_size _ rfl
  have small : ∀ b ∈ fp, b < s2.heap.objs.size := fun b hb => let ⟨o, e, _⟩ := T.obj _ _ st2 b hb; Heap.lt_size e
  have f3 : ∀ b ∈ fp, FpOk X pins H3 b := fun b hb => ⟨by rw [hH3, upd_ne (by rw [hD]; exact Nat.ne_of_lt (small b hb))]; exact (f2 b hb).1, (f2 b hb).2⟩
  have f4 : ∀ b ∈ fp, FpOk X pins H3 b ∧ b < s3.heap.objs.size := fun b hb => ⟨f3 b hb, by rw [hs3]; show b < (s2.heap.push _).objs.size; rw [Heap.size_push]; exact Nat.lt_succ_of_lt (small b hb)⟩
  have st3 : tn 0 s3.heap := T.keep _ _ _ st2 fun b _ o e => push b o e
  -- the block's context
  obtain ⟨cl, hcl⟩ : ∃ cl, cl = cellsFrom (s3.heap.objs.size + 1) scope.names (cloFrom X.env.cells scope.names []) := ⟨_, rfl⟩
  obtain ⟨ce, hce⟩ : ∃ ce, ce = compEnvC scope cl s3.heap.objs.size X.env := ⟨_, rfl⟩
  obtain ⟨s4, hs4⟩ : ∃ s4 : Shared, s4 = { s3 with heap := pushCells (s3.heap.push { cls := .type "dict", data := .dict #[] }) scope.names } := ⟨_, rfl⟩
  have I4 : Inv (X.blk s3 H3 scope ce fp) [] (wipe σ (own.map (·.2))) H3 s4 := by rw [hce, hs4, hcl]; exact block_start I3 ok hN f4
  have hB : HotB (X.blk s3 H3 scope ce fp) := hc.blk I3 f3
  have pg : PG (X.blk s3 H3 scope ce fp) tg g := by
    rw [hce] at hB ⊢
    exact hg s3 H3 s3.heap.objs.size cl fp hB
  have pt : PTs (X.blk s3 H3 scope ce fp) ifs tt := by rw [hce]; exact ht s3 H3 s3.heap.objs.size cl fp
  have pe : PE (X.blk s3 H3 scope ce fp) elt te := by rw [hce]; exact he s3 H3 s3.heap.objs.size cl fp
  have cL : ce.locals = s3.heap.objs.size := by rw [hce]; rfl
  have st4 : tn 0 s4.heap := T.keep _ _ _ st3 fun b _ o e => by rw [hs4]; exact pushCells_keeps _ _ _ _ (Heap.get?_push_of_some _ e)
  have fpb : ∀ {σ' : L2.St} {H' : Hp} {s' : Shared}, Inv (X.blk s3 H3 scope ce fp) [] σ' H' s' → (∀ b ∈ fp, H' b = none) → ∀ b ∈ fp, FpOk (X.blk s3 H3 scope ce fp) [] H' b := fun I' hn b hb =>
    ⟨hn b hb, (I'.ok.exf b hb).1, I'.ok.exfs b hb, .inl hb, (I'.ok.exf b hb).2, fun p hp => by simp at hp⟩
  -- its loop
  have loop : codeAny (model X.prog X.w) X.A (.compLoop (.ListComp elt [⟨tg, iter, ifs, 0⟩] scope pos) 0 (.ref it) (.ref D) ce) (compPost (model X.prog X.w) X.A X.xe none (EP X pins σ Q) (.ref D) s3.heap.objs.size) s4 := by
    refine compLoop_any (fun n s' => ∃ i H', Inv (X.blk s3 H3 scope ce fp) [] (wipe σ (own.map (·.2))) H' s' ∧ tn i s'.heap ∧ (∀ b ∈ fp, H' b = none) ∧ W i n H') ?_ m0 ⟨0, H3, I4, st4, fun b hb => (f3 b hb).1, w0⟩
    rintro n s5 ⟨i, H5, I5, st5, n5, w5⟩
    rcases turn i n H5 w5 with ⟨stop, qq⟩ | ⟨go, Nx, hNx, step⟩
    · refine thnF (T.done (X.blk s3 H3 scope ce fp) rfl rfl rfl hB i [] s5 _ H5 (fun _ _ => False) I5 (fpb I5 n5) st5 stop) ?_
      rintro r s6 ⟨rfl, I6⟩
      have I7 : Inv X pins σ H5 s6 := I3.call' (ch := fp) I6.os I6.base I6.hok I6.bare fun b hb => ⟨(f3 b hb).2.2.2.1, (f3 b hb).2.1, (f3 b hb).2.2.2.2.1, (f3 b hb).2.2.2.2.2⟩
      have nC : H5 s3.heap.objs.size = none := cL ▸ I6.free
      obtain ⟨m, hn, _⟩ := I6.loc
      refine ⟨m, cL ▸ hn, fun h'' sb => ?_⟩
      obtain ⟨f0, f1, f2', f3', f4', f5'⟩ := I3.fpOk (Nat.le_refl _) nC
      exact ⟨.ref D, H5, I7.turned (t' := s6.toks) (fun b o hb e => (sb.2 b hb).trans e) f0 f1 f3' f4' f5', rfl, qq⟩
    · refine thnF (T.item (X.blk s3 H3 scope ce fp) rfl rfl rfl hB i [] s5 _ H5 (fun _ _ => False) I5 (fpb I5 n5) st5 go) ?_
      rintro r s6 ⟨u, rfl, h6⟩
      refine thnF h6 fun _ s7 ⟨x, H7, I7, r7, y7, st7, n7⟩ => ?_
      refine thnF (pg.run _ s7 _ H7 x u _ (I7.pinned (fpb I7 n7) (T.obj _ _ st7)) r7 (step x H7 y7)) fun _ s8 ⟨σ8, H8, I8, hw8, q8⟩ => ?_
      refine thnF (pt.run _ s8 σ8 H8 _ I8 q8) fun b s9 ⟨H9, I9, q9⟩ => ?_
      have again : ∀ {s' : Shared} {H' : Hp}, Inv (X.blk s3 H3 scope ce fp) ([] ++ pinsAt fp s7.heap) σ8 H' s' → Nx H' → ∃ m, m < n ∧ ∃ i H', Inv (X.blk s3 H3 scope ce fp) [] (wipe σ (own.map (·.2))) H' s' ∧ tn i s'.heap ∧ (∀ b ∈ fp, H' b = none) ∧ W i m H' := fun {s' H'} I' nx => by
        obtain ⟨m', hm, w'⟩ := hNx H' nx
        have pin' : ∀ b ∈ fp, ∀ o, s7.heap.get? b = some o → s'.heap.get? b = some o ∧ H' b = none := fun b hb o e => (fun z => ⟨z.1, z.2.1⟩) (I'.pin (b, o) (List.mem_append_right _ (List.mem_append_right _ (mem_pinsAt hb e))))
        refine ⟨m', hm, i + 1, H', (I'.unpinned (pins := [])).weak (by rw [← hw8, wipe_length]) (fun j v e => ?_), T.keep _ _ _ st7 fun b hb o e => (pin' b hb o e).1, fun b hb => ?_, w'⟩
        · rw [← hw8] at e
          exact (wipe_some e).1
        · obtain ⟨o, e, _⟩ := T.obj _ _ st7 b hb
          exact (pin' b hb o e).2
      cases b with
      | false => exact again I9 q9
      | true => exact thnF (pe.run _ s9 σ8 H9 _ I9 q9) fun z s10 ⟨yv, H10, I10, r10, acc, hD10, hz10, nx⟩ => app_ok (X := X.blk s3 H3 scope ce fp) I10 hD10 hz10 r10 fun s11 I11 => again I11 nx
  rw [← hs3]
  show codeAny _ _ (.compStart (.ListComp elt [⟨tg, iter, ifs, 0⟩] scope pos) 0 (.ref it) (.ref D) (compEnvC scope (cellsFrom (s3.heap.objs.size + 1) scope.names (cloFrom X.env.cells scope.names [])) s3.heap.objs.size X.env)) (compPost _ _ _ _ _ (.ref D) s3.heap.objs.size) { s3 with heap := pushCells (s3.heap.push { cls := .type "dict", data := .dict #[] }) scope.names }
  rw [← hcl, ← hce, ← hs4]
  exact codeAny_compStart_list loop (T.self X.A 0 _ _ _ st4 loop)
end
end DLH
/-! DLwb: a try whose clauses name what they catch and let nothing through; a lambda handed to a def that calls it in a try. -/
namespace DLH
open PySem PySem.Spec PyProof.Rows L2 HotX L2H

abbrev Suite := Addr → Value → Option Addr → TS
/-- the ends behind a clause's suite: its name is gone -/
def unnamed (i : Nat) (D : Ends) : Ends := { nx := fun σ H => D.nx (σ.set i none) H, rt := D.rt, bk := fun σ H => D.bk (σ.set i none) H, ct := fun σ H => D.ct (σ.set i none) H }
def wSome (K : PySem.W.Frag) (D : Ends) : List (Value × Nat × Suite) → WX
  | [] => fun _ _ _ _ => False
  | (c, i, ts) :: r => fun cls d σ H => ∃ b, PySem.W.exmOne K cls c = some b ∧ (b = true → ∀ a, H a = none → ts a cls d (unnamed i D) (σ.set i (some (.ref a))) H) ∧ (b = false → wSome K D r cls d σ H)
inductive Clauses (X : Cx) : List ExceptHandler → List (Value × Nat × Suite) → Prop
  | nil : Clauses X [] []
  | cons {x n : Str} {c : Value} {i : Nat} {ts : Suite} {st : Stmt} {suite : List Stmt} {np pos' : Pos} {hds : List ExceptHandler} {l : List (Value × Nat × Suite)} (hc : Names X x c) (hi : X.N[i]? = some n) (hn : X.env.kindOf n = some .local)
      (hsu : ∀ (a : Addr) (oe : Obj) (cls : Value) (d : Option Addr) (pn : List (Addr × Obj)), L2N.Zn cls d oe → (∃ vs, oe.data = .fields vs) → PSs (X.suite a ((a, oe) :: pn)) (st :: suite) (ts a cls d)) (r : Clauses X hds l) :
      Clauses X (.ExceptHandler (some (.Name x np)) (some n) (st :: suite) pos' :: hds) ((c, i, ts) :: l)
section
variable {X : Cx} {pins : List (Addr × Obj)} {σ : L2.St} {H : Hp} {D : Ends}
/-- the caught exception a, landed in the state s: the clauses are asked one by one -/
theorem clauses_run (hN : X.N.Nodup) {a B : Addr} {base : Heap} {cls : Value} {d : Option Addr} {s : Shared} (na : H a = none) (nL : a ≠ X.env.locals) (nF : a ∉ X.fs) (J : Inv X pins σ H s) (fl : HandSPX.FlyingZ base (X.env :: X.outer) a (L2N.Zn cls d) s.heap)
    (again : ∀ h', HandSPX.FlyingZ base (X.env :: X.outer) a (L2N.Zn cls d) h' → s.heap.UpToSlots h' → Inv X pins σ H { s with heap := h' }) :
    ∀ {hds : List ExceptHandler} {l : List (Value × Nat × Suite)}, Clauses X hds l → wSome X.K D l cls d σ H → wpAny (model X.prog X.w) X.A (handleBy (.ref a) X.env hds) (SP X pins D) X.xe s := by
  obtain ⟨oe, vs, he, hz, hd⟩ := fl.there
  have S := J.suite he hd na nL nF
  have isa : PySem.W.Looks (model X.prog X.w) s.heap (typeOf (.ref a)) cls := fun A Q E s' k q => wpAny_typeOf_ref (k _ _ he) (by rw [hz.1]; exact q)
  intro hds l C
  induction C with
  | nil => exact fun w => w.elim
  | @cons x n c i ts st suite np pos' hds2 l2 hc hi hn hsu r ih =>
    rintro ⟨b, hb, yes, no⟩
    refine wpAny_handleBy_cons (codeAny_handlers_test ?_) (fun q => by cases q)
    have name : ∀ {Q E : Value → Shared → Prop}, Q c s → wpAny (model X.prog X.w) (X.A.mark (some (.ref a))) (eval (.Name x np) X.env) Q E s := fun {Q E} q => by
      obtain ⟨hg, hdb, hm | ⟨hm, hv, hnn⟩⟩ := hc
      · exact ld_glob (X := X.suite a ((a, oe) :: (X.pn ++ pins))) S hg hm q hdb
      · exact ld_blt (X := X.suite a ((a, oe) :: (X.pn ++ pins))) S hg hm hv q hnn hdb
    refine name ((PySem.W.exm_one (M := model X.prog X.w) J.kIn isa hb).here ?_)
    cases b with
    | false => exact ih (no rfl)
    | true =>
      refine codeAny_handlers_suite_as (HandSPX.lands_againZ fl fun h4 fl4 up4 => ?_)
      have J4 := again h4 fl4 up4
      obtain ⟨oe4, vs4, he4, hz4, hd4⟩ := fl4.there
      refine store_ok (X := X.suite a ((a, oe4) :: (X.pn ++ pins))) (v := .ref a) (J4.suite he4 hd4 na nL nF) hN hi (.inl hn) rfl (fun s5 S5 => ?_) (.inr hn)
      refine wpAny_mono ((hsu a oe4 cls d (X.pn ++ pins) hz4 ⟨_, hd4⟩).run [] s5 _ H _ S5 (yes rfl a na)) (fun f s6 z => ?_) (fun _ _ z => z.elim)
      have gone : ∀ {σ6 : L2.St} {H6 : Hp} {Q : Shared → Prop}, Inv (X.suite a ((a, oe4) :: (X.pn ++ pins))) [] σ6 H6 s6 → (∀ s7, Inv X pins (σ6.set i none) H6 s7 → Q s7) →
          wpAny (model X.prog X.w) X.A (do bindName X.env n .none; unbindBehindTheSuite X.env n pos') (fun _ s7 => Q s7) X.xe s6 := fun S6 hq => gone_ok (S6.unsuite J.ok) hN hi hn hq
      cases f with
      | next => exact let ⟨_, _, S6, q⟩ := z; gone S6 fun s7 J7 => ⟨_, _, J7, q⟩
      | brk => exact let ⟨_, _, S6, q⟩ := z; gone S6 fun s7 J7 => ⟨_, _, J7, q⟩
      | cont => exact let ⟨_, _, S6, q⟩ := z; gone S6 fun s7 J7 => ⟨_, _, J7, q⟩
      | ret u => exact let ⟨_, _, _, S6, rv, q⟩ := z; gone S6 fun s7 J7 => ⟨_, _, _, J7, rv, q⟩
theorem ps_trySome {body : List Stmt} {h₀ : ExceptHandler} {hds : List ExceptHandler} {l : List (Value × Nat × Suite)} {pos : Pos} {tb : WX → TS} (hs : X.stack = X.env :: X.outer) (hf : X.env.frame = some X.env.locals) (hN : X.N.Nodup)
    (hb : ∀ (W : WX) (pn : List (Addr × Obj)) (xe : Value → Shared → Prop), L2N.Takes (X.tr pn xe) W → PassesOwn (model X.prog X.w) X.A X.env xe → PSs (X.tr pn xe) body (tb W)) (C : Clauses X (h₀ :: hds) l) :
    PS X (.Try body (h₀ :: hds) [] [] pos) (fun D σ H => tb (wSome X.K D l) D σ H) := by
  refine ⟨fun pins s σ H D I h => wpAny_Try_except ?_⟩
  have frames : X.A.frames = some (X.env :: X.outer) := by rw [I.ok.frames, hs]
  have B := hb (wSome X.K D l) (X.pn ++ pins) (fun e s₁ => wpAny (model X.prog X.w) X.A (noteFrame e X.env) (fun _ s₂ => wpAny (model X.prog X.w) X.A (setFlight e none) (fun _ s₃ => wpAny (model X.prog X.w) X.A (handleBy e X.env (h₀ :: hds)) (SP X pins D) X.xe s₃) X.xe s₂) X.xe s₁) (fun u s' z => ?_) PassesOwn.looking
  · refine wpAny_mono (B.run [] s σ H D (I.toTry _) h) (fun f s1 z => ?_) (fun e s1 q => q)
    cases f with
    | next => exact let ⟨σ', H', J, q⟩ := z; wpAny_execs_nil ⟨σ', H', J.ofTry I.ok, q⟩
    | brk => exact let ⟨σ', H', J, q⟩ := z; ⟨σ', H', J.ofTry I.ok, q⟩
    | cont => exact let ⟨σ', H', J, q⟩ := z; ⟨σ', H', J.ofTry I.ok, q⟩
    | ret u => exact let ⟨v, σ', H', J, r, q⟩ := z; ⟨v, σ', H', J.ofTry I.ok, r, q⟩
  obtain ⟨a, base, sI, _, σ', H', cls, d, rfl, J0, nb, up, sky, na, os, ag, w⟩ := z
  have J := J0.ofTry I.ok
  have sky : Sky base (X.env :: X.outer) a (L2N.Zn cls d) X.env.locals s'.heap := hs ▸ sky
  refine L2N.Sky.land L2N.Zn.steady frames hf sky fun h3 fl3 up3 => ?_
  obtain ⟨oe, vs, he, hz, hd⟩ := fl3.there
  have nfr : a ∉ frs (X.env :: X.outer) := fun m => by
    obtain ⟨_, o, e, n⟩ := fl3.2.2.1.mem m
    rw [he] at e
    cases e
    exact n _ hd
  have land : ∀ h', HandSPX.FlyingZ base (X.env :: X.outer) a (L2N.Zn cls d) h' → h3.UpToSlots h' → Inv X pins σ' H' { s' with heap := h' } := fun h' f u => J.landed nb f.1 ((up.trans up3).trans u) os ag
  refine clauses_run (B := a) (s := { s' with heap := h3 }) hN na (fun z => nfr ?_) (fun m => nfr ?_) (J.landed nb fl3.1 (up.trans up3) os ag) fl3 land C w
  · exact List.mem_filterMap.mpr ⟨X.env, List.mem_cons_self, by rw [hf, z]⟩
  · obtain ⟨e, e1, e2⟩ := List.mem_filterMap.mp m
    exact List.mem_filterMap.mpr ⟨e, List.mem_cons_of_mem _ e1, e2⟩
end
end DLH
/-! DLwc: isinstance of what is handled; zip, join; the names of an error's classes. -/
namespace DL
open PySem PySem.Spec PyProof.Rows L2 HotX L2H LamX DLH

/-! ### isinstance -/
theorem call_isP {X : Cx} {C : Addr} {p : Addr × Obj} (F : ExcC X.K C) (hp : p ∈ X.pn) (hc : p.2.cls = .ref C) (hd : p.2.dict = none) (hf : ∃ vs, p.2.data = .fields vs) : CallR X (.builtin "isinstance") (rIsE X.K C p.1) := by
  rintro pins s σ H xs us Q I r ⟨c, cv, b, rfl, hcv, e, q⟩
  obtain _ | ⟨rx, rr⟩ := r
  obtain _ | ⟨rt, rr⟩ := rr
  cases rr; cases rx
  cases hcv _ rt
  have hget := (I.pin p (List.mem_append_left _ hp)).1
  obtain ⟨vs, hv⟩ := hf
  have J : PySem.W.InstAt s.heap p.1 p.2 C none := by
    obtain ⟨a, ⟨oc, od, oda, osl⟩⟩ := p
    dsimp only at hc hd hv hget
    subst hc hd hv
    exact ⟨hget, rfl, rfl, trivial⟩
  exact PySem.W.kia_one (PySem.W.handS_kitx_exc F.hg F.hk F.hs F.hd F.ha F.hn F.ht F.hm) I.kIn J e (fun z => nomatch z) fun tk => ⟨.bl b, H, I.kept (t' := tk) fun _ _ z => z, rfl, q⟩
/-- slot 0 holds what is handled: the def number 0 of an own numbering -/
def sIs (b : Bool) : Sem := fun ρ m => match ρ[(0 : Nat)]? with
  | some (some (.d (.fn 0))) => .ok (.d (.bl b)) m
  | _ => .no
section
variable {X : Cx} {z : Z} {W : XK} {C : Addr} {p : Addr × Obj} {b : Bool}
/-- what is known of the handled object -/
structure Hd (X : Cx) (z : Z) (C : Addr) (p : Addr × Obj) : Prop where
  at0 : z.fa 0 = p.1
  ex : ExcC X.K C
  pin : p ∈ X.pn
  cls : p.2.cls = .ref C
  dict : p.2.dict = none
  data : ∃ vs, p.2.data = .fields vs
  isi : X.mg "isinstance" = none
theorem c_is {x y : Str} {cv : Value} {c : V} {pe pc pf pos : Pos} (h : Hd X z C p) (hk : PySem.W.kitOne X.K (.ref C) cv = some b) (hcl : PE X (.Name y pc) (tC c)) (hcv : ∀ u, RelV c u → u = cv)
    (hN : X.N[0]? = some x := by rfl) (hv : Vis X.env.scope x := by first | exact Or.inl rfl | exact Or.inr (Or.inl rfl) | exact Or.inr (Or.inr rfl)) (hdb : (x == ("__debug__" : Str)) = false := by decide) (hcd : (x == ("__classdict__" : Str)) = false := by decide) (hg : Gl X "isinstance" := by rfl) :
    CE z W X (.Call (.Name "isinstance" pf) [.Name x pe, .Name y pc] [] pos) (sIs b) := by
  refine pe_mono (pe_callB (call_isP h.ex h.pin h.cls h.dict h.data) hg h.isi (by decide +kernel) (pa_cons (pe_var (i := 0) (pos := pe) hN hv hdb hcd) (pa_cons hcl pa_nil))) ?_
  rintro σ H Q ⟨η, ι, ρ, m, ok, q⟩
  unfold sIs at q
  split at q
  · rename_i e
    obtain ⟨x, e1, rx⟩ := ok.slot 0 _ e
    have e2 : x = .ref (z.fa 0) := by
      have rx : Rp z _ x (.fn 0) := rx
      cases rx
      rfl
    rw [e2, h.at0] at e1
    exact ⟨_, e1, c, cv, b, rfl, hcv, hk, q H ι Stp.refl ok.mem _ (.bl b)⟩
  · exact q.elim
/-- isinstance(e, an own class), isinstance(e, ValueError) -/
theorem c_isO {x y : Str} {B : Addr} {pe pc pf pos : Pos} (h : Hd X z C p) (hy : X.mg y = some (.ref B)) (hk : PySem.W.kitOne X.K (.ref C) (.ref B) = some b) (hN : X.N[0]? = some x := by rfl)
    (hv : Vis X.env.scope x := by first | exact Or.inl rfl | exact Or.inr (Or.inl rfl) | exact Or.inr (Or.inr rfl)) (hdb : (x == ("__debug__" : Str)) = false := by decide) (hcd : (x == ("__classdict__" : Str)) = false := by decide) (hg : Gl X "isinstance" := by rfl) (hgy : Gl X y := by rfl) (hdy : (y == ("__debug__" : Str)) = false := by decide) :
    CE z W X (.Call (.Name "isinstance" pf) [.Name x pe, .Name y pc] [] pos) (sIs b) :=
  c_is h hk (pe_glob (v := .ref B) hgy hy rfl hdy) (fun u r => r) hN hv hdb hcd hg
theorem c_isV {x : Str} {pe pc pf pos : Pos} (h : Hd X z C p) (hy : X.mg "ValueError" = none) (hk : PySem.W.kitOne X.K (.ref C) (.type "ValueError") = some b) (hN : X.N[0]? = some x := by rfl)
    (hv : Vis X.env.scope x := by first | exact Or.inl rfl | exact Or.inr (Or.inl rfl) | exact Or.inr (Or.inr rfl)) (hdb : (x == ("__debug__" : Str)) = false := by decide) (hcd : (x == ("__classdict__" : Str)) = false := by decide) (hg : Gl X "isinstance" := by rfl) (hgy : Gl X "ValueError" := by rfl) :
    CE z W X (.Call (.Name "isinstance" pf) [.Name x pe, .Name "ValueError" pc] [] pos) (sIs b) :=
  c_is h hk (pe_bltn (v := .ty "ValueError") (u := .type "ValueError") hgy hy (by decide +kernel) rfl) (fun u r => r) hN hv hdb hcd hg
end

/-! ### while an exception is handled -/
section
variable {X : Cx} {z : Z} {W : XK} {e o : Expr} {s so : Sem}
theorem cs_setN (i : Nat) {x : Str} {pos pos' : Pos} (nd : X.N.Nodup) (he : CE z W X e s) (hi : X.N[i]? = some x := by rfl) (hx : Loc X.env.scope x := by first | exact Or.inl rfl | exact Or.inr rfl)
    (hs : swapsWith e (some (.Name x pos')) pos.line X.env = pure false := by rfl) (hf : X.fn x = true ∨ X.env.scope.names.lookup x = some .local := by first | exact .inl rfl | exact .inr rfl) : CS z W X (.Assign [.Name x pos'] e pos) (sSet i s) :=
  ps_mono (ps_set nd hi hx he hs hf) fun D σ H ⟨η, ι, ρ, m, ok, h⟩ => by
    refine ⟨η, ι, ρ, m, ok, Post.mono (fun ι1 m1 H1 v st1 k1 h1 x rx => ?_) (Post.bind h)⟩
    exact h1 H1 ι1 Stp.refl k1 _ ((ok.step st1 k1).set rx)
theorem pgnN (i : Nat) {x : Str} {pos : Pos} (nd : X.N.Nodup) (hi : X.N[i]? = some x := by rfl) (hx : Loc X.env.scope x := by first | exact Or.inl rfl | exact Or.inr rfl) (hf : X.fn x = true ∨ X.env.scope.names.lookup x = some .local := by first | exact .inl rfl | exact .inr rfl) : PG X (.Name x pos) (gName i) := pg_name nd hi hx hf
def strs? : List D → Option (List Str)
  | [] => some []
  | .str x :: r => (strs? r).map (x :: ·)
  | _ => none
theorem strs_of : ∀ {ds : List D} {ys : List Str}, strs? ds = some ys → ds = ys.map .str
  | [], ys, h => by cases h; rfl
  | d :: r, ys, h => by
    cases d with
    | str x =>
      have h : (strs? r).map (x :: ·) = some ys := h
      cases q : strs? r with
      | none => rw [q] at h; cases h
      | some zs => rw [q] at h; cases h; rw [strs_of q]; rfl
    | _ => cases h
def joinD (a : Str) : D → Option D
  | .lst xs => (strs? xs).bind fun ys => if (ys.map (·.length)).sum + ys.length * a.length ≤ 16777216 then some (.str (Txt.join a ys)) else none
  | _ => none
/-- a text's method with one argument -/
def sM1 (g : Str → D → Option D) (so s : Sem) : Sem := fun ρ m => (so ρ m).bind fun v m1 => match v with
  | .d (.str a) => (s ρ m1).bind fun w m2 => match drf m2 w with
    | some d => R.dat (g a d) m2
    | none => .no
  | _ => .no
theorem c_join {apos pos : Pos} (hK : X.K = z.K) (ho : CE z W X o so) (he : CE z W X e s) (hs : starEach [e] X.env = [(false, eval e X.env)] := by rfl) (hbase : attributeBase o "join" X.env (eval o X.env) = eval o X.env := by rfl)
    (hline : (apos.endLine == pos.line) = true := by rfl) : CE z W X (.Call (.Attribute o "join" apos) [e] [] pos) (sM1 joinD so s) :=
  pe_mono (pe_join ho he hs hbase hline) fun σ H Q ⟨η, ι, ρ, m, ok, h⟩ => by
    refine ⟨η, ι, ρ, m, ok, Post.mono (fun ι1 m1 H1 v st1 k1 h1 x rx => ?_) (Post.bind h)⟩
    split at h1
    · rename_i a
      cases (show Rp z _ x (.str a) from rx)
      refine ⟨⟨a, rfl⟩, η, ι1, ρ, m1, ok.step st1 k1, Post.mono (fun ι2 m2 H2 w st2 k2 h2 y ry => ?_) (Post.bind h1)⟩
      split at h2
      · rename_i d hd
        have rq := rq_of k2 ry hd
        cases d with
        | lst xs =>
          obtain ⟨p, vs, rfl, hl, rl⟩ := rq
          unfold joinD at h2
          dsimp only at h2
          cases q : strs? xs with
          | none => rw [q] at h2; exact h2.elim
          | some ys =>
            rw [q] at h2
            by_cases hz : (ys.map (·.length)).sum + ys.length * a.length ≤ 16777216
            · rw [Option.bind_some, if_pos hz] at h2
              rw [strs_of q] at rl
              have ev := RpL.str_of rl
              subst ev
              exact ⟨a, p, ys, rfl, rfl, .inl (SqL.of hl), hz, h2 H2 ι2 Stp.refl k2 _ (.str _)⟩
            · rw [Option.bind_some, if_neg hz] at h2; exact h2.elim
        | _ => exact h2.elim
      · exact h2.elim
    · exact h1.elim
/-! two lists walked together -/
def zipD (xs ys : List D) : List D := (xs.zip ys).map fun p => .tup [p.1, p.2]
theorem zipD_length (xs ys : List D) : (zipD xs ys).length = min xs.length ys.length := by simp [zipD]
theorem zipD_get {xs ys : List D} {i : Nat} {d : D} (h : (zipD xs ys)[i]? = some d) : ∃ x y, xs[i]? = some x ∧ ys[i]? = some y ∧ d = .tup [x, y] := by
  unfold zipD at h
  rw [List.getElem?_map] at h
  obtain ⟨p, h1, h2⟩ := Option.map_eq_some_iff.mp h
  rw [List.getElem?_zip_eq_some] at h1
  exact ⟨p.1, p.2, h1.1, h1.2, h2.symm⟩
def sZip (r : SemA) : SemI := fun ρ m => (r ρ m).bind fun vs m1 => match vs with
  | [.d (.lst xs), .d (.lst ys)] => .ok (zipD xs ys) m1
  | _ => .no
theorem rp_lst {H : Hp} {x : V} {xs : List D} (h : Rp z H x (.lst xs)) : ∃ a vs, x = .ref a ∧ H a = some (.lst vs) ∧ RpL z H vs xs := by
  cases h with
  | lst h r => exact ⟨_, _, rfl, h, r⟩
theorem wk_zip {J : It} {L : List Addr} {H : Hp} {a b : Addr} {us vs : List V} {xs ys : List D} (ha : hid L H a = some (.lst us)) (ra : RpL z (hid L H) us xs) (hb : hid L H b = some (.lst vs)) (rb : RpL z (hid L H) vs ys)
    (hJ : J.yld = (Itz z.K a b).yld) (hg : J.go = (Itz z.K a b).go) (hst : ∀ H', SqL z.K H' a us → SqL z.K H' b vs → J.stop (min us.length vs.length) H') : Wk z L H J (zipD xs ys) where
  go := fun L' H' i e hi => by
    rw [zipD_length] at hi
    have l1 := ra.length
    have l2 := rb.length
    rw [hg]
    exact ⟨us, vs, us[i]'(by omega), vs[i]'(by omega), SqL.of (hid_ext _ _ (e _ _ ha)), SqL.of (hid_ext _ _ (e _ _ hb)), by simp, by simp⟩
  stop := fun L' H' e => by
    rw [zipD_length, ← ra.length, ← rb.length]
    exact hst H' (SqL.of (hid_ext _ _ (e _ _ ha))) (SqL.of (hid_ext _ _ (e _ _ hb)))
  yl := fun L' H' i x H'' d e hx y hd => by
    rw [hJ] at y
    obtain ⟨T, u, v, rfl, hT, rfl, f1, f2⟩ := y
    obtain ⟨p, q, h1, h2, rfl⟩ := zipD_get hd
    obtain ⟨u', e1, r1⟩ := ra.get' h1
    obtain ⟨v', e2, r2⟩ := rb.get' h2
    have eu := f1 us (SqL.of (hid_ext _ _ (e _ _ ha)))
    have ev := f2 vs (SqL.of (hid_ext _ _ (e _ _ hb)))
    rw [e1] at eu
    rw [e2] at ev
    cases eu
    cases ev
    exact ⟨Ext.new hT, Rp.newT hx hT (.cons (r1.ext e) (.cons (r2.ext e) .nil))⟩
theorem zip_of {σ : L2.St} {H : Hp} {R : It → Hp → Prop} {r : SemA} {J : Addr → Addr → It} (hK : X.K = z.K) (hJ : ∀ a b, (J a b).yld = (Itz z.K a b).yld ∧ (J a b).go = (Itz z.K a b).go)
    (hst : ∀ a b us vs H', SqL z.K H' a us → SqL z.K H' b vs → (J a b).stop (min us.length vs.length) H') (h : tI z W (sZip r) σ H R) :
    tA z W r σ H fun vs H1 => ∃ a b xs ys, vs = [.ref a, .ref b] ∧ SqL X.K H1 a xs ∧ SqL X.K H1 b ys ∧ R (J a b) H1 := by
  obtain ⟨η, ι, ρ, m, ok, h⟩ := h
  refine ⟨η, ι, ρ, m, ok, Post.mono (fun ι1 m1 H1 vs st1 k1 h1 xs rxs => ?_) (Post.bind h)⟩
  split at h1
  · rename_i ds es
    obtain _ | ⟨r1, rr⟩ := rxs
    obtain _ | ⟨r2, rr⟩ := rr
    cases rr
    obtain ⟨a, us, rfl, ha, ra⟩ := rp_lst r1
    obtain ⟨b, vs, rfl, hb, rb⟩ := rp_lst r2
    exact ⟨a, b, us, vs, rfl, SqL.of (hid_ext _ _ ha), SqL.of (hid_ext _ _ hb), h1 H1 ι1 Stp.refl k1 _ (wk_zip ha ra hb rb (hJ a b).1 (hJ a b).2 (hst a b us vs))⟩
  · exact h1.elim
theorem ci_zip {e2 : Expr} {r : SemA} {p pos tpos : Pos} {elts : List Expr} {kk : Nat} (hK : X.K = z.K) (hm : X.mg "zip" = none) (ha : CA z W X [e, e2] r) (hg : Gl X "zip" := by rfl)
    (hs : starEach [e, e2] X.env = (false, eval e X.env) :: starEach [e2] X.env := by rfl) (hpl : (backTo pos (starEach [e2] X.env)).any (·.1) = false := by rfl) : CI z W X (.Tuple elts kk tpos) (.Call (.Name "zip" p) [e, e2] [] pos) (sZip r) :=
  pi_mono (pi_zip hg hm ha hs hpl) fun σ H R h => by
    refine zip_of (J := Itz X.K) hK (fun a b => by rw [hK]; exact ⟨rfl, rfl⟩) (fun a b us vs H' h1 h2 => ?_) h
    rw [hK]
    exact ⟨us, vs, h1, h2, by omega⟩
/-- … in a comprehension within an except suite -/
theorem c_lcZ {elt e2 : Expr} {elts : List Expr} {ifs : List Expr} {scope : Scope} {own : List (Str × Nat)} {p pos zpos tpos : Pos} {kk : Nat} {r : SemA} {T : Tg} {t : SemT} {se : Sem} (hK : X.K = z.K) (hc : HotB X) (hN : X.N.Nodup) (hm : X.mg "zip" = none) (ha : CA z W X [e, e2] r) (ok : BlkOk X.N X.env.scope scope own)
    (hg : ∀ (s : Shared) (H : Hp) (C : Addr) (cl : List (Str × Addr)) (fp : List Addr), HotB (X.blk s H scope (compEnvC scope cl C X.env) fp) → PG (X.blk s H scope (compEnvC scope cl C X.env) fp) (.Tuple elts kk tpos) (T.t X.K))
    (ht : ∀ (s : Shared) (H : Hp) (C : Addr) (cl : List (Str × Addr)) (fp : List Addr), CTs z (X.blk s H scope (compEnvC scope cl C X.env) fp) ifs t)
    (he : ∀ (s : Shared) (H : Hp) (C : Addr) (cl : List (Str × Addr)) (fp : List Addr), CE z W0 (X.blk s H scope (compEnvC scope cl C X.env) fp) elt se) (hT : ∀ i ∈ T.at, i ∈ own.map (·.2) := by decide)
    (hgz : Gl X "zip" := by rfl) (hst : starEach [e, e2] X.env = (false, eval e X.env) :: starEach [e2] X.env := by rfl) (hpl : (backTo zpos (starEach [e2] X.env)).any (·.1) = false := by rfl) (hs : ∀ x, foldedSetIterable (.Call (.Name "zip" p) [e, e2] [] zpos) X.env x = pure x := by intro _; rfl) :
    CE z W X (.ListComp elt [⟨.Tuple elts kk tpos, .Call (.Name "zip" p) [e, e2] [] zpos, ifs, 0⟩] scope pos) (sLc (sZip r) (own.map (·.2)) T t se) := by
  have hz : PIW X (.Tuple elts kk tpos) (.Call (.Name "zip" p) [e, e2] [] zpos) (tI z W (sZip r)) := ⟨fun pins s σ H R I h => (pi_zipW hgz hm ha hst hpl).run pins s σ H R I (zip_of (J := ItzH X.K) hK (fun a b => by rw [hK]; exact ⟨rfl, rfl⟩) (fun a b us vs H' h1 h2 => by
    rw [hK]
    exact ⟨us, vs, h1, h2, by omega, by omega, by omega⟩) h)⟩
  rw [hK] at hg
  exact pe_mono (pe_lcW hc hN hz ok hg ht he hs) fun σ H Q ⟨η, ι, ρ, m, ok, h⟩ => lc_of (X := X) hT ⟨η, ι, ρ, m, ok, Post.mono (fun ι' m' H' xs st k h p ws k2 rp hp np _ => by
    obtain ⟨k3, ex⟩ := k2.unhide
    refine h H' ι' Stp.refl k _ (Rp.lst (hid_some.mpr ⟨fun q => ?_, hp⟩) (rp.ext ex))
    rcases List.mem_append.mp q with q | q
    · exact np q
    · exact k2.dj p (liv_sub q) List.mem_cons_self) (Post.bind h)⟩
end
end DL
/-! DLwd: the def that names an error's classes. -/
namespace DL
open PySem PySem.Spec PyProof.Rows L2 HotX L2H LamX DLH

def errNames : List Str := ["InvalidAnswers", "InvalidFact", "InvalidIndex", "InvalidMachine", "InvalidNumber", "InvalidPlay", "InvalidRegion", "InvalidRow", "InvalidScript", "InvalidSlack", "InvalidText", "NothingToUndo"]
/-- the readings of its lines: c is the error's class -/
def sW (xs : List Str) : Sem := sLst (xs.foldr (fun x r => aCons (sC (.str x)) r) aNil)
def isB (c j : Nat) : Sem := sIs (decide (j = c))
def semKinds (c : Nat) : SemS :=
  sSeq (sSet 1 (sLstO (aCons (isB c 0) (aCons (isB c 1) (aCons (isB c 2) aNil)))))
  (sSeq (sSet 1 (sCatO (sVar 1) (sLst (aCons (isB c 3) (aCons (isB c 4) (aCons (isB c 5) aNil))))))
  (sSeq (sSet 1 (sCatO (sVar 1) (sLst (aCons (isB c 6) (aCons (isB c 7) (aCons (isB c 8) aNil))))))
  (sSeq (sSet 1 (sCatO (sVar 1) (sLst (aCons (isB c 9) (aCons (isB c 10) (aCons (isB c 11) aNil))))))
  (sSeq (sApp 1 (sIs true))
  (sFrz 1 (sSeq (sSet 2 (sW ["InvalidAnswers", "InvalidFact", "InvalidIndex", "InvalidMachine", "InvalidNumber", "InvalidPlay"]))
  (sSeq (sSet 2 (sBin addD (sVar 2) (sW ["InvalidRegion", "InvalidRow", "InvalidScript", "InvalidSlack", "InvalidText"])))
  (sSeq (sRet (sM1 joinD (sC (.str " ")) (sLc (sZip (aCons (sBin addD (sVar 2) (sW ["NothingToUndo", "+"])) (aCons (sVar 1) aNil))) [3, 4] (.many [3, 4]) (sTb (sVar 4)) (sVar 3)))) sNil))))))))
def env0 : Env := [some (.d (.fn 0)), none, none, none, none]
def kindOf (c : Nat) : Str := errNames.getD c "" ++ " +"
theorem kinds_is (c : Nat) (h : c < 12) : ∃ m, semKinds c env0 [] = .ok (.rt (.d (.str (kindOf c)))) m := by
  match c, h with
  | 0, _ => exact ⟨_, rfl⟩
  | 1, _ => exact ⟨_, rfl⟩
  | 2, _ => exact ⟨_, rfl⟩
  | 3, _ => exact ⟨_, rfl⟩
  | 4, _ => exact ⟨_, rfl⟩
  | 5, _ => exact ⟨_, rfl⟩
  | 6, _ => exact ⟨_, rfl⟩
  | 7, _ => exact ⟨_, rfl⟩
  | 8, _ => exact ⟨_, rfl⟩
  | 9, _ => exact ⟨_, rfl⟩
  | 10, _ => exact ⟨_, rfl⟩
  | 11, _ => exact ⟨_, rfl⟩

/-- what is known of an error's class at C, the classes at er -/
structure Err (K : PySem.W.Frag) (er : Nat → Addr) (c : Nat) : Prop where
  lt : c < 12
  ex : ExcC K (er c)
  isi : ∀ j, j < 12 → PySem.W.kitOne K (.ref (er c)) (.ref (er j)) = some (decide (j = c))
  val : PySem.W.kitOne K (.ref (er c)) (.type "ValueError") = some true
/-- the def at f names the classes of what is handled -/
structure Kinds (P : Program) (w : World) (K : PySem.W.Frag) (mg : Str → Option Value) (base : Heap) (er : Nat → Addr) (k : Nat) (f : Addr) (fd : FuncData) : Prop where
  run : ∀ (A : Around) (outer : List PySem.Env) (s : Shared) (H : Hp) (args : Args) (Q : VK) (p : Addr × Obj) (c : Nat), RoomH k A → Hot1 A p → PinOk outer H s p → Env0 P w K mg base A outer s H → BindsTo s fd args ((["e"] : List Str).zip [Value.ref p.1]) → Err K er c → p.2.cls = .ref (er c) → p.2.dict = none →
    (∀ H', Ext H H' → Q (.str (kindOf c)) H') → codeAny (model P w) A (.call (.ref f) args) (CR C8.CX0 outer P w H s Q C8.E0) s
abbrev kindsCx (P : Program) (w : World) (K : PySem.W.Frag) (mg : Str → Option Value) (base : Heap) (scope : Scope) (f : Addr) (cd : Value) (A : Around) (outer : List PySem.Env) (s : Shared) (H : Hp) (p : Addr × Obj) : Cx :=
  cxH C8.CX0 P w K mg base ["e", "some", "words", "word", "good"] "_law_kinds" scope f cd A outer s H C8.E0 p
theorem kinds_ok {P : Program} {w : World} {K : PySem.W.Frag} {mg : Str → Option Value} {base : Heap} {er : Nat → Addr} {k : Nat} {st : Stmt} {f : Addr} {fd : FuncData} (F : L2.Fun K "_law_kinds" "_law_kinds" st f fd) (S : FnScope ["e", "some", "words", "word", "good"] ["e"] (defScope st)) (hm : mg "isinstance" = none)
    (hbody : ∀ (cdv : Value) (A : Around) (outer : List PySem.Env) (s : Shared) (H : Hp) (p : Addr × Obj) (z : Z) (c : Nat), K = z.K → Err K er c → HotB (kindsCx P w K mg base (defScope st) f cdv A outer s H p) → Hd (kindsCx P w K mg base (defScope st) f cdv A outer s H p) z (er c) p →
      CSs z W0 (kindsCx P w K mg base (defScope st) f cdv A outer s H p) (defBody st) (semKinds c)) : Kinds P w K mg base er (k + 1) f fd := by
  obtain ⟨oc, od, kV, doc, pm, an, cdv, ct, osl, rfl, lk, hcd⟩ := F.ex
  refine ⟨fun A outer s H args Q p c hr hot pin e0 hb hE hcls hdict q => ?_⟩
  have KX : K.In s.heap := e0.mod.kin.keeps fun b o e => (e0.bs b o e).1
  have lim : s.heap.NoLimit := e0.mod.nolimit.keeps fun b o e => (e0.bs b o e).1
  have kinds : ∀ y ∈ (["e"] : List Str).zip [Value.ref p.1], (defScope st).names.lookup y.1 = some .local ∨ ((defScope st).names.lookup y.1 = some .cell ∧ ((cellsFrom (s.heap.objs.size + 1) (defScope st).names []).lookup y.1).isSome = true) := fun ⟨n, v⟩ hy =>
    (S.par n (List.of_mem_zip hy).1).imp id fun q => ⟨q, PySem.W.cellsFrom_some _ _ _ (.inl q)⟩
  refine codeAny_call_function hr.depth (KX _ _ lk) rfl S.co S.gen rfl (PySem.W.codeRec_of KX hcd) (hb _ _ _ _ (wpAny_newFunctionEnv_cells S.kind kinds fun env he s1 x => ?_))
  subst he
  refine ⟨lim.keeps x.toInCall.keep, codeAny_func ?_⟩
  have I := inv_startH (CX := C8.CX0) (qual := "_law_kinds") (vs := [V.ref p.1]) (us := [Value.ref p.1]) (E := C8.E0) S pin e0 rfl (.cons rfl .nil) x
  obtain ⟨vs, hv, _⟩ := hot.2
  -- an own numbering: 0 is what is handled
  obtain ⟨m, hm'⟩ := kinds_is c hE.lt
  have X1 : HotB (kindsCx P w K mg base (defScope st) f cdv A outer s H p) := HotC.b ⟨p, hot, List.mem_singleton.mpr rfl⟩
  have b := hbody cdv A outer s H p ⟨K, fun _ => p.1, P, w⟩ c rfl hE X1 ⟨rfl, hE.ex, List.mem_singleton.mpr rfl, hcls, hdict, ⟨vs, hv⟩, hm⟩
  have nohid : hid ([] ++ liv [] []) H = H := by
    funext b
    unfold hid
    rw [if_neg (by simp [liv])]
  have sok : SOk ⟨K, fun _ => p.1, P, w⟩ [] [] [] env0 (L2.start ["e", "some", "words", "word", "good"] [.ref p.1]) H := by
    refine ⟨⟨rfl, .nil, fun _ h => by simp at h, fun _ h => by simp at h, fun _ _ _ h _ => by simp at h⟩, rfl, fun i v e => ?_⟩
    match i, e with
    | 0, e =>
      cases e
      exact ⟨.ref p.1, rfl, Rp.fn 0⟩
    | 1, e => cases e
    | 2, e => cases e
    | 3, e => cases e
    | 4, e => cases e
    | n + 5, e => cases e
  refine wpAny_mono (b.run [] s1 _ H { nx := fun _ _ => False, rt := Q } I ⟨[], [], env0, [], sok, ?_⟩) (fun fl s' hs => ?_) fun e s' hs => hs
  · rw [hm']
    intro H' ι' st k x rx
    have rx : Rp _ _ x (.str (kindOf c)) := rx
    cases rx
    exact q H' fun b o e => (st.fr b o (by simp [liv]) e).1
  · cases fl with
    | ret u =>
      obtain ⟨v, σ', H', J, rv, q⟩ := hs
      exact ⟨v, H', J.os, J.bare, J.base, J.hok, rv, q⟩
    | next => exact let ⟨_, _, _, q⟩ := hs; q.elim
    | brk => exact let ⟨_, _, _, q⟩ := hs; q.elim
    | cont => exact let ⟨_, _, _, q⟩ := hs; q.elim
/-- called in an except suite, slot i holds what is handled -/
theorem pe_kinds {X : Cx} {er : Nat → Addr} {k i : Nat} {f : Addr} {fd : FuncData} {a : Addr} {oe : Obj} {cls : Value} {d : Option Addr} {pn : List (Addr × Obj)} {x n : Str} {p q pos : Pos} (F : Kinds X.prog X.w X.K X.mg X.base er k f fd) (hr : RoomH k X.A) (hb : Binds X.K fd ["e"] []) (hm : X.mg x = some (.ref f)) (hk : PySem.W.keepIn X.K (.ref f) = true)
    (hz : L2N.Zn cls d oe) (hv : ∃ vs, oe.data = .fields vs) (hN : X.N[i]? = some n := by rfl) (hvis : Vis X.env.scope n := by first | exact Or.inl rfl | exact Or.inr (Or.inl rfl) | exact Or.inr (Or.inr rfl)) (hg : Gl X x := by rfl) (hdb : (x == ("__debug__" : Str)) = false := by decide)
    (hd : (n == ("__debug__" : Str)) = false := by decide) (hcd : (n == ("__classdict__" : Str)) = false := by decide) (he : starEach [.Name n p] X.env = (false, eval (.Name n p) X.env) :: starEach [] X.env := by rfl) (hpl : (backTo pos (starEach [] X.env)).any (·.1) = false := by rfl) :
    PE (X.suite a ((a, oe) :: pn)) (.Call (.Name x q) [.Name n p] [] pos) (fun σ H Q => σ[i]? = some (some (.ref a)) ∧ ∃ c, Err X.K er c ∧ cls = .ref (er c) ∧ d = none ∧ ∀ H', Ext H H' → Q (.str (kindOf c)) H') := by
  refine ⟨fun pins s σ H Q I ⟨hs, c, hE, e1, e2, h⟩ => ?_⟩
  subst e1 e2
  refine wpAny_Call_Name_kw (ld_glob I hg hm ?_ hdb)
  refine PySem.W.callWith_K (h₀ := X.base) I.ok.mod.kin hk (thn ((pa_cons (pe_var (X := X.suite a ((a, oe) :: pn)) (i := i) (pos := p) hN hvis hd hcd) pa_nil).run pos pins s σ H (fun vs H1 => vs = [.ref a] ∧ H1 = H) I ⟨_, hs, rfl, rfl⟩) fun us s1 ⟨vs, H1, I1, r, e3, e4⟩ => ⟨I1.kIn, ?_⟩) he hpl
  subst e3 e4
  obtain _ | ⟨r1, rr⟩ := r
  cases rr; cases r1
  obtain ⟨vs, hv⟩ := hv
  have P1 := I1.pin (a, oe) (List.mem_append_left _ List.mem_cons_self)
  have pin : PinOk X.stack H1 s1 (a, oe) := ⟨P1.1, P1.2.1, fun hm => (List.mem_cons.mp (I1.stkSub a hm)).elim P1.2.2.1 P1.2.2.2.1, P1.2.2.2.2⟩
  have b := hb s1 [.ref a] I1.kIn rfl
  refine wpAny_call (codeAny_mono (F.run _ X.stack s1 H1 ⟨[.ref a], []⟩ Q (a, oe) c ⟨hr.dp, hr.un⟩ ⟨rfl, vs, hv, hz.2.2 vs hv⟩ pin I1.env0 b hE hz.1 hz.2.1 h) fun r s' hq => ?_)
  cases r with
  | error e => exact (show False from hq).elim
  | ok fl =>
    cases fl with
    | ret u => exact I1.after hq
    | next => exact False.elim hq
    | brk => exact False.elim hq
    | cont => exact False.elim hq
end DL
/-! DLwe: a lambda made, handed to a def that calls it in a try. -/
namespace DL
open PySem PySem.Spec PyProof.Rows L2 HotX L2H LamX DLH

section
variable {X : Cx} {pins : List (Addr × Obj)} {σ : L2.St} {H : Hp} {s : Shared}
/-- all but P's table stays -/
def ButP (P : Addr) (H H' : Hp) : Prop := ∀ b o, b ≠ P → H b = some o → H' b = some o
/-- the lambda's object at f is there and is not tracked; its code object is at c' -/
structure LamAt (X : Cx) (params : Arguments) (body : Expr) (scope : Scope) (f c' : Addr) (H : Hp) (s : Shared) : Prop where
  obj : ∃ pm ctv, s.heap.get? f = some (PySem.W.kla_obj "<lambda>" (X.env.qual ++ "<lambda>") params body scope (cloFrom X.env.cells scope.names []) pm c' ctv)
  free : H f = none
  nofr : f ∉ frs X.stack
  code : H c' = some (CodeO c' (X.env.qual ++ "<lambda>"))
theorem lam_mk {c P : Addr} {params : Arguments} {body : Expr} {scope : Scope} {pos : Pos} {E Q : Value → Shared → Prop} (I : Inv X pins σ H s) (TB : TabB X.base X.mg c P) (hcode : X.env.code = .ref c) (hT : TabS H P (X.env.qual ++ "<lambda>")) (hdef : defaultsOf params X.env = ([], []))
    (hfree : ∀ y ∈ scope.names, y.2 = .free → ∃ c, X.env.cells.lookup y.1 = some c) (h : ∀ f c' H1 s', Inv X pins σ H1 s' → ButP P H H1 → TabS H1 P (X.env.qual ++ "<lambda>") → LamAt X params body scope f c' H1 s' → Q (.ref f) s') :
    wpAny (model X.prog X.w) X.A (eval (.Lambda params body scope pos) X.env) Q E s := by
  obtain ⟨ps, hP, ht, ha⟩ := hT
  have bP := TB.bm.keeps I.bk
  have gP := I.hok P _ hP
  have out : ∀ f, s.heap.objs.size ≤ f → f ∉ frs X.stack := fun f hf m => (List.mem_cons.mp (I.stkSub _ m)).elim (fun e => absurd I.lt (Nat.not_lt.mpr (e ▸ hf))) (I.nofs hf)
  refine PySem.W.kla_eval hdef ?_
  cases hc : codeAmong pos ps.toList with
  | some cv =>
    obtain ⟨c', rfl, hco⟩ := ha pos cv hc
    refine PySem.W.kla_makeFunctionHit (mg := X.mg) (c := c) (P := P) (ps := ps) (closure_ok hfree) I.ok.glob (I.mod.glob.keeps I.bk) hcode (TB.code.keeps I.bk) gP ht hc bP fun ctv g tk hx hsz => ?_
    exact h _ c' H _ (I.kept fun b o e => Heap.get?_push_of_some _ (hx b o e)) (fun _ _ _ e => e) ⟨ps, hP, ht, ha⟩ ⟨⟨_, _, Heap.get?_push_size _ rfl⟩, I.hok.fresh hsz, out _ hsz, hco⟩
  | none =>
    refine PySem.W.kla_makeFunction (mg := X.mg) (c := c) (P := P) (ps := ps) (closure_ok hfree) I.ok.glob (I.mod.glob.keeps I.bk) hcode (TB.code.keeps I.bk) gP ht hc TB.gP bP fun c' ctv g tk hx hge hlt ⟨_, oc, vs, t, e2, hoc, hd, hv⟩ htb => ?_
    cases e2
    have nC : H c' = none := I.hok.fresh hge
    have hsz := Nat.le_trans hge (Nat.le_of_lt hlt)
    have nPc : P ≠ c' := fun z => by rw [← z, hP] at nC; cases nC
    have new : ButP P H (upd (upd H P (.tbl (ps ++ #[rawInt pos.line, rawInt pos.col, .ref c']))) c' (CodeO c' (X.env.qual ++ "<lambda>"))) := fun b o hb e => by
      rw [upd_ne (fun z => by rw [z, nC] at e; cases e), upd_ne hb]
      exact e
    have I1 := inv_table (t' := tk) (more := #[rawInt pos.line, rawInt pos.col, .ref c']) (h' := g.push (PySem.W.kla_obj "<lambda>" (X.env.qual ++ "<lambda>") params body scope (cloFrom X.env.cells scope.names []) ((X.mg "__name__").getD .none) c' ctv)) I hP
      (fun b o hb e => Heap.get?_push_of_some _ (hx b o hb e)) (Heap.get?_push_of_some _ htb) hge ⟨oc, vs, t, Heap.get?_push_of_some _ hoc, hd, hv⟩
    have el : (ps ++ #[rawInt pos.line, rawInt pos.col, .ref c']).toList = ps.toList ++ [rawInt pos.line, rawInt pos.col, .ref c'] := by simp
    refine h _ c' _ _ I1 new ⟨_, by rw [upd_ne nPc, upd_same], by rw [el]; exact PySem.TriplesOk_snoc _ _ _ _ ht, fun p' cv hcv => ?_⟩ ⟨⟨_, _, Heap.get?_push_size _ rfl⟩, ?_, out _ hsz, upd_same⟩
    · rw [el] at hcv
      rcases among_app _ ht hcv with z | z
      · obtain ⟨c0, e1, e2⟩ := ha p' cv z
        exact ⟨c0, e1, new _ _ (fun w => by rw [w, hP] at e2; exact codeO_ne _ (Option.some.inj e2).symm) e2⟩
      · exact ⟨c', z, upd_same⟩
    · rw [upd_ne (Nat.ne_of_gt hlt), upd_ne (Nat.ne_of_gt (Nat.lt_of_lt_of_le (Heap.lt_size gP) hsz))]
      exact I.hok.fresh hsz
end
/-- the context of a lambda's body; what it raises has no context of its own -/
abbrev lamCxN (X : Cx) (A : Around) (outer : List PySem.Env) (s : Shared) (H : Hp) (E : XK) (scope : Scope) (f c' : Addr) : Cx :=
  (lamCx X A outer s H E scope f c').wish fun e s' => wpAny (model X.prog X.w) (A.deeper (lamEnv X scope s.heap.objs.size f c')) (leaving (lamEnv X scope s.heap.objs.size f c') e) (fun _ s'' => L2N.CX X.prog X.w outer H s E e s'') (fun e' s'' => L2N.CX X.prog X.w outer H s E e' s'') s'
/-- the lambda is called, in a context Z that was entered at s: slot i of Z holds it -/
theorem pe_actN {X : Cx} {pins : List (Addr × Obj)} {σ : L2.St} {H : Hp} {s : Shared} {g f c' : Addr} {params : Arguments} {body : Expr} {scope sg : Scope} {qg : Str} {cdg : Value} {Ng : List Str} {k i : Nat} {a : Str} {CXg : CXT} {Eg : XK} {pn : List (Addr × Obj)} {xe : Value → Shared → Prop} {W : WX} {tb : XK → TE} {p1 p2 : Pos}
    (I : Inv X pins σ H s) (L : LamS X.env.scope scope) (lam : LamAt X params body scope f c' H s)
    (hbind : ∀ (q : Str) (cl : List (Str × Addr)) (pm cv ctv : Value), bindArgs (PySem.W.kla_fn "<lambda>" q params body scope cl pm cv ctv) ⟨[], []⟩ = pure []) (tk : L2N.Takes ((cxOf CXg X.prog X.w X.K X.mg X.base Ng qg sg g cdg X.A X.stack s H Eg).tr pn xe) W)
    (hr : Room (k + 1) (X.A.deeper (envOfC qg sg s.heap.objs.size g cdg))) (hbody : ∀ (A : Around) (outer : List PySem.Env) (s : Shared) (H : Hp) (E : XK), Room k (A.deeper (lamEnv X scope s.heap.objs.size f c')) → PE (lamCxN X A outer s H E scope f c') body (tb E))
    (hN : Ng[i]? = some a) (hv : Vis sg a) (hd : (a == ("__debug__" : Str)) = false := by decide) (hcd : (a == ("__classdict__" : Str)) = false := by decide) :
    PE ((cxOf CXg X.prog X.w X.K X.mg X.base Ng qg sg g cdg X.A X.stack s H Eg).tr pn xe) (.Call (.Name a p1) [] [] p2) (fun σZ HZ Q => σZ[i]? = some (some (.ref f)) ∧ HZ c' = some (CodeO c' (X.env.qual ++ "<lambda>")) ∧ tb (WE W σZ) σ HZ Q) := by
  refine ⟨fun pinsZ sZ σZ HZ Q IZ ⟨hs, hc, ht⟩ => ?_⟩
  obtain ⟨⟨pm, ctv, ho⟩, hfn, hfr, _⟩ := lam
  refine wpAny_Call_Name_kw (thn ((pe_var (pos := p1) (i := i) hN hv hd hcd).run pinsZ sZ σZ HZ (fun v H1 => v = .ref f ∧ H1 = HZ) IZ ⟨_, hs, rfl, rfl⟩) fun u s1 ⟨v, H1, I1, r1, e1, e2⟩ => ?_)
  subst e1 e2
  cases r1
  have of1 := I1.base.keep f _ ho hfn hfr (fun z => nomatch (show f ∈ ([] : List Addr) from z))
  refine PySem.W.callWith_F0 ⟨_, _, _, _, of1⟩ (wpAny_call ?_)
  have un : Un (frs X.stack) [] H H1 s.heap s1.heap := I1.base
  obtain ⟨⟨oc, vs, t, hoc, hdc, hvc⟩, _, _⟩ := I1.hok c' _ hc
  have run : codeAny (model X.prog X.w) (X.A.deeper (envOfC qg sg s.heap.objs.size g cdg)) (.call (.ref f) ⟨[], []⟩) (CR (L2N.CX X.prog X.w) (envOfC qg sg s.heap.objs.size g cdg :: X.stack) X.prog X.w H1 s1 Q (WE W σZ)) s1 := by
    refine PySem.W.kla_callFunE hr.depth of1 rfl L.co L.gen rfl ⟨c', oc, vs, t, rfl, hoc, hdc, hvc⟩ ?_
    rw [hbind]
    refine wpAny_pure (wpAny_newFunctionEnv (fun y hy => (L.own y hy).2) (fun y hy => absurd hy (by simp)) (fun h₁ hns hsb => ⟨I1.nolimit.fresh _ hsb, ?_⟩) L.kind)
    have kp : ∀ b o, s1.heap.get? b = some o → h₁.get? b = some o := fun b o e => hsb.extBut b o (Nat.ne_of_lt (Heap.lt_size e)) (Heap.get?_push_of_some _ e)
    have J := (lam_start2 (E := WE W σZ) (f := f) (c' := c') (tk := s1.toks + ([] : List (Str × Value)).length) I L I1.env0 hr.hd un hns kp).wish (fun e s' => wpAny (model X.prog X.w) ((X.A.deeper (envOfC qg sg s.heap.objs.size g cdg)).deeper (lamEnv X scope s1.heap.objs.size f c')) (leaving (lamEnv X scope s1.heap.objs.size f c') e) (fun _ s'' => L2N.CX X.prog X.w (envOfC qg sg s.heap.objs.size g cdg :: X.stack) H1 s1 (WE W σZ) e s'') (fun e' s'' => L2N.CX X.prog X.w (envOfC qg sg s.heap.objs.size g cdg :: X.stack) H1 s1 (WE W σZ) e' s'') s')
    refine PySem.W.kla_codeExpr (wpAny_mono ((hbody _ _ s1 H1 _ (hr.deeper _)).run [] _ _ H1 Q J ht) (fun v s' ⟨w', H', J', rv, q⟩ => ?_) fun e s' hq => hq)
    exact ⟨w', H', J'.os, J'.bare, J'.base, J'.hok, rv, q⟩
  refine codeAny_mono run fun r s' hq => ?_
  cases r with
  | error e => exact L2N.passAt tk σZ pinsZ H1 s1 e s' I1 hq
  | ok fl =>
    cases fl with
    | ret u => exact I1.after hq
    | next => exact False.elim hq
    | brk => exact False.elim hq
    | cont => exact False.elim hq
end DL
/-! DLwf: what a call returns, or its error: a lambda handed to the def that tries it. -/
namespace DL
open PySem PySem.Spec PyProof.Rows L2 HotX L2H LamX DLH

/-- the table at P has grown -/
theorem tab_step {z : Z} {η ι : List Addr} {m : Mem} {H H1 : Hp} {l n : Nat} {q : Str} (k : MOk z η ι m H) (hl : m[l]? = some (.tab n q)) (b : ButP (z.fa n) H H1) (t : TabS H1 (z.fa n) q) : Stp ι m H ι m H1 ∧ MOk z η ι m H1 := by
  have hlt : l < ι.length := by rw [k.len]; exact (List.getElem?_eq_some_iff.mp hl).1
  have hι : ι[l]? = some ι[l] := List.getElem?_eq_getElem hlt
  have ⟨ea, t0⟩ := k.obj l _ _ hl hι
  rw [ea] at hι t0
  have liveP : z.fa n ∈ liv ι m := liv_mem hι hl rfl
  have hidE : Ext (hid (η ++ liv ι m) H) (hid (η ++ liv ι m) H1) := fun c o e => by
    obtain ⟨n1, e1⟩ := hid_some.mp e
    exact hid_some.mpr ⟨n1, b c o (fun w => n1 (List.mem_append_right _ (w ▸ liveP))) e1⟩
  obtain ⟨ps, hP, _⟩ := t0
  refine ⟨⟨⟨[], by simp⟩, fun c o h e => ⟨b c o (fun w => h (w ▸ liveP)) e, h⟩⟩, k.len, k.nd, k.dj, fun a h => ?_, fun j o a h1 h2 => ?_⟩
  · by_cases w : a = z.fa n
    · rw [w]; exact let ⟨ps, e, _⟩ := t; ⟨_, e⟩
    · exact let ⟨o, e⟩ := k.ex a h; ⟨o, b a o w e⟩
  · have o1 := k.obj j o a h1 h2
    by_cases w : a = z.fa n
    · have jl : j = l := by
        rw [w] at h2
        obtain ⟨x1, x2⟩ := List.getElem?_eq_some_iff.mp h2
        obtain ⟨y1, y2⟩ := List.getElem?_eq_some_iff.mp hι
        exact (List.getElem_inj k.nd).mp (x2.trans y2.symm)
      rw [jl, hl] at h1
      cases h1
      exact ⟨w, w ▸ t⟩
    · cases o with
      | lst xs => exact let ⟨vs, e1, r⟩ := o1; ⟨vs, b a _ w e1, r.ext hidE⟩
      | ins c gs => exact let ⟨dx, fs, e1, r⟩ := o1; ⟨dx, fs, b a _ w e1, r.ext hidE⟩
      | dead => trivial
      | dct kvs => exact let ⟨xs, ep, e1, r⟩ := o1; ⟨xs, ep, b a _ w e1, r.ext hidE⟩
      | tab n2 q2 =>
        obtain ⟨e1, ps2, x1, x2, x3⟩ := o1
        refine ⟨e1, ps2, b a _ w x1, x2, fun pos cv hc => ?_⟩
        obtain ⟨d, y1, y2⟩ := x3 pos cv hc
        exact ⟨d, y1, b d _ (fun v => by rw [v, hP] at y2; exact codeO_ne _ (Option.some.inj y2).symm) y2⟩
theorem Gc.lam {z : Z} {W : XK} {X : Cx} (gc : Gc z W X) {k : Nat} {A : Around} {outer : List PySem.Env} {s : Shared} {H : Hp} {E : XK} {scope : Scope} {f c' : Addr} (hr : Room k (A.deeper (lamEnv X scope s.heap.objs.size f c'))) : Gc z E (lamCxN X A outer s H E scope f c') :=
  ⟨gc.hK, gc.pw, rfl, gc.nd, L2N.takes_of rfl rfl rfl rfl, passes_of rfl, by have := hr.un; show (A.deeper _).units + 200 < cLine; omega⟩
/-- an error's class as the tries ask it -/
structure ErrT (K : PySem.W.Frag) (er : Nat → Addr) (c : Nat) : Prop extends Err K er c where
  noText : PySem.W.exmOne K (.ref (er c)) (.ref (er 10)) = some false
  play : PySem.W.exmOne K (.ref (er c)) (.ref (er 12)) = some true
/-- told: the def's answer, or the names of the error's classes -/
def toldR (eb : Nat) (es : List Nat) : R Vl → R Vl
  | .ok (.d d) m1 => .ok (.d (.tup [.str "told", d])) m1
  | .er e m1 => if e.pl.isNone ∧ eb ≤ e.c ∧ (e.c - eb) ∈ es then .ok (.d (.tup [.str (kindOf (e.c - eb))])) m1 else .no
  | _ => .no
def sLam (l n : Nat) (q : Str) (eb : Nat) (es : List Nat) (s : Sem) : Sem := fun ρ m => match m[l]? with
  | some (.tab n' q') => if n' = n ∧ q' = q then toldR eb es (s ρ m) else .no
  | _ => .no

theorem sLam_inv {z : Z} {W : XK} {η ι : List Addr} {m : Mem} {H : Hp} {Q : List Addr → Mem → Hp → Vl → Prop} {l n eb : Nat} {q : Str} {es : List Nat} {s : Sem} {ρ : Env} (h : Post z W η ι m H Q (sLam l n q eb es s ρ m)) :
    m[l]? = some (.tab n q) ∧ Post z W η ι m H Q (toldR eb es (s ρ m)) := by
  unfold sLam at h
  split at h
  · rename_i n' q' hl
    split at h
    · rename_i hn
      obtain ⟨rfl, rfl⟩ := hn
      exact ⟨hl, h⟩
    · exact h.elim
  · exact h.elim
/-- the def _law_call's lines -/
abbrev tryBody (p0 p1 p2 p3 p4 p5 p6 p7 p8 p9 p10 p11 p12 p13 p14 p15 p16 p17 p18 p19 p20 p21 : Pos) (j1 j2 c1 c2 : Nat) (st1 : Stmt) (s1 : List Stmt) : List Stmt :=
  [.Assign [.Name "found" p0] (.Constant .none j1 p1) p2,
   .Try [.Assign [.Name "found" p3] (.Tuple [.Constant (.str "told") j2 p4, .Call (.Name "call_so" p5) [] [] p6] c1 p7) p8]
     [.ExceptHandler (some (.Name "InvalidText" p9)) (some "e") (st1 :: s1) p10,
      .ExceptHandler (some (.Name "PlayError" p11)) (some "e") [.Assign [.Name "found" p12] (.Tuple [.Call (.Name "_law_kinds" p13) [.Name "e" p14] [] p15] c2 p16) p17] p18] [] [] p19,
   .Return (some (.Name "found" p20)) p21]
structure TryScope (sc : Scope) : Prop where
  so : sc.names.lookup ("call_so" : Str) = some .local
  found : sc.names.lookup ("found" : Str) = some .local
  e : sc.names.lookup ("e" : Str) = some .local
  text : sc.names.lookup ("InvalidText" : Str) = some .globalImplicit
  kinds : sc.names.lookup ("_law_kinds" : Str) = some .globalImplicit
  play : sc.names.lookup ("PlayError" : Str) = some .globalImplicit
/-- the two defs as they stand behind the top, and what they can be told of -/
structure TryFns (P : Program) (w : World) (K : PySem.W.Frag) (mg : Str → Option Value) (base : Heap) (er : Nat → Addr) (es : List Nat) (st : Stmt) (g : Addr) (k : Nat) : Prop where
  call : FF K mg "_law_call" st ["call_so"] g
  nm : FnScope ["call_so", "found", "e"] ["call_so"] (defScope st)
  sc : TryScope (defScope st)
  kinds : ∃ fk fdk, Kinds P w K mg base er k fk fdk ∧ Binds K fdk ["e"] [] ∧ mg "_law_kinds" = some (.ref fk) ∧ PySem.W.keepIn K (.ref fk) = true
  text : mg "InvalidText" = some (.ref (er 10))
  play : mg "PlayError" = some (.ref (er 12))
  errs : ∀ c ∈ es, ErrT K er c
section
variable {X : Cx} {z : Z} {W : XK}
theorem c_lawcall {st st1 : Stmt} {s1 : List Stmt} {g c : Addr} {k l n eb : Nat} {es : List Nat} {params : Arguments} {body : Expr} {scope : Scope} {p lpos pos : Pos} {s : Sem} {p0 p1 p2 p3 p4 p5 p6 p7 p8 p9 p10 p11 p12 p13 p14 p15 p16 p17 p18 p19 p20 p21 : Pos} {j1 j2 c1 c2 : Nat}
    (T : TryFns X.prog X.w X.K X.mg X.base (fun j => z.fa (eb + j)) es st g k) (hst : defBody st = tryBody p0 p1 p2 p3 p4 p5 p6 p7 p8 p9 p10 p11 p12 p13 p14 p15 p16 p17 p18 p19 p20 p21 j1 j2 c1 c2 st1 s1) (gc : Gc z W X)
    (TB : TabB X.base X.mg c (z.fa n)) (hcode : X.env.code = .ref c) (hr : Room (k + 2) X.A) (L : LamS X.env.scope scope) (hdef : defaultsOf params X.env = ([], []))
    (hbind : ∀ (q : Str) (cl : List (Str × Addr)) (pm cv ctv : Value), bindArgs (PySem.W.kla_fn "<lambda>" q params body scope cl pm cv ctv) ⟨[], []⟩ = pure [])
    (hbody : ∀ (A : Around) (outer : List PySem.Env) (s' : Shared) (H : Hp) (E : XK) (f c' : Addr), Room k (lamCxN X A outer s' H E scope f c').A → Gc z E (lamCxN X A outer s' H E scope f c') → CE z E (lamCxN X A outer s' H E scope f c') body s)
    (hg : Gl X "_law_call" := by rfl) : CE z W X (.Call (.Name "_law_call" p) [.Lambda params body scope lpos] [] pos) (sLam l n (X.env.qual ++ "<lambda>") eb es s) := by
  refine ⟨fun pins sh σ H Q I ⟨η, ι, ρ, m, ok, h⟩ => ?_⟩
  obtain ⟨hl, h⟩ := sLam_inv h
  obtain ⟨⟨fd, F, hb⟩, hmg⟩ := T.call
  obtain ⟨oc, od, kV, doc, pm0, an, cdv, ct, osl, rfl, lk, hcd⟩ := F.ex
  have hlt : l < ι.length := by rw [ok.mem.len]; exact (List.getElem?_eq_some_iff.mp hl).1
  have ⟨ea, t0⟩ := ok.mem.obj l _ _ hl (List.getElem?_eq_getElem hlt)
  rw [ea] at t0
  refine wpAny_Call_Name_kw (ld_glob I hg hmg ?_ (by decide))
  refine PySem.W.callWith_K (h₀ := X.base) I.ok.mod.kin F.kp ?_ (by rfl) (by rfl)
  show wpAny _ _ (spliced ((false, eval (.Lambda params body scope lpos) X.env) :: backTo pos (starEach [] X.env))) _ _ sh
  refine Calls.spliced_cons (lam_mk I TB hcode t0 hdef (L.has I.ok) fun f c' H1 s' I1 bp t1 lam => Calls.spliced_nil ⟨I1.kIn, ?_⟩)
  obtain ⟨stT, kT⟩ := tab_step ok.mem hl bp t1
  have okT := ok.step stT kT
  have run : codeAny (model X.prog X.w) X.A (.call (.ref g) ⟨[.ref f], []⟩) (CR C8.CX0 X.stack X.prog X.w H1 s' Q C8.E0) s' := by
    refine run_ofS (k := k + 1) (N := ["call_so", "found", "e"]) (ps := ["call_so"]) (us := [.ref f]) (vs := [.ref f]) lk hcd T.nm hr I1.env0 (hb s' [.ref f] I1.kIn rfl) (.cons rfl .nil) rfl fun hr' => ?_
    rw [hst]
    obtain ⟨fk, fdk, FK, hbk, hmk, hkk⟩ := T.kinds
    let Z : Cx := cxOf C8.CX0 X.prog X.w X.K X.mg X.base ["call_so", "found", "e"] "_law_call" (defScope st) g cdv X.A X.stack s' H1 C8.E0
    have body_ : ∀ (W' : WX) (pn : List (Addr × Obj)) (xe : Value → Shared → Prop), L2N.Takes (Z.tr pn xe) W' → PassesOwn (model X.prog X.w) Z.A Z.env xe → PSs (Z.tr pn xe) [.Assign [.Name "found" p3] (.Tuple [.Constant (.str "told") j2 p4, .Call (.Name "call_so" p5) [] [] p6] c1 p7) p8]
        (tAsg (tTup (tCons (tC (.str "told")) (tCons (fun σZ HZ Q => σZ[0]? = some (some (.ref f)) ∧ HZ c' = some (CodeO c' (X.env.qual ++ "<lambda>")) ∧ tE z (WE W' σZ) s σ HZ Q) tNil))) (gName 1)) := fun W' pn xe tk _ =>
      pss_one (ps_set (i := 1) T.nm.nd rfl (.inl T.sc.found) (pe_tup (pa_cons pe_str (pa_cons (pe_actN (tb := fun E => tE z E s) I1 L lam hbind tk hr' (fun A outer s2 H2 E hr2 => hbody A outer s2 H2 E f c' hr2 (gc.lam hr2)) (i := 0) rfl (.inl T.sc.so)) pa_nil))) (hf := .inl rfl))
    have suite_ : ∀ (a : Addr) (oe : Obj) (cls : Value) (d : Option Addr) (pn : List (Addr × Obj)), L2N.Zn cls d oe → (∃ vs, oe.data = .fields vs) → PSs (Z.nox.suite a ((a, oe) :: pn)) [.Assign [.Name "found" p12] (.Tuple [.Call (.Name "_law_kinds" p13) [.Name "e" p14] [] p15] c2 p16) p17]
        (tAsg (tTup (tCons (fun σ H Q => σ[2]? = some (some (.ref a)) ∧ ∃ c, Err X.K (fun j => z.fa (eb + j)) c ∧ cls = .ref (z.fa (eb + c)) ∧ d = none ∧ ∀ H', Ext H H' → Q (.str (kindOf c)) H') tNil)) (gName 1)) := fun a oe cls d pn hz hv =>
      pss_one (ps_set (i := 1) T.nm.nd rfl (.inl T.sc.found) (pe_tup (pa_cons (pe_kinds (X := Z.nox) (i := 2) FK ((roomH_of hr').mono (Nat.le_succ _)) hbk hmk hkk hz hv rfl (.inl T.sc.e) T.sc.kinds) pa_nil)) (hf := .inl rfl))
    have tryS := ps_trySome (X := Z.nox) (pos := p19) (l := [(.ref (z.fa (eb + 10)), 2, fun _ _ _ => tNever), (.ref (z.fa (eb + 12)), 2, fun a cls d => tAsg (tTup (tCons (fun σ H Q => σ[2]? = some (some (.ref a)) ∧ ∃ c, Err X.K (fun j => z.fa (eb + j)) c ∧ cls = .ref (z.fa (eb + c)) ∧ d = none ∧ ∀ H', Ext H H' → Q (.str (kindOf c)) H') tNil)) (gName 1))])
      rfl rfl T.nm.nd body_ (.cons (np := p9) (pos' := p10) (st := st1) (suite := s1) ⟨T.sc.text, by decide, .inl T.text⟩ rfl T.sc.e (fun _ _ _ _ _ _ _ => pss_never) (.cons (np := p11) (pos' := p18) ⟨T.sc.play, by decide, .inl T.play⟩ rfl T.sc.e suite_ .nil))
    refine ⟨_, PSs.nox (pss_cons (ps_set (i := 1) T.nm.nd rfl (.inl T.sc.found) pe_non (hf := .inl rfl)) (pss_cons tryS (pss_one (ps_ret (pe_var (i := 1) rfl (.inl T.sc.found) (by decide) (by decide)))))), ?_⟩
    -- the reading
    refine ⟨rfl, lam.code, η, ι, ρ, m, okT, ?_⟩
    cases hs : s ρ m with
    | no => rw [hs] at h; exact h.elim
    | ok v m1 =>
      rw [hs] at h
      cases v with
      | p l => exact h.elim
      | d d =>
        intro H2 ι2 st2 k2 x rx
        refine ⟨by show 2 ≤ sizeLine; decide, fun a ha => ?_⟩
        obtain ⟨st3, k3⟩ := Stp.grow k2 (Ext.new (o := .tup [.str "told", x]) ha)
        exact ⟨.ref a, rfl, h _ ι2 ((stT.trans st2).trans st3) k3 _ (Rp.newT k2.hx ha (.cons (.str _) (.cons rx .nil)))⟩
    | er e m1 =>
      rw [hs] at h
      have h : Post z W η ι m H (fun ι' m' H' v => ∀ x, RV z ι' (hid (η ++ liv ι' m') H') x v → Q x H') (if e.pl.isNone ∧ eb ≤ e.c ∧ (e.c - eb) ∈ es then .ok (.d (.tup [.str (kindOf (e.c - eb))])) m1 else .no) := h
      split at h
      · rename_i hc
        obtain ⟨hp, h1, h2⟩ := hc
        have hT := T.errs _ h2
        have ec : eb + (e.c - eb) = e.c := by omega
        intro d H2 ι2 st2 k2 he
        have hd : d = none := by
          unfold EOk at he
          cases q : e.pl with
          | none => rw [q] at he; exact he
          | some y => rw [q] at hp; cases hp
        have no := hT.noText
        have yes := hT.play
        rw [ec] at no yes
        refine ⟨false, no, fun q => (by cases q), fun _ => ⟨true, yes, fun _ a na => ?_, fun q => (by cases q)⟩⟩
        refine ⟨rfl, e.c - eb, hT.toErr, by rw [ec], hd, fun H3 e3 => ⟨by show 1 ≤ sizeLine; decide, fun b hb => ?_⟩⟩
        obtain ⟨st3, k3⟩ := Stp.grow k2 e3
        obtain ⟨st4, k4⟩ := Stp.grow k3 (Ext.new (o := .tup [.str (kindOf (e.c - eb))]) hb)
        exact ⟨.ref b, rfl, h _ ι2 (((stT.trans st2).trans st3).trans st4) k4 _ (Rp.newT k3.hx hb (.cons (.str _) .nil))⟩
      · exact h.elim
  refine wpAny_call (codeAny_mono run fun r s2 hq => ?_)
  cases r with
  | error e => exact (show False from hq).elim
  | ok fl =>
    cases fl with
    | ret u => exact I1.after hq
    | next => exact False.elim hq
    | brk => exact False.elim hq
    | cont => exact False.elim hq
end
end DL
/-! DLwg: raise; calls of a local name; defs that hold lambdas; the top with their tables. -/
namespace DL
open PySem PySem.Spec PyProof.Rows L2 LamX

/-- the name of a lambda in the def x -/
abbrev lamQ (x : Str) : Str := x ++ ".<locals>." ++ "<lambda>"
/-- an error's class that may be raised -/
structure Rz (K : PySem.W.Frag) (mg : Str → Option Value) (x : Str) (C : Addr) : Prop where
  gC : mg x = some (.ref C)
  q : PySem.W.excIn K C [.type "ValueError", .type "Exception", .type "BaseException", .type "object"] "ValueError.__new__" = true
  kC : PySem.W.keepIn K (.ref C) = true
  bC : PySem.W.subIn K (.ref C) (.type "BaseException") = some true
  tC : PySem.W.typeIn K (.ref C) = some (.type "type")
def sRaise (c : Nat) : SemS := fun _ m => .er ⟨c, none⟩ m
section
variable {X : Cx} {z : Z} {W : XK} {e : Expr} {es : List Expr} {r : SemA} {pos : Pos}
theorem cs_raise {c : Nat} {x t : Str} {j : Nat} {p p2 p3 : Pos} (g : Gc z W X) (F : Rz z.K X.mg x (z.fa c)) (hg : Gl X x := by rfl) (hdb : (x == ("__debug__" : Str)) = false := by decide) :
    CS z W X (.Raise (some (.Call (.Name x p) [.Constant (.str t) j p2] [] p3)) none pos) (sRaise c) :=
  have F : Rz X.K X.mg x (z.fa c) := g.hK ▸ F
  ps_mono (L2N.ps_raise g.calm g.tk (L2N.pmk_own PySem.F.excBase_ValueError F.q F.gC F.kC (raises_own F.bC F.tC) hg hdb)) fun D σ H ⟨η, ι, ρ, m, ok, h⟩ => h none H ι Stp.refl ok.mem rfl
/-- defs by their numbers: how many arguments, what they do -/
abbrev Tab := List (Nat × Nat × Fn)
def tabAt (T : Tab) (n : Nat) : Option (Nat × Fn) := T.lookup n
/-- a call of a local name that holds one of some defs -/
def sCallL (i : Nat) (T : Tab) (r : SemA) : Sem := fun ρ m => match ρ[i]? with
  | some (some (.d (.fn n))) => (match tabAt T n with
    | some (ar, G) => sCall ar G r ρ m
    | none => .no)
  | _ => .no
structure Dn (P : Program) (w : World) (K : PySem.W.Frag) (mg : Str → Option Value) (base : Heap) (z : Z) (k n ar : Nat) (G : Fn) : Prop where
  ex : ∃ fd ps, FnOk P w K mg base (L2N.CX P w) k (z.fa n) fd ps (spG z ar G) ∧ Binds K fd ps []
  kp : PySem.W.keepIn K (.ref (z.fa n)) = true
theorem Df.dn {P : Program} {w : World} {K : PySem.W.Frag} {mg : Str → Option Value} {base : Heap} {z : Z} {n k ar : Nat} {x : Str} {G : Fn} (F : Df P w K mg base z n x k ar G) : Dn P w K mg base z k n ar G := ⟨F.ex, F.kp⟩
theorem c_callL {k k' : Nat} (i : Nat) {T : Tab} {x : Str} {p : Pos} (F : ∀ n ar G, tabAt T n = some (ar, G) → Dn X.prog X.w X.K X.mg X.base z k n ar G) (g : Gc z W X) (hr : Room k' X.A) (ha : CA z W X (e :: es) r) (hk : k ≤ k' := by decide)
    (hN : X.N[i]? = some x := by rfl) (hv : Vis X.env.scope x := by first | exact Or.inl rfl | exact Or.inr (Or.inl rfl) | exact Or.inr (Or.inr rfl)) (hdb : (x == ("__debug__" : Str)) = false := by decide) (hcd : (x == ("__classdict__" : Str)) = false := by decide)
    (he : starEach (e :: es) X.env = (false, eval e X.env) :: starEach es X.env := by rfl) (hpl : (backTo pos (starEach es X.env)).any (·.1) = false := by rfl) : CE z W X (.Call (.Name x p) (e :: es) [] pos) (sCallL i T r) := by
  refine ⟨fun pins s σ H Q I ⟨η, ι, ρ, m, ok, h⟩ => ?_⟩
  unfold sCallL at h
  split at h
  · rename_i n e1
    split at h
    · rename_i ar G e2
      obtain ⟨⟨fd, ps, F1, F2⟩, kp⟩ := F n ar G e2
      obtain ⟨x0, hx, rx⟩ := ok.slot i _ e1
      have ex : x0 = .ref (z.fa n) := by
        have rx : Rp z _ x0 (.fn n) := rx
        cases rx
        rfl
      rw [ex] at hx
      refine (pe_callL (i := i) (f := z.fa n) (sp := spG z ar G) (dvs := []) (E := W) F1 (hr.mono hk) hN hv kp F2 .nil (L2N.passes_call g.tk fun _ _ _ _ h => h) ha hdb hcd he hpl).run pins s σ H Q I ⟨hx, ?_⟩
      exact call_of ⟨η, ι, ρ, m, ok, h⟩
    · exact h.elim
  · exact h.elim
end
/-- the law's promise at the top, with the tables of the defs that hold lambdas -/
def spTopT (z : Z) (tabs : List (Nat × Str)) : L2.Sp := fun vs H Q _ => ∃ (a : Addr) (ns : List Int), vs = [.ref a] ∧ SqL z.K H a (ns.map V.int) ∧ ns.length ≤ 63 ∧ (∀ p ∈ tabs, H (z.fa p.1) = some (.tbl #[])) ∧ ∀ H', Q (.bl true) H'
theorem topT_of {z : Z} {tabs : List (Nat × Str)} {G : Fn} (nd : (tabs.map fun p => z.fa p.1).Nodup) (hG : ∀ ns : List Int, ns.length ≤ 63 → ∃ m, G [.d (.scr ns)] (tabs.map fun p => .tab p.1 p.2) = .ok (.d (.bl true)) m) : ∀ vs H Q E, spTopT z tabs vs H Q E → spG z 1 G vs H Q E := by
  rintro vs H Q E ⟨a, ns, rfl, hS, hl, hT, q⟩
  obtain ⟨m, e⟩ := hG ns hl
  have isT : ∀ b, b ∈ tabs.map (fun p => z.fa p.1) → H b = some (.tbl #[]) := fun b hb => by
    obtain ⟨p, hp, rfl⟩ := List.mem_map.mp hb
    exact hT p hp
  have at_ : ∀ (l : Nat) (o : O) (b : Addr), (tabs.map fun p => O.tab p.1 p.2)[l]? = some o → (tabs.map fun p => z.fa p.1)[l]? = some b → OOk z (hid ([] ++ liv (tabs.map fun p => z.fa p.1) (tabs.map fun p => O.tab p.1 p.2)) H) H b o := fun l o b h1 h2 => by
    rw [List.getElem?_map] at h1 h2
    obtain ⟨p, hp, rfl⟩ := Option.map_eq_some_iff.mp h1
    obtain ⟨p', hp', rfl⟩ := Option.map_eq_some_iff.mp h2
    rw [hp] at hp'
    cases hp'
    exact ⟨rfl, TabS.nil (hT p (List.mem_of_getElem? hp))⟩
  refine ⟨[], tabs.map fun p => z.fa p.1, tabs.map fun p => .tab p.1 p.2, [.d (.scr ns)], ⟨by simp, nd, fun _ _ h => by simp at h, fun b h => ?_, at_⟩, .cons (Rp.scr ?_) .nil, rfl, ?_⟩
  · rcases h with h | h
    · simp at h
    · exact ⟨_, isT b h⟩
  · rcases hS with (h | ⟨o, h⟩) | h
    · refine .inl (.inl (hid_some.mpr ⟨fun w => ?_, h⟩))
      rw [isT a (liv_sub (by simpa using w))] at h
      cases h
    · refine .inl (.inr ⟨o, hid_some.mpr ⟨fun w => ?_, h⟩⟩)
      rw [isT a (liv_sub (by simpa using w))] at h
      cases h
    · exact .inr h
  · rw [e]
    intro x H' ι' st k rx
    have rx : Rp z _ x (.bl true) := rx
    cases rx
    exact q H'
section
variable {P : Program} {w : World} {K : PySem.W.Frag} {mg : Str → Option Value} {base : Heap} {z : Z} {k : Nat}
theorem dn_nil : ∀ n ar G, tabAt [] n = some (ar, G) → Dn P w K mg base z k n ar G := fun n ar G h => by cases h
theorem dn_cons {T : Tab} {m a : Nat} {F : Fn} (h : Dn P w K mg base z k m a F) (r : ∀ n ar G, tabAt T n = some (ar, G) → Dn P w K mg base z k n ar G) : ∀ n ar G, tabAt ((m, a, F) :: T) n = some (ar, G) → Dn P w K mg base z k n ar G := fun n ar G e => by
  unfold tabAt at e r
  rw [List.lookup_cons] at e
  by_cases q : n = m
  · subst q
    rw [beq_self_eq_true] at e
    cases e
    exact h
  · rw [beq_eq_false_iff_ne.mpr q] at e
    exact r n ar G e
theorem tab_code {x : Str} {f c Pt : Addr} {oc : Value} {od : Option Addr} {fd : FuncData} {osl : Array (Option Value)} (h : PySem.W.tabIn K x = some (c, Pt)) (e : PySem.W.nsIn K mainGlobals x = some (some (.ref f))) (l : K.lookup f = some ⟨oc, od, .func fd, osl⟩) : fd.code = .ref c := by
  unfold PySem.W.tabIn at h
  rw [e] at h
  dsimp only at h
  rw [l] at h
  dsimp only at h
  split at h
  · rename_i c' hc
    split at h
    · split at h
      · cases h; exact hc
      · cases h
    · cases h
  · cases h
theorem Fun.code_of {x qual y : Str} {st : Stmt} {f c Pt : Addr} {fd : FuncData} (F : L2.Fun K x qual st f fd) (h : PySem.W.tabIn K y = some (c, Pt)) (e : PySem.W.nsIn K mainGlobals y = some (some (.ref f))) : fd.code = .ref c := by
  obtain ⟨oc, od, kV, doc, pm, an, cdv, ct, osl, rfl, lk, hcd⟩ := F.ex
  exact tab_code h e lk
/-- an error's class: its facts, gathered -/
theorem kit_own {C B : Addr} {b : Bool} (r : PySem.W.subIn K (.ref C) (.ref C) = some true) (s : PySem.W.subIn K (.ref C) (.ref B) = some b) (hd : PySem.W.hasDictIn K B = true) (ty : PySem.W.typeIn K (.ref B) = some (.type "type")) : PySem.W.kitOne K (.ref C) (.ref B) = some b := by
  unfold PySem.W.kitOne
  split
  · rename_i q
    have e : C = B := Value.ref.inj (beq_iff_eq.mp q)
    subst e
    exact r.symm.trans s
  · obtain ⟨cd, hc, _⟩ := PySem.W.any_some hd
    show (if ((PySem.W.clsIn K B).isSome && PySem.W.typeIn K (.ref B) == some (.type "type")) = true then PySem.W.subIn K (.ref C) (.ref B) else none) = some b
    rw [if_pos (by rw [hc, ty]; rfl)]
    exact s
theorem kit_val {C : Addr} (s : PySem.W.subIn K (.ref C) (.type "ValueError") = some true) : PySem.W.kitOne K (.ref C) (.type "ValueError") = some true := by
  have e : (Value.ref C == Value.type "ValueError") = false := rfl
  unfold PySem.W.kitOne
  rw [if_neg (by rw [e]; simp)]
  show (if PySem.W.kitMeta "ValueError" = true then PySem.W.subIn K (.ref C) (.type "ValueError") else none) = some true
  rw [if_pos (by decide +kernel)]
  exact s
/-- what all the classes say of themselves -/
structure ErrG (K : PySem.W.Frag) (er : Nat → Addr) : Prop where
  b : ∀ j, j < 13 → PySem.W.subIn K (.ref (er j)) (.type "BaseException") = some true
  d : ∀ j, j < 13 → PySem.W.hasDictIn K (er j) = true
  t : ∀ j, j < 13 → PySem.W.typeIn K (.ref (er j)) = some (.type "type")
  n : PySem.W.specialIn K (.builtin "object.__class__") "__get__" = some (some (.builtin "getset_descriptor.__get__"))
  k : PySem.W.takesIn K (.builtin "object.__class__") = some true
theorem errT_mk {er : Nat → Addr} (G : ErrG K er) {c : Nat} (lt : c < 12) (hg : PySem.W.findIn K (.ref (er c)) "__getattribute__" = some (some (.builtin "BaseException.__getattribute__"))) (hk : PySem.W.findIn K (.ref (er c)) "__getattr__" = some none)
    (ha : PySem.W.findIn K (.ref (er c)) "__class__" = some (some (.builtin "object.__class__"))) (hm : PySem.W.mroIn K (er c) (.type "object") = some true) (s : ∀ j, j < 13 → PySem.W.subIn K (.ref (er c)) (.ref (er j)) = some (decide (j = c) || decide (j = 12)))
    (v : PySem.W.subIn K (.ref (er c)) (.type "ValueError") = some true) (nt : c ≠ 10) : ErrT K er c := by
  have r : PySem.W.subIn K (.ref (er c)) (.ref (er c)) = some true := by rw [s c (by omega)]; simp
  refine ⟨⟨lt, ⟨hg, hk, G.b c (by omega), G.d c (by omega), ha, G.n, G.k, hm⟩, fun j hj => ?_, kit_val v⟩, ?_, ?_⟩
  · have e := s j (by omega)
    rw [decide_eq_false (show ¬ j = 12 by omega), Bool.or_false] at e
    exact kit_own r e (G.d j (by omega)) (G.t j (by omega))
  · refine PySem.W.exm_ref (G.b 10 (by decide)) (G.d 10 (by decide)) (G.t 10 (by decide)) ?_
    rw [s 10 (by decide)]
    simp [Ne.symm nt]
  · refine PySem.W.exm_ref (G.b 12 (by decide)) (G.d 12 (by decide)) (G.t 12 (by decide)) ?_
    rw [s 12 (by decide)]
    simp
end
end DL
/-! DLwh: what is never reached needs no meaning; the tables of the defs that hold lambdas. -/
namespace DL
open PySem PySem.Spec PyProof.Rows L2 DLH
def sNo : SemS := fun _ _ => .no
section
variable {z : Z} {W : XK} {X : Cx} {st : List Stmt}
theorem css_no : CSs z W X st sNo := ⟨fun pins s σ H D I ⟨η, ι, ρ, m, ok, q⟩ => q.elim⟩
end
section
variable {K : PySem.W.Frag} {h : Heap} {x y : Str} {L : List Addr} {c P c' P' : Addr}
/-- the table of a def: there, empty, not among what is written -/
def tbOk (K : PySem.W.Frag) (x : Str) (L : List Addr) : Bool := match PySem.W.tabIn K x with
  | some (c, P) => PySem.W.codeHdIn K c P && (K.lookup P).isNone && L.contains P
  | none => false
theorem tb_get (TY : ∀ P ∈ L, h.get? P = some (PySem.W.tabObj #[])) (e : tbOk K x L = true) : ∃ c P : Addr, PySem.W.tabIn K x = some (c, P) ∧ PySem.W.codeHdIn K c P = true ∧ K.lookup P = none ∧ h.get? P = some (PySem.W.tabObj #[]) := by
  unfold tbOk at e
  split at e
  · rename_i c P q
    simp only [Bool.and_eq_true] at e
    exact ⟨c, P, q, e.1.1, Option.isNone_iff_eq_none.mp e.1.2, TY P (List.contains_iff_mem.mp e.2)⟩
  · cases e
def tbNe (K : PySem.W.Frag) (x y : Str) : Bool := match PySem.W.tabIn K x, PySem.W.tabIn K y with
  | some (_, P), some (_, Q) => P != Q
  | _, _ => false
theorem tb_ne (e : tbNe K x y = true) (h1 : PySem.W.tabIn K x = some (c, P)) (h2 : PySem.W.tabIn K y = some (c', P')) : P ≠ P' := by
  unfold tbNe at e
  rw [h1, h2] at e
  exact fun q => by subst q; simp at e
end
end DL
/-! DLx: rules of ends for errors and local calls. -/
namespace DL
open PySem PySem.Spec PyProof.Rows L2 DLH
section
variable {ρ : Env} {m m1 : Mem} {d : D} {i l n c eb ar : Nat} {q : Str} {es : List Nat} {s : Sem} {r : SemA} {T : Tab} {G : Fn} {Q : Vl → Mem → Prop}
@[simp] theorem w_CallL : (sCallL i T r ρ m).wp Q = match ρ[i]? with
    | some (some (.d (.fn n))) => (match tabAt T n with
      | some (ar, G) => (r ρ m).wp (kCall ar G Q)
      | none => False)
    | _ => False := by
  unfold sCallL
  cases ρ[i]? with
  | none => rfl
  | some o =>
    cases o with
    | none => rfl
    | some v =>
      cases v with
      | p l => rfl
      | d d =>
        cases d with
        | fn n =>
          dsimp only
          cases tabAt T n with
          | none => rfl
          | some p => exact w_Call
        | _ => rfl
theorem lam_er (hm : m[l]? = some (.tab n q)) (h : s ρ m = .er ⟨eb + c, none⟩ m1) (hc : c ∈ es) : sLam l n q eb es s ρ m = .ok (.d (.tup [.str (kindOf c)])) m1 := by
  unfold sLam
  rw [hm]
  show (if n = n ∧ q = q then toldR eb es (s ρ m) else .no) = _
  rw [if_pos ⟨rfl, rfl⟩, h]
  show (if (Option.none : Option D).isNone = true ∧ eb ≤ eb + c ∧ (eb + c - eb) ∈ es then R.ok (Vl.d (.tup [.str (kindOf (eb + c - eb))])) m1 else .no) = _
  rw [Nat.add_sub_cancel_left, if_pos ⟨rfl, Nat.le_add_right _ _, hc⟩]
theorem lam_ok (hm : m[l]? = some (.tab n q)) (h : s ρ m = .ok (.d d) m1) : sLam l n q eb es s ρ m = .ok (.d (.tup [.str "told", d])) m1 := by
  unfold sLam
  rw [hm]
  show (if n = n ∧ q = q then toldR eb es (s ρ m) else .no) = _
  rw [if_pos ⟨rfl, rfl⟩, h]
  rfl
/-- the kinds of errors, compared with what is due -/
@[simp] theorem ne_kind {x y : Str} : neD (.tup [.str x]) (.tup [.str y]) = some (.bl (!decide (x = y))) := by
  have h : eqq (.tup [.str x]) (.tup [.str y]) = decide (x = y) := by
    simp [eqq, pyD, pyDs, PyData.eqv, PyData.eqvAll]
    try rfl
  have h1 : plD (.tup [.str x]) = true := rfl
  have h2 : plD (.tup [.str y]) = true := rfl
  have h3 : dpD (.tup [.str x]) = 1 := rfl
  unfold neD
  rw [h, h1, h2, h3, if_pos (by simp; omega)]
end
/-- an error goes through a def -/
theorem run_er {b : Bool} {n : Nat} {s : SemS} {args : List Vl} {m : Mem} {e : Exn} (h : s (args.map some ++ List.replicate (n - args.length) none) m = .er e m) : runDef b n s args m = .er e m := by
  unfold runDef
  rw [h]
  simp
end DL
/-! DLy: row[::-1] of a tuple. -/
namespace HT
open PySem PySem.Spec PyProof.Rows
section
variable {prog : Program} {w : World} {A : Around} {E : Value → Shared → Prop} {s : Shared}
theorem adjust_rev (n : Nat) : Builtin.Slice.sliceAdjust none none (-1) (n : Int) = ((n : Int) - 1, -1) := by
  unfold Builtin.Slice.sliceAdjust
  simp
theorem places_rev (n : Nat) : Builtin.Slice.slicePlaces ((n : Int) - 1) (-1) (-1) = n := by
  unfold Builtin.Slice.slicePlaces
  rw [if_neg (by omega)]
  split
  · rw [show -(-1 : Int) = 1 by omega, Int.ediv_one]; omega
  · omega
theorem sliceApplied_rev {sl : Addr} {vl vu vs : Value} {n : Nat} {Q : Int × Int × Nat → Shared → Prop} (hs : s.heap.IsSliceOf sl vl vu vs) (pl : IsPart vl none) (pu : IsPart vu none) (ps : IsPart vs (some (-1)))
    (h : Q ((n : Int) - 1, -1, n) s) : wpAny (model prog w) A (Builtin.Slice.sliceApplied (.ref sl) (pure (n : Int))) Q E s := by
  obtain ⟨os, hos, hcs, hds⟩ := id hs
  unfold Builtin.Slice.sliceApplied Builtin.Slice.sliceFields
  refine wpAny_bind (wpAny_bind (wpAny_field hos hds (x := vl) rfl (wpAny_bind (wpAny_field hos hds (x := vu) rfl (wpAny_bind (wpAny_field hos hds (x := vs) rfl (wpAny_pure ?_)))))))
  refine wpAny_bind (slicePart_ ps ?_)
  show wpAny _ _ (if ((-1 : Int) == 0) = true then _ else _) _ _ s
  rw [if_neg (by decide)]
  refine wpAny_bind (slicePart_ pl (wpAny_bind (slicePart_ pu (wpAny_bind (wpAny_pure ?_)))))
  show wpAny _ _ (match Builtin.Slice.sliceAdjust none none (-1) (n : Int) with | (lo, hi) => pure (lo, (-1 : Int), Builtin.Slice.slicePlaces lo hi (-1))) _ _ s
  rw [adjust_rev n]
  show wpAny _ _ (pure ((n : Int) - 1, (-1 : Int), Builtin.Slice.slicePlaces ((n : Int) - 1) (-1) (-1))) _ _ s
  rw [places_rev]
  exact wpAny_pure h
theorem fm_congr {α β : Type} {f g : α → Option β} : ∀ {l : List α}, (∀ x ∈ l, f x = g x) → l.filterMap f = l.filterMap g
  | [], _ => rfl
  | a :: l, h => by
    rw [List.filterMap_cons, List.filterMap_cons, h a (by simp), fm_congr (l := l) fun x hx => h x (by simp [hx])]
theorem pick_rev (xs : Array Value) : ((List.range xs.size).filterMap fun (m : Nat) => xs[((xs.size : Int) - 1 + (m : Int) * (-1)).toNat]?).toArray = xs.toList.reverse.toArray := by
  have e : (List.range xs.size).filterMap (fun (m : Nat) => xs[((xs.size : Int) - 1 + (m : Int) * (-1)).toNat]?) = ((List.range xs.size).map fun k => xs.size - 1 - k).filterMap (xs[·]?) := by
    rw [List.filterMap_map]
    refine fm_congr fun m hm => ?_
    have := List.mem_range.mp hm
    show xs[((xs.size : Int) - 1 + (m : Int) * (-1)).toNat]? = xs[xs.size - 1 - m]?
    congr 1; omega
  rw [e, PySem.W.krv_range, List.filterMap_reverse, PySem.W.krv_all]
theorem getItem_tuple_rev {t sl : Addr} {items : Array Value} {vl vu vs : Value} {Q : Value → Shared → Prop} (ht : IsTup s.heap t items) (hs : s.heap.IsSliceOf sl vl vu vs) (pl : IsPart vl none) (pu : IsPart vu none) (ps : IsPart vs (some (-1)))
    (h : Q (.ref s.heap.objs.size) { s with heap := s.heap.push { cls := .type "tuple", data := .seq items.toList.reverse.toArray } })
    (hsz : items.size ≤ sizeLine) : wpAny (model prog w) A (getItem (.ref t) (.ref sl)) Q E s := by
  have htake : sizeOk (.seq items.toList.reverse.toArray) := by
    show items.toList.reverse.toArray.size ≤ sizeLine
    simpa using hsz
  obtain ⟨os, hos, hcs, hds⟩ := id hs
  have hTs : s.TypeIs (.ref sl) "slice" := ⟨os, hos, hcs⟩
  unfold getItem
  try with_reducible refine wpAny_holding ?_
  first | refine wpAny_bind (wpAny_pure ?_) | skip
  refine wpAny_bind (wpAny_sequenceKey ht.typeIs (by decide) ?_)
  refine wpAny_bind (wpAny_callSpecial?_slot (name := Str.ofString "__getitem__") ht.typeIs PyProof.Rows.slot_tuple_getitem
    (wpAny_call_entry PyProof.Rows.slot_tuple_getitem ht.typeIs entry_tuple_getitem ?_ (args_tuple_getitem _ _)))
  show wpAny _ _ (Builtin.Tuple.tupleItemsOf (.ref t) >>= _) _ _ s
  refine wpAny_bind (tupleItemsOf_ ht ?_)
  refine wpAny_bind (wpAny_typeOf hTs ?_)
  rw [if_pos (by decide)]
  refine wpAny_bind (sliceApplied_rev hs pl pu ps ?_)
  have hno : ¬ ((((items.size : Int) - 1) == 0 && (-1 : Int) == 1 && items.size == items.size) = true) := by
    intro q
    rw [Bool.and_eq_true, Bool.and_eq_true] at q
    exact absurd q.1.2 (by decide)
  show wpAny _ _ (if (((items.size : Int) - 1) == 0 && (-1 : Int) == 1 && items.size == items.size) = true then _ else _) _ _ s
  rw [if_neg hno, pick_rev]
  first
    | exact wpAny_bind (m := Builtin.Tuple.tupleExact _) (wpAny_newObj_type (wpAny_pure ⟨_, rfl, wpAny_pure h⟩) htake)
    | exact wpAny_bind (m := Builtin.Tuple.tupleExact _) (wpAny_newObj_type (wpAny_bind (wpAny_pure (wpAny_pure ⟨_, rfl, wpAny_pure h⟩))) htake)
    | exact wpAny_bind (wpAny_bind (m := Builtin.Tuple.tupleExact _) (wpAny_newObj_type (wpAny_pure (wpAny_pure ⟨_, rfl, wpAny_pure h⟩)) htake))
    | exact wpAny_bind (wpAny_bind (m := Builtin.Tuple.tupleExact _) (wpAny_newObj_type (wpAny_pure ⟨_, rfl, wpAny_pure h⟩) htake))
end
end HT
namespace L2
open PySem PySem.Spec PyProof.Rows
variable {X : Cx}
def tRevT (K : PySem.W.Frag) (te : TE) : TE := fun σ H Q => te σ H fun x H1 => ∃ a xs, x = .ref a ∧ SqT K H1 a xs ∧ ∀ p, H1 p = none → Q (.ref p) (upd H1 p (.tup xs.reverse))
theorem pe_revT {e : Expr} {te : TE} {k : Nat} {p1 p2 p3 pos : Pos} (he : PE X e te) : PE X (.Subscript e (.Slice none none (some (.UnaryOp .USub (.Constant (.int 1) k p1) p2)) p3) pos) (tRevT X.K te) := by
  refine ⟨fun pins s σ H Q I h => ?_⟩
  refine Subscript_ (thn (he.run pins s σ H _ I h) fun v s1 ⟨x, H1, I1, r1, q1⟩ => ?_)
  obtain ⟨a, xs, ex, hx, q⟩ := q1
  subst ex
  cases r1
  have hst : PO X (some (.UnaryOp .USub (.Constant (.int 1) k p1) p2)) (tPart (tUn (rU fun i => .int (-i)) (tC (.int 1)))) := po_some (pe_un un_neg pe_int)
  refine wpAny_Slice (thn (po_none.run pins s1 σ H1 (fun o H2 => o = none ∧ H2 = H1) I1 ⟨rfl, rfl⟩) fun vl s2 ⟨l, H2, I2, pl, el, e2⟩ => ?_)
  subst el e2
  refine thn (po_none.run pins s2 σ H2 (fun o H3 => o = none ∧ H3 = H2) I2 ⟨rfl, rfl⟩) fun vu s3 ⟨u, H3, I3, pu, eu, e3⟩ => ?_
  subst eu e3
  refine thn (hst.run pins s3 σ H3 (fun o H4 => o = some (-1) ∧ H4 = H3) I3 ⟨1, rfl, -1, rfl, rfl, rfl⟩) fun vs s4 ⟨o, H4, I4, ps, eo, e4⟩ => ?_
  subst eo e4
  have I5 : Inv X pins σ H4 { s4 with heap := s4.heap.push { cls := .type "slice", data := .fields #[vl, vu, vs] } } := I4.kept (t' := s4.toks) fun b ob q => Heap.get?_push_of_some _ q
  obtain ⟨its, r, ht, hz⟩ := I5.tuple hx
  have hlen := r.length
  show wpAny (model X.prog X.w) X.A (subscriptTail e (.Slice none none (some (.UnaryOp .USub (.Constant (.int 1) k p1) p2)) p3) (.ref a) (.ref s4.heap.objs.size)) (EP X pins σ Q) X.xe { s4 with heap := s4.heap.push { cls := .type "slice", data := .fields #[vl, vu, vs] } }
  refine tail_any (ops := [.ref a, .ref s4.heap.objs.size]) ht.typeIs (PyProof.Rows.slot_tuple_getitem.lookup) ?_ (by with_unfolding_all rfl)
  refine HT.getItem_tuple_rev ht (Heap.IsSliceOf.new _ vl vu vs) pl pu ps ?_ (by rw [List.size_toArray]; omega)
  refine ⟨.ref _, _, I5.laid (t' := s4.toks) (o := .tup xs.reverse) (fun b ob q => Heap.get?_push_of_some _ q) (Nat.le_refl _) ?_, rfl, q _ (I5.hok.fresh (Nat.le_refl _))⟩
  exact ⟨by rw [List.length_reverse]; exact hz, _, r.reverse, IsTup.new _ _⟩
end L2
namespace DL
open PySem PySem.Spec PyProof.Rows L2 DLH
variable {z : Z} {W : XK} {X : Cx} {e : Expr} {s : Sem} {pos : Pos}
/-- xs[::-1] of a tuple -/
def revTD : D → Option D
  | .tup xs => some (.tup xs.reverse)
  | _ => none
theorem c_revT {k : Nat} {p1 p2 p3 : Pos} (hK : X.K = z.K) (ha : CE z W X e s) : CE z W X (.Subscript e (.Slice none none (some (.UnaryOp .USub (.Constant (.int 1) k p1) p2)) p3) pos) (sUn revTD s) :=
  pe_mono (pe_revT ha) fun σ H Q ⟨η, ι, ρ, m, ok, h⟩ => by
    refine ⟨η, ι, ρ, m, ok, Post.mono (fun ι1 m1 H1 v st1 k1 h1 x rx => ?_) (Post.bind h)⟩
    split at h1
    · rename_i d ed
      cases q : revTD d with
      | none => rw [q] at h1; exact h1.elim
      | some w =>
        rw [q] at h1
        have hq := rq_of k1 rx ed
        unfold revTD at q
        split at q
        · cases q
          cases hq with | tup h2 r2 =>
          refine ⟨_, _, rfl, by rw [hK]; exact ext_sqT hid_ext h2, fun p hp => ?_⟩
          obtain ⟨st4, k4⟩ := Stp.grow k1 (Ext.new hp)
          exact h1 _ ι1 st4 k4 _ (Rp.newT k1.hx hp r2.reverse)
        · cases q
    · exact h1.elim
/-- a truth that is True, or False -/
def isBD : D → D → Option D
  | .bl a, .bl b => some (.bl (a == b))
  | _, _ => none
theorem og_isB : OpR X (compareOp .Is) (rG z isBD) := by
  rintro pins s σ H x y v u Q I rx ry ⟨L, d, e, w, hL, hd, he, hg, q⟩
  unfold isBD at hg
  split at hg
  · cases hd
    cases he
    cases hg
    cases rx
    cases ry
    exact is_bool (fin_bl I (q _ _ (Ext.refl _) (.bl _)) rfl)
  · cases hg
end DL
/-! DLz: the facts of a head by one kernel run. -/
namespace DL
open PySem PySem.Spec PyProof.Rows L2
section
variable {K : PySem.W.Frag} {x : Str} {i : Int} {a b c d : Str}
theorem all_get {l : List Bool} (h : l.all id = true) (i : Nat) {b : Bool} (e : l[i]? = some b) : b = true := List.all_eq_true.mp h b (List.mem_of_getElem? e)
def intB (K : PySem.W.Frag) (x : Str) (i : Int) : Bool := match PySem.W.nsIn K mainGlobals x with
  | some (some (.int j _)) => decide (j = i)
  | _ => false
theorem int_get (h : intB K x i = true) : ∃ t, PySem.W.nsIn K mainGlobals x = some (some (.int i t)) := by
  unfold intB at h
  split at h
  · rename_i j t e
    exact ⟨t, by rw [e, of_decide_eq_true h]⟩
  · cases h
def isStr : Value → Str → Bool
  | .str y _, x => decide (y = x)
  | _, _ => false
theorem isStr_get {v : Value} (h : isStr v x = true) : ∃ t, v = .str x t := by
  unfold isStr at h
  split at h
  · rename_i y x' t
    exact ⟨t, by rw [of_decide_eq_true h]⟩
  · cases h
def wordsB (K : PySem.W.Frag) (x : Str) (ws : List Str) : Bool := match PySem.W.nsIn K mainGlobals x with
  | some (some (.ref r)) => (match K.lookup r with
    | some ⟨.type T, _, .seq its _, _⟩ => decide (T = "tuple") && (decide (its.toList.length = ws.length) && (its.toList.zip ws).all fun p => isStr p.1 p.2)
    | _ => false)
  | _ => false
theorem words_get {ws : List Str} (h : wordsB K x ws = true) : ∃ (r : Addr) (od : Option Addr) (n : Nat) (sl : Array (Option Value)) (vs : List Value), PySem.W.nsIn K mainGlobals x = some (some (.ref r)) ∧ K.lookup r = some ⟨.type "tuple", od, .seq vs.toArray n, sl⟩ ∧ vs.length = ws.length ∧ (vs.zip ws).all (fun p => isStr p.1 p.2) = true := by
  unfold wordsB at h
  split at h
  · rename_i r e
    split at h
    · rename_i T od its n sl e2
      simp only [Bool.and_eq_true, decide_eq_true_eq] at h
      refine ⟨r, od, n, sl, its.toList, e, ?_, h.2.1, h.2.2⟩
      rw [e2, h.1]
    · cases h
  · cases h
theorem words3 (h : wordsB K x [a, b, c] = true) : ∃ (r : Addr) (od : Option Addr) (n : Nat) (sl : Array (Option Value)) (t0 t1 t2 : Tok), PySem.W.nsIn K mainGlobals x = some (some (.ref r)) ∧ K.lookup r = some ⟨.type "tuple", od, .seq #[.str a t0, .str b t1, .str c t2] n, sl⟩ := by
  obtain ⟨r, od, n, sl, vs, e, e2, hl, hz⟩ := words_get h
  match vs, hl, hz with
  | [u, v, w], _, hz =>
    simp only [List.zip_cons_cons, List.zip_nil_right, List.all_cons, List.all_nil, Bool.and_true, Bool.and_eq_true] at hz
    obtain ⟨t0, rfl⟩ := isStr_get hz.1
    obtain ⟨t1, rfl⟩ := isStr_get hz.2.1
    obtain ⟨t2, rfl⟩ := isStr_get hz.2.2
    exact ⟨r, od, n, sl, t0, t1, t2, e, e2⟩
end
end DL
/-! DLwi: dicts of one's own. -/
namespace L2
open PySem PySem.Spec PyProof.Rows
mutual
theorem NkIs.ext {K : PySem.W.Frag} {H H' : Hp} (e : ∀ b o, H b = some o → H' b = some o) : ∀ {v : V} {k : NestedKey}, NkIs K H v k → NkIs K H' v k
  | _, _, .non => .non
  | _, _, .bl b => .bl b
  | _, _, .int i => .int i
  | _, _, .str x => .str x
  | _, _, .tup h hs => .tup (by
      rcases h with (h | ⟨o, h⟩) | h
      · exact .inl (.inl (e _ _ h))
      · exact .inl (.inr ⟨o, e _ _ h⟩)
      · exact .inr h) (NkAll.ext e hs)
theorem NkAll.ext {K : PySem.W.Frag} {H H' : Hp} (e : ∀ b o, H b = some o → H' b = some o) : ∀ {vs : List V} {ks : List NestedKey}, NkAll K H vs ks → NkAll K H' vs ks
  | _, _, .nil => .nil
  | _, _, .cons h r => .cons (NkIs.ext e h) (NkAll.ext e r)
end
end L2
namespace DL
open PySem PySem.Spec PyProof.Rows L2 DLH
section
variable {z : Z} {Hh H : Hp}
theorem NdR.keys : ∀ {xs : NEs} {kvs : List (D × D)}, NdR z Hh xs kvs → (∀ b o, Hh b = some o → H b = some o) → KeysAt z.K H xs
  | _, _, .nil, _ => fun x hx => by cases hx
  | _, _, .cons h r, e => fun x hx => by
    rcases List.mem_cons.mp hx with rfl | hx
    · exact ⟨(h.rk.nk h.key).ext e, h.deep⟩
    · exact NdR.keys r e x hx
theorem NdR.length : ∀ {xs : NEs} {kvs : List (D × D)}, NdR z Hh xs kvs → xs.length = kvs.length
  | _, _, .nil => rfl
  | _, _, .cons _ r => by simp [NdR.length r]
theorem NdR.snoc : ∀ {xs : NEs} {kvs : List (D × D)} {x : NestedKey × Addr × Value} {p : D × D}, NdR z Hh xs kvs → NdE z Hh x p → NdR z Hh (xs ++ [x]) (kvs ++ [p])
  | _, _, _, _, .nil, h => .cons h .nil
  | _, _, _, _, .cons q r, h => .cons q (NdR.snoc r h)
def atKV (kvs : List (D × D)) (k : NestedKey) : Option D := (kvs.find? fun p => decide (keyD p.1 = some k)).map (·.2)
def putKV (kvs : List (D × D)) (k : NestedKey) (kd d : D) : List (D × D) := match atKV kvs k with
  | some _ => kvs.map fun p => if keyD p.1 = some k then (p.1, d) else p
  | none => kvs ++ [(kd, d)]
theorem NdR.at : ∀ {xs : NEs} {kvs : List (D × D)} (k : NestedKey), NdR z Hh xs kvs → match atKey xs k, atKV kvs k with
    | some p, some d => ∃ v, RelV v p.2 ∧ Rp z Hh v d
    | none, none => True
    | _, _ => False
  | _, _, k, .nil => by simp [atKey, atKV]
  | x :: xs, p :: kvs, k, .cons h r => by
    have ih := NdR.at k r
    by_cases e : x.1 = k
    · have e1 : atKey (x :: xs) k = some x.2 := by simp [atKey, e]
      have e2 : atKV (p :: kvs) k = some p.2 := by simp [atKV, h.key, e]
      rw [e1, e2]
      exact h.val
    · have e1 : atKey (x :: xs) k = atKey xs k := by simp [atKey, e]
      have e2 : atKV (p :: kvs) k = atKV kvs k := by simp [atKV, h.key, e]
      rw [e1, e2]
      exact ih
theorem NdR.repl {k : NestedKey} {v : V} {r : Value} {d : D} (rv : RelV v r) (rp : Rp z Hh v d) : ∀ {xs : NEs} {kvs : List (D × D)}, NdR z Hh xs kvs → NdR z Hh (xs.map (putAt k r)) (kvs.map fun p => if keyD p.1 = some k then (p.1, d) else p)
  | _, _, .nil => .nil
  | x :: xs, p :: kvs, .cons h q => by
    refine .cons ?_ (NdR.repl rv rp q)
    unfold putAt
    dsimp only
    by_cases e : x.1 = k
    · rw [if_pos e, if_pos (by rw [h.key, e])]
      exact ⟨h.rk, h.key, h.deep, v, rv, rp⟩
    · rw [if_neg e, if_neg (by rw [h.key]; simp [e])]
      exact h
theorem NdR.put {k : NestedKey} {b : Addr} {v : V} {r : Value} {kd d : D} (rk : Rp z Hh (.ref b) kd) (hk : keyD kd = some k) (hd : k.depth ≤ 8) (rv : RelV v r) (rp : Rp z Hh v d) {xs : NEs} {kvs : List (D × D)} (h : NdR z Hh xs kvs) : NdR z Hh (storedH xs k b r) (putKV kvs k kd d) := by
  have q := h.at k
  unfold putKV
  cases e1 : atKey xs k with
  | none =>
    rw [storedH_new e1]
    cases e2 : atKV kvs k with
    | none => exact h.snoc ⟨rk, hk, hd, v, rv, rp⟩
    | some d' => rw [e1, e2] at q; exact q.elim
  | some p =>
    rw [storedH_old e1]
    cases e2 : atKV kvs k with
    | none => rw [e1, e2] at q; exact q.elim
    | some d' => exact h.repl rv rp
end
section
variable {z : Z} {W : XK} {X : Cx} {e b : Expr} {se si so : Sem} {pos xp spos : Pos}
/-- {} of one's own -/
def sDctO : Sem := fun _ m => .ok (.p m.length) (m ++ [.dct []])
theorem c_dctO (g : Gc z W X) : CE z W X (.Dict [] [] pos) sDctO :=
  pe_mono pe_ndnew fun σ H Q ⟨η, ι, ρ, m, ok, h⟩ => fun p hp => by
    obtain ⟨st, k2⟩ := ok.mem.alloc (ho := ndO X.prog X.w p [] 0) (o := .dct []) hp rfl ⟨[], 0, by rw [upd_same, g.pw.1, g.pw.2], .nil⟩
    exact h _ _ st k2 (.ref p) ⟨p, by rw [← ok.mem.len, List.getElem?_append_right (Nat.le_refl _)]; simp, rfl⟩
/-- d[k] = v -/
def putR (l : Nat) (ρ : Env) (v w : Vl) (m : Mem) : R Ct := match v, w, m[l]? with
  | .d d, .d (.tup ks), some (.dct kvs) => (match keyD (.tup ks) with
    | some k => if kvs.length < sizeLine ∧ k.depth ≤ 8 then .ok (.nx ρ) (m.set l (.dct (putKV kvs k (.tup ks) d))) else .no
    | none => .no)
  | _, _, _ => .no
def sDPut (i : Nat) (si se : Sem) : SemS := fun ρ m => match ρ[i]? with
  | some (some (.p l)) => (se ρ m).bind fun v m1 => (si ρ m1).bind fun w m2 => putR l ρ v w m2
  | _ => .no
theorem cs_dput (i : Nat) {x : Str} (g : Gc z W X) (he : CE z W X e se) (hi : CE z W X b si) (hN : X.N[i]? = some x := by rfl) (hv : Vis X.env.scope x := by first | exact Or.inl rfl | exact Or.inr (Or.inl rfl) | exact Or.inr (Or.inr rfl)) (hd : (x == ("__debug__" : Str)) = false := by decide)
    (hcd : (x == ("__classdict__" : Str)) = false := by decide) (hs : swapsWith e (some (.Subscript (.Name x xp) b spos)) pos.line X.env = pure false := by rfl) : CS z W X (.Assign [.Subscript (.Name x xp) b spos] e pos) (sDPut i si se) :=
  ps_mono (ps_ndput (by have := g.hu; omega) (pe_var (i := i) hN hv hd hcd) hi he hs) fun D σ H ⟨η, ι, ρ, m, ok, h⟩ => by
    unfold sDPut at h
    split at h
    · rename_i l hl
      refine ⟨η, ι, ρ, m, ok, Post.mono (fun ι1 m1 H1 v st1 k1 h1 x rx => ?_) (Post.bind h)⟩
      obtain ⟨x', q1, a, q2, rfl⟩ := ok.slot i _ hl
      refine ⟨_, q1, η, ι1, ρ, m1, ok.step st1 k1, Post.mono (fun ι2 m2 H2 w st2 k2 h2 y ry => ?_) (Post.bind h1)⟩
      unfold putR at h2
      split at h2
      · rename_i d ks kvs hm2
        split at h2
        · rename_i k hk
          split at h2
          · rename_i hlen
            have q3 := st2.get (st1.get q2)
            obtain ⟨xs, ep, e1, e2⟩ := k2.obj l _ a hm2 q3
            have ry : Rp z (hid (η ++ liv ι2 m2) H2) y (.tup ks) := ry
            cases ry with | @tup bb vs _ hb rb =>
            have ryt : Rp z (hid (η ++ liv ι2 m2) H2) (.ref bb) (.tup ks) := .tup hb rb
            rw [← g.pw.1, ← g.pw.2] at e1
            refine ⟨a, bb, xs, ep, k, rfl, rfl, ⟨e1, by rw [g.hK]; exact e2.keys fun _ _ => hid_ext _ _, by rw [g.hK]; exact (ryt.nk hk).ext fun _ _ => hid_ext _ _, hlen.2⟩, by rw [e2.length]; exact hlen.1, fun r ep' rv => ?_⟩
            have rx : Rp z (hid (η ++ liv ι2 m2) H2) x d := Rp.ext st2.vis rx
            obtain ⟨st3, k3⟩ := k2.write (ho := ndO X.prog X.w a (storedH xs k bb r) ep') (u := .dct (putKV kvs k (.tup ks) d)) hm2 q3 rfl rfl ⟨_, ep', by rw [upd_same, g.pw.1, g.pw.2], e2.put ryt hk hlen.2 rv rx⟩
            exact h2 _ ι2 st3 k3 _ (ok.step ((st1.trans st2).trans st3) k3)
          · exact h2.elim
        · exact h2.elim
      · exact h2.elim
    · exact h.elim
/-- the dict that a name holds, as it stands -/
def dctAt (ρ : Env) (i : Nat) (m : Mem) : Option (List (D × D)) := match ρ[i]? with
  | some (some (.p l)) => (match m[l]? with
    | some (.dct kvs) => some kvs
    | _ => none)
  | _ => none
def inR (pos : Bool) (ρ : Env) (i : Nat) (w : Vl) (m : Mem) : R Vl := match w, dctAt ρ i m with
  | .d (.tup ks), some kvs => (match keyD (.tup ks) with
    | some k => if k.depth ≤ 8 then .ok (.d (.bl ((atKV kvs k).isSome == pos))) m else .no
    | none => .no)
  | _, _ => .no
/-- k in d, k not in d -/
def sDIn (pos : Bool) (i : Nat) (si : Sem) : Sem := fun ρ m => (si ρ m).bind fun w m1 => inR pos ρ i w m1
theorem NdR.some {z : Z} {Hh : Hp} {xs : NEs} {kvs : List (D × D)} (h : NdR z Hh xs kvs) (k : NestedKey) : (atKey xs k).isSome = (atKV kvs k).isSome := by
  have q := h.at k
  cases e1 : atKey xs k <;> cases e2 : atKV kvs k <;> rw [e1, e2] at q <;> first | rfl | exact q.elim
theorem dct_of {η ι : List Addr} {m : Mem} {ρ : Env} {σ : L2.St} {H : Hp} {i : Nat} {kvs : List (D × D)} (g : Gc z W X) (ok : SOk z η ι m ρ σ H) (e : dctAt ρ i m = some kvs) : ∃ a xs ep, σ[i]? = some (some (.ref a)) ∧ H a = some (ndO X.prog X.w a xs ep) ∧ KeysAt X.K H xs ∧ NdR z (hid (η ++ liv ι m) H) xs kvs := by
  unfold dctAt at e
  split at e
  · rename_i l hl
    split at e
    · rename_i kvs' hm
      cases e
      obtain ⟨x', q1, a, q2, rfl⟩ := ok.slot i _ hl
      obtain ⟨xs, ep, e1, e2⟩ := ok.mem.obj l _ a hm q2
      rw [← g.pw.1, ← g.pw.2] at e1
      exact ⟨a, xs, ep, q1, e1, by rw [g.hK]; exact e2.keys fun _ _ => hid_ext _ _, e2⟩
    · cases e
  · cases e
theorem c_din (i : Nat) {x : Str} {op : Pos} (g : Gc z W X) (hi : CE z W X b si) (hN : X.N[i]? = some x := by rfl) (hv : Vis X.env.scope x := by first | exact Or.inl rfl | exact Or.inr (Or.inl rfl) | exact Or.inr (Or.inr rfl)) (hd : (x == ("__debug__" : Str)) = false := by decide)
    (hcd : (x == ("__classdict__" : Str)) = false := by decide) (hm : behindInMarks .In (.Name x xp) = false := by first | exact nomark _ | rfl) : CE z W X (.Compare b [.In] [.Name x xp] pos) (sDIn true i si) :=
  pe_mono (pe_cmp (pc_ndin (by have := g.hu; omega) hi (pe_var (i := i) hN hv hd hcd)) hm) fun σ H Q ⟨η, ι, ρ, m, ok, h⟩ => by
    refine ⟨η, ι, ρ, m, ok, Post.mono (fun ι1 m1 H1 w st1 k1 h1 y ry => ?_) (Post.bind h)⟩
    unfold inR at h1
    split at h1
    · rename_i ks kvs hk
      split at h1
      · rename_i k hkey
        split at h1
        · rename_i hdeep
          have ok1 := ok.step st1 k1
          obtain ⟨a, xs, ep, q1, e1, e2, e3⟩ := dct_of g ok1 hk
          have ry : Rp z (hid (η ++ liv ι1 m1) H1) y (.tup ks) := ry
          cases ry with | @tup bb vs _ hb rb =>
          have ryt : Rp z (hid (η ++ liv ι1 m1) H1) (.ref bb) (.tup ks) := .tup hb rb
          refine ⟨_, q1, a, bb, xs, ep, k, rfl, rfl, ⟨e1, e2, by rw [g.hK]; exact (ryt.nk hkey).ext fun _ _ => hid_ext _ _, hdeep⟩, ?_⟩
          rw [e3.some k]
          have q := h1 H1 ι1 Stp.refl k1 (.bl ((atKV kvs k).isSome == true)) (.bl _)
          simpa using q
        · exact h1.elim
      · exact h1.elim
    · exact h1.elim
theorem c_dnotin (i : Nat) {x : Str} {op : Pos} (g : Gc z W X) (hi : CE z W X b si) (hN : X.N[i]? = some x := by rfl) (hv : Vis X.env.scope x := by first | exact Or.inl rfl | exact Or.inr (Or.inl rfl) | exact Or.inr (Or.inr rfl)) (hd : (x == ("__debug__" : Str)) = false := by decide)
    (hcd : (x == ("__classdict__" : Str)) = false := by decide) (hm : behindInMarks .NotIn (.Name x xp) = false := by first | exact nomark _ | rfl) : CE z W X (.Compare b [.NotIn] [.Name x xp] pos) (sDIn false i si) :=
  pe_mono (pe_cmp (pc_ndnotin (by have := g.hu; omega) hi (pe_var (i := i) hN hv hd hcd)) hm) fun σ H Q ⟨η, ι, ρ, m, ok, h⟩ => by
    refine ⟨η, ι, ρ, m, ok, Post.mono (fun ι1 m1 H1 w st1 k1 h1 y ry => ?_) (Post.bind h)⟩
    unfold inR at h1
    split at h1
    · rename_i ks kvs hk
      split at h1
      · rename_i k hkey
        split at h1
        · rename_i hdeep
          have ok1 := ok.step st1 k1
          obtain ⟨a, xs, ep, q1, e1, e2, e3⟩ := dct_of g ok1 hk
          have ry : Rp z (hid (η ++ liv ι1 m1) H1) y (.tup ks) := ry
          cases ry with | @tup bb vs _ hb rb =>
          have ryt : Rp z (hid (η ++ liv ι1 m1) H1) (.ref bb) (.tup ks) := .tup hb rb
          refine ⟨_, q1, a, bb, xs, ep, k, rfl, rfl, ⟨e1, e2, by rw [g.hK]; exact (ryt.nk hkey).ext fun _ _ => hid_ext _ _, hdeep⟩, ?_⟩
          rw [e3.some k]
          have q := h1 H1 ι1 Stp.refl k1 (.bl ((atKV kvs k).isSome == false)) (.bl _)
          simpa using q
        · exact h1.elim
      · exact h1.elim
    · exact h1.elim
def getR (ρ : Env) (i : Nat) (w v : Vl) (m : Mem) : R Vl := match w, v, dctAt ρ i m with
  | .d (.tup ks), .d d, some kvs => (match keyD (.tup ks) with
    | some k => if k.depth ≤ 8 then .ok (.d ((atKV kvs k).getD d)) m else .no
    | none => .no)
  | _, _, _ => .no
/-- d.get(k, x) -/
def sDGet2 (i : Nat) (si so : Sem) : Sem := fun ρ m => match dctAt ρ i m with
  | some _ => (si ρ m).bind fun w m1 => (so ρ m1).bind fun v m2 => getR ρ i w v m2
  | none => .no
theorem c_dget2 (i : Nat) {x : Str} {f : Expr} {apos : Pos} (g : Gc z W X) (hi : CE z W X b si) (hf : CE z W X f so) (m2 : M2 X (.Name x xp) "get" apos b f pos) (hN : X.N[i]? = some x := by rfl) (hv : Vis X.env.scope x := by first | exact Or.inl rfl | exact Or.inr (Or.inl rfl) | exact Or.inr (Or.inr rfl)) (hd : (x == ("__debug__" : Str)) = false := by decide)
    (hcd : (x == ("__classdict__" : Str)) = false := by decide) : CE z W X (.Call (.Attribute (.Name x xp) "get" apos) [b, f] [] pos) (sDGet2 i si so) :=
  pe_mono (pe_ndget2 (by have := g.hu; omega) (pe_var (i := i) hN hv hd hcd) hi hf m2) fun σ H Q ⟨η, ι, ρ, m, ok, h⟩ => by
    unfold sDGet2 at h
    split at h
    · rename_i kvs0 hk0
      obtain ⟨a0, xs0, ep0, q0, e0, ks0, _⟩ := dct_of g ok hk0
      refine ⟨_, q0, a0, xs0, ep0, rfl, e0, ks0, η, ι, ρ, m, ok, Post.mono (fun ι1 m1 H1 w st1 k1 h1 y ry => ?_) (Post.bind h)⟩
      refine ⟨η, ι1, ρ, m1, ok.step st1 k1, Post.mono (fun ι2 m2 H2 v st2 k2 h2 u ru => ?_) (Post.bind h1)⟩
      unfold getR at h2
      split at h2
      · rename_i ks d kvs hk
        split at h2
        · rename_i k hkey
          split at h2
          · rename_i hdeep
            have ok2 := (ok.step st1 k1).step st2 k2
            obtain ⟨a, xs, ep, q1, e1, e2, e3⟩ := dct_of g ok2 hk
            have ea : a = a0 := by rw [q0] at q1; exact (V.ref.inj (Option.some.inj (Option.some.inj q1))).symm
            subst ea
            have ry : Rp z (hid (η ++ liv ι1 m1) H1) y (.tup ks) := ry
            have ry : Rp z (hid (η ++ liv ι2 m2) H2) y (.tup ks) := ry.ext st2.vis
            cases ry with | @tup bb vs _ hb rb =>
            have ryt : Rp z (hid (η ++ liv ι2 m2) H2) (.ref bb) (.tup ks) := .tup hb rb
            have ru : Rp z (hid (η ++ liv ι2 m2) H2) u d := ru
            refine ⟨bb, xs, ep, k, rfl, ⟨e1, e2, by rw [g.hK]; exact (ryt.nk hkey).ext fun _ _ => hid_ext _ _, hdeep⟩, ?_⟩
            have q := e3.at k
            cases ek : atKey xs k with
            | none =>
              cases ed : atKV kvs k with
              | none =>
                rw [ed] at h2
                exact ⟨u, fun r rr => rr, h2 H2 ι2 Stp.refl k2 u ru⟩
              | some d' => rw [ek, ed] at q; exact q.elim
            | some p =>
              cases ed : atKV kvs k with
              | none => rw [ek, ed] at q; exact q.elim
              | some d' =>
                rw [ek, ed] at q
                obtain ⟨v', rv, rp⟩ := q
                rw [ed] at h2
                exact ⟨v', fun r rr => rv, h2 H2 ι2 Stp.refl k2 v' rp⟩
          · exact h2.elim
        · exact h2.elim
      · exact h2.elim
    · exact h.elim
end
end DL
/-! DLwj: a dict of one's own becomes data. -/
namespace DL
open PySem PySem.Spec PyProof.Rows L2 DLH
section
variable {z : Z} {W : XK} {X : Cx} {s1 : SemS} {body : List Stmt}
/-- a dict of one's own is from now on data -/
def sFrzD (i : Nat) (s : SemS) : SemS := fun ρ m => match ρ[i]? with
  | some (some (.p l)) => (match m[l]? with
    | some (.dct kvs) => s (ρ.set i (some (.d (.dct kvs)))) (m.set l .dead)
    | _ => .no)
  | _ => .no
theorem css_frzD (i : Nat) (h : CSs z W X body s1) : CSs z W X body (sFrzD i s1) :=
  pss_mono h fun D σ H ⟨η, ι, ρ, m, ok, h⟩ => by
    unfold sFrzD at h
    split at h
    · rename_i l hl
      split at h
      · rename_i kvs hm
        obtain ⟨x, q1, a, q2, rfl⟩ := ok.slot i _ hl
        obtain ⟨vs, ep, e1, e2⟩ := ok.mem.obj l _ a hm q2
        have ex : Ext (hid (η ++ liv ι m) H) (hid (η ++ liv ι (m.set l .dead)) H) := fun b o e => by
          obtain ⟨n, e⟩ := hid_some.mp e
          refine hid_some.mpr ⟨fun q => n ?_, e⟩
          rcases List.mem_append.mp q with q | q
          · exact List.mem_append_left _ q
          · exact List.mem_append_right _ (liv_dead q)
        have st : Stp ι m H ι (m.set l .dead) H := ⟨⟨[], by simp⟩, fun b o n e => ⟨e, fun q => n (liv_dead q)⟩⟩
        have nal : a ∉ liv ι (m.set l .dead) := fun q => by
          obtain ⟨l', o', h1, h2, h3⟩ := mem_liv q
          have : l' = l := by
            obtain ⟨q1, q2'⟩ := List.getElem?_eq_some_iff.mp h1
            obtain ⟨q3, q4⟩ := List.getElem?_eq_some_iff.mp q2
            exact (List.getElem_inj ok.mem.nd).mp (q2'.trans q4.symm)
          subst this
          rw [List.getElem?_set_self (List.getElem?_eq_some_iff.mp hm).1] at h2
          cases h2; cases h3
        have k : MOk z η ι (m.set l .dead) H := by
          refine ⟨by rw [List.length_set]; exact ok.mem.len, ok.mem.nd, ok.mem.dj, ok.mem.ex, fun l' o' a' h1 h2 => ?_⟩
          by_cases hll : l' = l
          · subst hll
            rw [List.getElem?_set_self (List.getElem?_eq_some_iff.mp hm).1] at h1
            cases h1; trivial
          · rw [List.getElem?_set_ne (Ne.symm hll)] at h1
            have q := ok.mem.obj l' o' a' h1 h2
            cases o' with
            | lst xs => obtain ⟨vs, e3, e4⟩ := q; exact ⟨vs, e3, e4.ext ex⟩
            | ins c gs => obtain ⟨dx, fs, e3, e4⟩ := q; exact ⟨dx, fs, e3, e4.ext ex⟩
            | dead => trivial
            | dct kvs => obtain ⟨xs, ep, e3, e4⟩ := q; exact ⟨xs, ep, e3, e4.ext ex⟩
            | tab n y => exact q
        have hvis : hid (η ++ liv ι (m.set l .dead)) H a = some (ndO z.P z.w a vs ep) := hid_some.mpr ⟨fun q => by
          rcases List.mem_append.mp q with q | q
          · exact ok.mem.dj a (List.mem_of_getElem? q2) q
          · exact nal q, e1⟩
        have s' := (ok.step st k).set (i := i) (v := .d (.dct kvs)) (x := .ref a) (Rp.dct hvis (NdR.rpE (e2.ext ex)))
        have hσ : σ.set i (some (.ref a)) = σ := by
          apply List.ext_getElem?
          intro j
          by_cases hj : j = i
          · subst hj
            rw [List.getElem?_set_self (List.getElem?_eq_some_iff.mp q1).1, q1]
          · rw [List.getElem?_set_ne (Ne.symm hj)]
        rw [hσ] at s'
        exact ⟨η, ι, _, _, s', Post.back st h⟩
      · exact h.elim
    · exact h.elim

/-! ### a walk over the keys of a dict -/
theorem RpE.length {z : Z} {H : Hp} : ∀ {xs : NEs} {kvs : List (D × D)}, RpE z H xs kvs → xs.length = kvs.length
  | _, _, .nil => rfl
  | _, _, .cons _ _ _ _ _ r => by simp [RpE.length r]
theorem RpE.get {z : Z} {H : Hp} : ∀ {xs : NEs} {kvs : List (D × D)} {i : Nat} {k : NestedKey} {q : Addr} {r : Value}, RpE z H xs kvs → xs[i]? = some (k, q, r) → ∃ p, kvs[i]? = some p ∧ Rp z H (.ref q) p.1
  | _, _, _, _, _, _, .nil, e => by simp at e
  | _, _, 0, _, _, _, .cons h _ _ _ _ _, e => by
    simp only [List.getElem?_cons_zero, Option.some.injEq, Prod.mk.injEq] at e
    obtain ⟨rfl, rfl, rfl⟩ := e
    exact ⟨_, rfl, h⟩
  | _, _, i + 1, _, _, _, .cons _ _ _ _ _ r, e => by
    rw [List.getElem?_cons_succ] at e ⊢
    exact RpE.get r e
theorem wk_keys {L : List Addr} {H : Hp} {a : Addr} {xs : NEs} {ep : Nat} {kvs : List (D × D)} (h : hid L H a = some (ndO z.P z.w a xs ep)) (r : RpE z (hid L H) xs kvs) : Wk z L H (ItN z.P z.w a xs ep) (kvs.map Prod.fst) where
  go := fun L' H' i e hi => ⟨hid_ext _ _ (e _ _ h), by rw [r.length]; simpa using hi⟩
  stop := fun L' H' e => ⟨hid_ext _ _ (e _ _ h), by rw [r.length]; simp⟩
  yl := fun L' H' i x H'' d e _ y hd => by
    obtain ⟨e1, k, q, v, e2, e3⟩ := y
    subst e1 e3
    obtain ⟨p, h1, h2⟩ := r.get e2
    rw [List.getElem?_map, h1] at hd
    cases hd
    exact ⟨Ext.refl _, h2.ext e⟩
def sKeys (s : Sem) : SemI := fun ρ m => (s ρ m).bind fun v m1 => match v with
  | .d (.dct kvs) => .ok (kvs.map Prod.fst) m1
  | _ => .no
theorem ci_keys {tg e : Expr} {s : Sem} (g : Gc z W X) (h : CE z W X e s) : CI z W X tg e (sKeys s) :=
  pi_mono (pi_keysN h) fun σ H R' ⟨η, ι, ρ, m, ok, h⟩ => by
    refine ⟨η, ι, ρ, m, ok, ?_⟩
    unfold sKeys at h
    refine Post.mono (fun ι1 m1 H1 v st1 k1 h1 x rx => ?_) (Post.bind h)
    split at h1
    · rename_i kvs
      cases rx with | dct h2 r2 =>
      rw [g.pw.1, g.pw.2]
      exact ⟨_, _, _, rfl, hid_ext _ _ h2, h1 H1 ι1 Stp.refl k1 _ (wk_keys h2 r2)⟩
    · exact h1.elim
end
end DL
/-! DLwk: rules of ends for dicts. -/
namespace DL
open PySem PySem.Spec PyProof.Rows L2 DLH
section
variable {ρ : Env} {m : Mem} {i l : Nat} {s si se so : Sem} {s1 : SemS} {Q : Vl → Mem → Prop} {QS : Ct → Mem → Prop} {QI : List D → Mem → Prop}
@[simp] theorem w_DctO : (sDctO ρ m).wp Q = Q (.p m.length) (m ++ [.dct []]) := rfl
def kDPut (l : Nat) (ρ : Env) (QS : Ct → Mem → Prop) (v : Vl) : Vl → Mem → Prop := fun w m => (putR l ρ v w m).wp QS
def kDPut1 (l : Nat) (si : Sem) (ρ : Env) (QS : Ct → Mem → Prop) : Vl → Mem → Prop := fun v m => (si ρ m).wp (kDPut l ρ QS v)
@[simp] theorem k_DPut1 {v : Vl} : kDPut1 l si ρ QS v m = (si ρ m).wp (kDPut l ρ QS v) := rfl
theorem k_DPut {d : D} {ks : List D} {kvs : List (D × D)} {k : NestedKey} (h : m[l]? = some (.dct kvs)) (hk : keyD (.tup ks) = some k) (hn : kvs.length < sizeLine) (hd : k.depth ≤ 8) :
    kDPut l ρ QS (.d d) (.d (.tup ks)) m = QS (.nx ρ) (m.set l (.dct (putKV kvs k (.tup ks) d))) := by
  unfold kDPut putR
  simp only [h, hk]
  rw [if_pos ⟨hn, hd⟩]
  rfl
@[simp] theorem w_DPut : (sDPut i si se ρ m).wp QS = match ρ[i]? with
    | some (some (.p l)) => (se ρ m).wp (kDPut1 l si ρ QS)
    | _ => False := by
  unfold sDPut
  cases ρ[i]? with
  | none => rfl
  | some o => cases o with
    | none => rfl
    | some v => cases v with
      | d d => rfl
      | p l =>
        dsimp only
        rw [wp_bind]; congr; funext v m1; rw [wp_bind]; rfl
def kDIn (pos : Bool) (ρ : Env) (i : Nat) (Q : Vl → Mem → Prop) : Vl → Mem → Prop := fun w m => (inR pos ρ i w m).wp Q
@[simp] theorem w_DIn {pos : Bool} : (sDIn pos i si ρ m).wp Q = (si ρ m).wp (kDIn pos ρ i Q) := by
  unfold sDIn; rw [wp_bind]; rfl
theorem k_DIn {pos : Bool} {ks : List D} {kvs : List (D × D)} {k : NestedKey} (h : dctAt ρ i m = some kvs) (hk : keyD (.tup ks) = some k) (hd : k.depth ≤ 8) :
    kDIn pos ρ i Q (.d (.tup ks)) m = Q (.d (.bl ((atKV kvs k).isSome == pos))) m := by
  unfold kDIn inR
  simp only [h, hk]
  rw [if_pos hd]
  rfl
def kDGet (ρ : Env) (i : Nat) (w : Vl) (Q : Vl → Mem → Prop) : Vl → Mem → Prop := fun v m => (getR ρ i w v m).wp Q
def kDGet1 (so : Sem) (ρ : Env) (i : Nat) (Q : Vl → Mem → Prop) : Vl → Mem → Prop := fun w m => (so ρ m).wp (kDGet ρ i w Q)
@[simp] theorem k_DGet1 {w : Vl} : kDGet1 so ρ i Q w m = (so ρ m).wp (kDGet ρ i w Q) := rfl
theorem k_DGet {d : D} {ks : List D} {kvs : List (D × D)} {k : NestedKey} (h : dctAt ρ i m = some kvs) (hk : keyD (.tup ks) = some k) (hd : k.depth ≤ 8) :
    kDGet ρ i (.d (.tup ks)) Q (.d d) m = Q (.d ((atKV kvs k).getD d)) m := by
  unfold kDGet getR
  simp only [h, hk]
  rw [if_pos hd]
  rfl
@[simp] theorem w_DGet2 : (sDGet2 i si so ρ m).wp Q = match dctAt ρ i m with
    | some _ => (si ρ m).wp (kDGet1 so ρ i Q)
    | none => False := by
  unfold sDGet2
  cases dctAt ρ i m with
  | none => rfl
  | some kvs =>
    dsimp only
    rw [wp_bind]; congr; funext v m1; rw [wp_bind]; rfl
def kKeys (QI : List D → Mem → Prop) : Vl → Mem → Prop := fun v m => match v with
  | .d (.dct kvs) => QI (kvs.map Prod.fst) m
  | _ => False
@[simp] theorem k_Keys {kvs : List (D × D)} : kKeys QI (.d (.dct kvs)) m = QI (kvs.map Prod.fst) m := rfl
@[simp] theorem w_Keys : (sKeys s ρ m).wp QI = (s ρ m).wp (kKeys QI) := by
  unfold sKeys; rw [wp_bind]; congr; funext v m1; unfold kKeys; split <;> simp_all
@[simp] theorem w_FrzD : (sFrzD i s1 ρ m).wp QS = match ρ[i]? with
    | some (some (.p l)) => (match m[l]? with
      | some (.dct kvs) => (s1 (ρ.set i (some (.d (.dct kvs)))) (m.set l .dead)).wp QS
      | _ => False)
    | _ => False := by
  unfold sFrzD
  cases ρ[i]? with
  | none => rfl
  | some o => cases o with
    | none => rfl
    | some v => cases v with
      | d d => rfl
      | p l =>
        dsimp only
        cases m[l]? with
        | none => rfl
        | some o => cases o <;> rfl
end
end DL
/-! DLwl: d[k]. -/
namespace DL
open PySem PySem.Spec PyProof.Rows L2 DLH
section
variable {z : Z} {W : XK} {X : Cx} {e b : Expr} {se si so : Sem} {pos xp spos : Pos}
def ixR (ρ : Env) (i : Nat) (w : Vl) (m : Mem) : R Vl := match w, dctAt ρ i m with
  | .d (.tup ks), some kvs => (match keyD (.tup ks) with
    | some k => if k.depth ≤ 8 then (match atKV kvs k with
      | some d => .ok (.d d) m
      | none => .no) else .no
    | none => .no)
  | _, _ => .no
/-- d[k], the key is there -/
def sDIx (i : Nat) (si : Sem) : Sem := fun ρ m => match dctAt ρ i m with
  | some _ => (si ρ m).bind fun w m1 => ixR ρ i w m1
  | none => .no
theorem c_dix (i : Nat) {x : Str} (g : Gc z W X) (hi : CE z W X b si) (hs : NoSl b) (hN : X.N[i]? = some x := by rfl) (hv : Vis X.env.scope x := by first | exact Or.inl rfl | exact Or.inr (Or.inl rfl) | exact Or.inr (Or.inr rfl)) (hd : (x == ("__debug__" : Str)) = false := by decide)
    (hcd : (x == ("__classdict__" : Str)) = false := by decide) : CE z W X (.Subscript (.Name x xp) b pos) (sDIx i si) :=
  pe_mono (pe_ndget (by have := g.hu; omega) (pe_var (i := i) hN hv hd hcd) hi hs) fun σ H Q ⟨η, ι, ρ, m, ok, h⟩ => by
    unfold sDIx at h
    split at h
    · rename_i kvs0 hk0
      obtain ⟨a0, xs0, ep0, q0, e0, ks0, _⟩ := dct_of g ok hk0
      refine ⟨_, q0, η, ι, ρ, m, ok, Post.mono (fun ι1 m1 H1 w st1 k1 h2 y ry => ?_) (Post.bind h)⟩
      unfold ixR at h2
      split at h2
      · rename_i ks kvs hk
        split at h2
        · rename_i k hkey
          split at h2
          · rename_i hdeep
            split at h2
            · rename_i d' ed
              have ok2 := ok.step st1 k1
              obtain ⟨a, xs, ep, q1, e1, e2, e3⟩ := dct_of g ok2 hk
              have ea : a = a0 := by rw [q0] at q1; exact (V.ref.inj (Option.some.inj (Option.some.inj q1))).symm
              subst ea
              have ry : Rp z (hid (η ++ liv ι1 m1) H1) y (.tup ks) := ry
              cases ry with | @tup bb vs _ hb rb =>
              have ryt : Rp z (hid (η ++ liv ι1 m1) H1) (.ref bb) (.tup ks) := .tup hb rb
              have q := e3.at k
              cases ek : atKey xs k with
              | none => rw [ek, ed] at q; exact q.elim
              | some p =>
                rw [ek, ed] at q
                obtain ⟨v', rv, rp⟩ := q
                exact ⟨a, bb, xs, ep, k, p, v', rfl, rfl, ⟨e1, e2, by rw [g.hK]; exact (ryt.nk hkey).ext fun _ _ => hid_ext _ _, hdeep⟩, ek, rv, h2 H1 ι1 Stp.refl k1 v' rp⟩
            · exact h2.elim
          · exact h2.elim
        · exact h2.elim
      · exact h2.elim
    · exact h.elim
variable {ρ : Env} {m : Mem} {i : Nat} {Q : Vl → Mem → Prop}
def kDIx (ρ : Env) (i : Nat) (Q : Vl → Mem → Prop) : Vl → Mem → Prop := fun w m => (ixR ρ i w m).wp Q
theorem k_DIx {d : D} {ks : List D} {kvs : List (D × D)} {k : NestedKey} (h : dctAt ρ i m = some kvs) (hk : keyD (.tup ks) = some k) (hd : k.depth ≤ 8) (ha : atKV kvs k = some d) :
    kDIx ρ i Q (.d (.tup ks)) m = Q (.d d) m := by
  unfold kDIx ixR
  simp only [h, hk]
  rw [if_pos hd]
  simp only [ha]
  rfl
@[simp] theorem w_DIx : (sDIx i si ρ m).wp Q = match dctAt ρ i m with
    | some _ => (si ρ m).wp (kDIx ρ i Q)
    | none => False := by
  unfold sDIx
  cases dctAt ρ i m with
  | none => rfl
  | some kvs =>
    dsimp only
    rw [wp_bind]; rfl
end
end DL
/-! DLne: a walk over the items of a dict with keys of any depth. -/
namespace L2
open PySem PySem.Spec PyProof.Rows PySem.W
def ItNi (P : Program) (w : World) (d : Addr) (xs : NEs) (ep : Nat) (vs : List V) : It :=
  ⟨fun i H => H d = some (ndO P w d xs ep) ∧ i < xs.length, fun i H x H' => ∃ p k q r v, xs[i]? = some (k, q, r) ∧ vs[i]? = some v ∧ x = .ref p ∧ H p = none ∧ H' = upd H p (.tup [.ref q, v]), fun i H => H d = some (ndO P w d xs ep) ∧ xs.length ≤ i⟩
theorem turn_itemsN {P : Program} {w : World} {K : PySem.W.Frag} {d : Addr} {xs : NEs} {ep : Nat} {vs : List V} {elts : List Expr} {kk : Nat} {tpos : Pos} (hv : ∀ (i : Nat) (k : NestedKey) (q : Addr) (r : Value), xs[i]? = some (k, q, r) → ∃ v, vs[i]? = some v ∧ RelV v r) (it : Addr) :
    Turn P w K (.Tuple elts kk tpos) (ItNi P w d xs ep vs) [it] it (fun i h => ∃ ok ov, IsItemIter h it d i xs.length ep ok ov) where
  mem := by simp
  obj := fun i h st b hb => by
    have e : b = it := by simpa using hb
    subst e
    obtain ⟨ok, ov, e⟩ := st
    exact ⟨_, e, fun v z => nomatch z⟩
  keep := fun i h h' st k => let ⟨ok, ov, e⟩ := st; ⟨ok, ov, k it (by simp) _ e⟩
  item := by
    intro X hP hw hK hc i pins s σ H E I hf st hg
    subst hP hw hK
    obtain ⟨hd, hi⟩ := hg
    obtain ⟨hs, od, es, hgd, hx, hdt, hsz, ent⟩ := nd_ent I hd
    obtain ⟨⟨k, q, r⟩, hkv⟩ : ∃ p, xs[i]? = some p := ⟨xs[i], List.getElem?_eq_getElem hi⟩
    obtain ⟨en, hen, hkey, hval⟩ := ent i k q r hkv
    obtain ⟨v, hvv, rv⟩ := hv i k q r hkv
    obtain ⟨ok, ov, he⟩ := st
    rw [← hsz] at he
    have hlt : it < s.heap.objs.size := Heap.lt_size he
    obtain ⟨hi', en_eq⟩ := Array.getElem?_eq_some_iff.mp hen
    refine wpAny_pyNext_items_item_raw he ⟨od, hgd, hx, hdt⟩ hi' fun h' ho hT hz hk => ?_
    rw [en_eq, hkey, hval] at ho hT
    refine ⟨_, rfl, wpAny_letOwnedTupleGo_items (s := { s with heap := h' }) ho fun h'' he' sb => ?_⟩
    have hT2 : h''.get? s.heap.objs.size = some { cls := .type "tuple", data := .seq #[.ref q, r] } := (sb.2 _ (Nat.ne_of_gt hlt)).trans hT
    have new : ObjOk X.prog X.w (upd H s.heap.objs.size (.tup [.ref q, v])) h'' s.heap.objs.size (.tup [.ref q, v]) :=
      ⟨by show 2 ≤ sizeLine; decide, [.ref q, r], .cons rfl (.cons rv .nil), ⟨_, hT2, rfl, _, rfl⟩⟩
    have I1 : Inv X pins σ (upd H s.heap.objs.size (.tup [.ref q, v])) { s with heap := h'' } :=
      I.turnedNew (t' := s.toks) (ch := [it]) (fun b ob hb e => (sb.2 b (by simpa using hb)).trans (hk b ob (by simpa using hb) e)) hf (Nat.le_refl _) new
    refine ⟨.ref s.heap.objs.size, _, I1, rfl, ⟨_, k, q, r, v, hkv, hvv, rfl, I.hok.fresh (Nat.le_refl _), rfl⟩, ⟨.ref q, r, ?_⟩, fun b hb => ?_⟩
    · rw [← hsz]; exact he'
    · have e : b = it := by simpa using hb
      rw [e, upd_ne (Nat.ne_of_lt hlt)]
      exact (hf it (by simp)).1
  done := by
    intro X hP hw hK hc i pins s σ H E I hf st hg
    subst hP hw hK
    obtain ⟨hd, hi⟩ := hg
    obtain ⟨f0, f1, f2, f3, f4, f5⟩ := hf it (by simp)
    obtain ⟨hs, od, es, hgd, hx, hdt, hsz, ent⟩ := nd_ent I hd
    obtain ⟨ok, ov, he⟩ := st
    rw [← hsz] at he
    exact wpAny_pyNext_items_end_raw (I.ok.hd hc) he ⟨od, hgd, hx, hdt⟩ (by omega) fun h' eb => ⟨rfl, I.turned (t' := s.toks) (fun b ob hb e => eb b ob hb e) f0 f1 f3 f4 f5⟩
  self := fun A i s Q E st h => let ⟨_, _, e⟩ := st; PySem.W.kcp_self e h
def iItemsN (X : Cx) (td : TE) : TI := fun σ H R => td σ H fun x H1 => ∃ d xs ep vs, x = .ref d ∧ H1 d = some (ndO X.prog X.w d xs ep) ∧ (∀ (i : Nat) (k : NestedKey) (q : Addr) (r : Value), xs[i]? = some (k, q, r) → ∃ v, vs[i]? = some v ∧ RelV v r) ∧ R (ItNi X.prog X.w d xs ep vs) H1
theorem pi_itemsN {X : Cx} {e : Expr} {td : TE} {apos cpos : Pos} {elts : List Expr} {kk : Nat} {tpos : Pos} (he : PE X e td) (hbase : attributeBase e "items" X.env (eval e X.env) = eval e X.env := by rfl) (hline : (apos.endLine == cpos.line) = true := by rfl) :
    PI X (.Tuple elts kk tpos) (.Call (.Attribute e "items" apos) [] [] cpos) (iItemsN X td) := by
  refine ⟨fun pins s σ H R I h => ?_⟩
  refine wpAny_Call_method (T := "dict") (id := "dict.items") hbase rfl hline F.plainAttrs_dict F.slot_dict_items F.type_dict_items (thn (he.run pins s σ H _ I h) fun u s1 ⟨x, H1, I1, rx, d, xs, ep, vs, ex, hd, hv, q⟩ => ?_)
  subst ex
  obtain rfl : u = Value.ref d := rx
  obtain ⟨hs, od, es, hgd, hx, hdt, hsz, ent⟩ := nd_ent I1 hd
  have hm : s1.heap.DictRaw d es ep := ⟨od, hgd, hx, hdt⟩
  refine ⟨hm.typeIs, ?_, ?_⟩
  · intro b q
    cases q
    exact ⟨od, hgd, hx.2.1⟩
  have I2 : Inv X pins σ H1 { s1 with heap := s1.heap.push { cls := .type "dict_items", data := .fields #[.ref d] } } := I1.kept (t' := s1.toks) fun b ob q => Heap.get?_push_of_some _ q
  have fin : wpAny (model X.prog X.w) X.A (pyIter (.ref s1.heap.objs.size)) (PIE X pins σ (.Tuple elts kk tpos) R) X.xe { s1 with heap := s1.heap.push { cls := .type "dict_items", data := .fields #[.ref d] } } := by
    refine wpAny_pyIter_items_raw (d := d) ⟨_, Heap.get?_push_size _ rfl, rfl, rfl⟩ (hm.at fun o z => Heap.get?_push_of_some _ z) (pi_one (tk := s1.toks) I2 _ (turn_itemsN hv _) ⟨.none, .none, ?_⟩ q)
    rw [← hsz]
    exact Heap.get?_push_size _ rfl
  show wpAny _ _ (callWith cpos (.builtin "dict.items") [.ref d] [] []) _ X.xe s1
  exact method_meetsIn F.slot_dict_items F.entry_dict_items rfl (PySem.evalArgs_none ⟨rfl, hm.typeIs, F.args_dict_items_1 _, _, meets_dict_items_raw d hs, ⟨es, ep, hm⟩, fin⟩)
end L2
/-! DLwm: for k, v in d.items(). -/
namespace DL
open PySem PySem.Spec PyProof.Rows L2 DLH
section
variable {z : Z} {W : XK} {X : Cx}
theorem RpE.vals {z : Z} {H : Hp} : ∀ {xs : NEs} {kvs : List (D × D)}, RpE z H xs kvs → ∃ vs : List V, (∀ (i : Nat) (k : NestedKey) (q : Addr) (r : Value), xs[i]? = some (k, q, r) → ∃ v, vs[i]? = some v ∧ RelV v r) ∧ ∀ (i : Nat) (k : NestedKey) (q : Addr) (r : Value) (v : V), xs[i]? = some (k, q, r) → vs[i]? = some v → ∃ p, kvs[i]? = some p ∧ Rp z H (.ref q) p.1 ∧ Rp z H v p.2
  | _, _, .nil => ⟨[], fun i k q r e => by simp at e, fun i k q r v e => by simp at e⟩
  | _, _, @RpE.cons _ _ k0 q0 r0 kd vd v0 xs kvs h1 h2 h3 h4 h5 rr => by
    obtain ⟨vs, a, b⟩ := RpE.vals rr
    refine ⟨v0 :: vs, fun i k q r e => ?_, fun i k q r v e e' => ?_⟩
    · cases i with
      | zero =>
        simp only [List.getElem?_cons_zero, Option.some.injEq, Prod.mk.injEq] at e
        obtain ⟨rfl, rfl, rfl⟩ := e
        exact ⟨v0, rfl, h4⟩
      | succ i => rw [List.getElem?_cons_succ] at e ⊢; exact a i k q r e
    · cases i with
      | zero =>
        simp only [List.getElem?_cons_zero, Option.some.injEq, Prod.mk.injEq] at e e'
        obtain ⟨rfl, rfl, rfl⟩ := e
        subst e'
        exact ⟨_, rfl, h1, h5⟩
      | succ i => rw [List.getElem?_cons_succ] at e e' ⊢; exact b i k q r v e e'
theorem wk_items {L : List Addr} {H : Hp} {a : Addr} {xs : NEs} {ep : Nat} {kvs : List (D × D)} {vs : List V} (h : hid L H a = some (ndO z.P z.w a xs ep)) (r : RpE z (hid L H) xs kvs)
    (hv : ∀ (i : Nat) (k : NestedKey) (q : Addr) (r : Value) (v : V), xs[i]? = some (k, q, r) → vs[i]? = some v → ∃ p, kvs[i]? = some p ∧ Rp z (hid L H) (.ref q) p.1 ∧ Rp z (hid L H) v p.2) : Wk z L H (ItNi z.P z.w a xs ep vs) (kvs.map fun p => .tup [p.1, p.2]) where
  go := fun L' H' i e hi => ⟨hid_ext _ _ (e _ _ h), by rw [r.length]; simpa using hi⟩
  stop := fun L' H' e => ⟨hid_ext _ _ (e _ _ h), by rw [r.length]; simp⟩
  yl := fun L' H' i x H'' d e ex y hd => by
    obtain ⟨p, k, q, r', v, e1, e2, e3, e4, e5⟩ := y
    subst e3 e5
    obtain ⟨p', h1, h2, h3⟩ := hv i k q r' v e1 e2
    rw [List.getElem?_map, h1] at hd
    cases hd
    have E := Ext.new (o := .tup [.ref q, v]) e4
    have hp : p ∉ L' := fun z => by obtain ⟨o, z⟩ := ex p z; rw [e4] at z; cases z
    have E' : Ext (hid L' H') (hid L' (upd H' p (.tup [.ref q, v]))) := fun b o z => by
      obtain ⟨n, z⟩ := hid_some.mp z
      exact hid_some.mpr ⟨n, E _ _ z⟩
    exact ⟨E, .tup (.inl (.inl (hid_some.mpr ⟨hp, upd_same⟩))) (.cons ((h2.ext e).ext E') (.cons ((h3.ext e).ext E') .nil))⟩
def sItems (s : Sem) : SemI := fun ρ m => (s ρ m).bind fun v m1 => match v with
  | .d (.dct kvs) => .ok (kvs.map fun p => .tup [p.1, p.2]) m1
  | _ => .no
theorem ci_items {e : Expr} {s : Sem} {apos cpos tpos : Pos} {elts : List Expr} {kk : Nat} (g : Gc z W X) (h : CE z W X e s) (hbase : attributeBase e "items" X.env (eval e X.env) = eval e X.env := by rfl) (hline : (apos.endLine == cpos.line) = true := by rfl) :
    CI z W X (.Tuple elts kk tpos) (.Call (.Attribute e "items" apos) [] [] cpos) (sItems s) :=
  pi_mono (pi_itemsN h hbase hline) fun σ H R' ⟨η, ι, ρ, m, ok, h⟩ => by
    refine ⟨η, ι, ρ, m, ok, ?_⟩
    unfold sItems at h
    refine Post.mono (fun ι1 m1 H1 v st1 k1 h1 x rx => ?_) (Post.bind h)
    split at h1
    · rename_i kvs
      cases rx with | dct h2 r2 =>
      obtain ⟨vs, a, b⟩ := r2.vals
      rw [g.pw.1, g.pw.2]
      exact ⟨_, _, _, vs, rfl, hid_ext _ _ h2, a, h1 H1 ι1 Stp.refl k1 _ (wk_items h2 r2 b)⟩
    · exact h1.elim
end
section
variable {ρ : Env} {m : Mem} {s : Sem} {QI : List D → Mem → Prop}
def kItems (QI : List D → Mem → Prop) : Vl → Mem → Prop := fun v m => match v with
  | .d (.dct kvs) => QI (kvs.map fun p => .tup [p.1, p.2]) m
  | _ => False
@[simp] theorem k_Items {kvs : List (D × D)} : kItems QI (.d (.dct kvs)) m = QI (kvs.map fun p => .tup [p.1, p.2]) m := rfl
@[simp] theorem w_Items : (sItems s ρ m).wp QI = (s ρ m).wp (kItems QI) := by
  unfold sItems; rw [wp_bind]; congr; funext v m1; unfold kItems; split <;> simp_all
end
end DL
/-! DLso: sorted of a list of data, of a dict's keys. -/
namespace DL
open PySem PySem.Spec PyProof.Rows L2 DLH

/-- data alike at each place -/
structure SortOk (xs : List D) : Prop where
  al : PySem.W.AllAlike (xs.map pyD)
  so : PySem.W.Sortable (xs.map pyD)
  sz : xs.length ≤ sizeLine
  pl : ∀ d ∈ xs, (pyD d).plain = true
  dp : ∀ d ∈ xs, (pyD d).depth ≤ 60
abbrev leDt : D → D → Bool := PySem.W.dataLe false pyD
open Classical in
noncomputable def sortD (xs : List D) : Option D := if SortOk xs then some (.lst (xs.mergeSort leDt)) else none
theorem sortD_ok {xs : List D} (h : SortOk xs) : sortD xs = some (.lst (xs.mergeSort leDt)) := by
  unfold sortD; exact if_pos h
noncomputable def sortedD : List D → Option D
  | [.lst xs] => sortD xs
  | _ => none
abbrev RDv (z : Z) (Hh : Hp) : Value → D → Prop := fun u d => ∃ x, RelV x u ∧ Rp z Hh x d
theorem each_rp {z : Z} {Hh : Hp} : ∀ {vs : List V} {us : List Value} {ds : List D}, Vals vs us → RpL z Hh vs ds → PySem.W.EachIs (RDv z Hh) us ds
  | _, _, _, .nil, .nil => .nil
  | _, _, _, .cons a b, .cons c d => .cons ⟨_, a, c⟩ (each_rp b d)
theorem rp_each {z : Z} {Hh : Hp} : ∀ {us : List Value} {ds : List D}, PySem.W.EachIs (RDv z Hh) us ds → ∃ vs, Vals vs us ∧ RpL z Hh vs ds
  | _, _, .nil => ⟨[], .nil, .nil⟩
  | _, _, .cons ⟨x, a, b⟩ r => let ⟨vs, c, d⟩ := rp_each r; ⟨x :: vs, .cons a c, .cons b d⟩
theorem each_reads {X : Cx} {pins : List (Addr × Obj)} {σ : L2.St} {H Hh : Hp} {s : Shared} {z : Z} (I : Inv X pins σ H s) (hK : X.K = z.K) (e : Ext Hh H) : ∀ {us : List Value} {ds : List D}, PySem.W.EachIs (RDv z Hh) us ds → (∀ d ∈ ds, (pyD d).plain = true) → PySem.W.EachIs (fun v b => ∃ as, Reads s.heap v (pyD b) as) us ds
  | _, _, .nil, _ => .nil
  | _, _, .cons ⟨x, a, b⟩ r, p => by
    have q := Dp.mono e (Rp.dp b (p _ List.mem_cons_self))
    rw [← hK] at q
    exact .cons (Dp.reads I _ _ _ q a) (each_reads I hK e r fun d h => p d (List.mem_cons_of_mem _ h))
section
variable {X : Cx} {z : Z}
theorem cg_sorted (hK : X.K = z.K) (hu : X.A.units + 200 < cLine) : CallR X (.builtin "sorted") (rC z sortedD) := by
  rintro pins s σ H xs us Q I rs ⟨L, ds, u, hL, hd, hg, q⟩
  unfold sortedD at hg
  split at hg
  · rename_i xs'
    cases hd with | cons hd hr => cases hr; obtain ⟨a, vs, rfl, h1, r1⟩ := hd
                                  unfold sortD at hg
                                  split at hg
                                  · rename_i ok
                                    cases hg
                                    obtain ⟨its, rv, hl, hz⟩ := I.list (SqL.of h1)
                                    rw [Vals.ref1 rs]
                                    have e := each_rp rv r1
                                    refine PySem.W.sorted_data (enc := pyD) hl.isList e (each_reads I hK hid_ext e ok.pl) ok.al ok.so ok.sz (fun d hd => ?_) fun out hlen eo => ?_
                                    · have := ok.dp d hd
                                      omega
                                    · obtain ⟨ws, g1, g2⟩ := rp_each eo
                                      obtain ⟨ep, he'⟩ := PyProof.Rows.sortedAll_at s.heap its out.toArray
                                      have hlen : ws.length ≤ sizeLine := by
                                        rw [g2.length, List.length_mergeSort]
                                        exact ok.sz
                                      exact ⟨.ref _, upd H (s.heap.objs.size + 1) (.lst ws), I.laid (t' := s.toks) (fun _ _ => PyProof.Rows.sortedAll_old) (Nat.le_succ _) ⟨hlen, out, ep, g1, he'⟩, rfl, q _ _ (Ext.new (I.hok.fresh (Nat.le_succ _))) (Rp.newL hL (I.hok.fresh (Nat.le_succ _)) g2)⟩
                                  · cases hg
  · cases hg
/-- sorted of a dict -/
def rSortN (z : Z) : List V → Hp → VK → Prop := fun vs H Q => ∃ (L : List Addr) (a : Addr) (xs : NEs) (ep : Nat) (kvs : List (D × D)), vs = [.ref a] ∧ H a = some (ndO z.P z.w a xs ep) ∧ NdR z (hid L H) xs kvs ∧ (∀ a ∈ L, ∃ o, H a = some o) ∧ SortOk (kvs.map Prod.fst) ∧
  ∀ w H', Ext H H' → Rp z (hid L H') w (.lst ((kvs.map Prod.fst).mergeSort leDt)) → Q w H'
theorem NdR.each {z : Z} {Hh : Hp} {xs : NEs} {kvs : List (D × D)} (h : NdR z Hh xs kvs) : ∀ {us : List Value}, us = xs.map (fun x => Value.ref x.2.1) → PySem.W.EachIs (RDv z Hh) us (kvs.map Prod.fst) := by
  induction h with
  | nil => rintro us rfl; exact .nil
  | cons h r ih => rintro us rfl; exact .cons ⟨.ref _, rfl, h.rk⟩ (ih rfl)
theorem cg_sortN (hK : X.K = z.K) (hP : X.prog = z.P) (hw : X.w = z.w) (hc : X.calm = true) (hu : X.A.units + 200 < cLine) : CallR X (.builtin "sorted") (rSortN z) := by
  intro pins s σ H vs us Q I r q
  obtain ⟨L, a, xs, ep, kvs, rfl, hd, nd, hL, ok, q⟩ := q
  rw [← hP, ← hw] at hd
  obtain ⟨lo, o, es, hg, hx, hdt, hsz, ent⟩ := nd_ent I hd
  obtain ⟨⟨_, hz, _⟩, _, _⟩ := I.hok a _ hd
  rw [Vals.ref1 r]
  have hes : es.size ≤ sizeLine := by rw [hsz]; exact hz
  refine Calls.call_function_entry PyProof.Rows.kind_sorted PyProof.Rows.plain_sorted PyProof.Rows.entry_sorted (PyProof.Rows.args_sorted1 _) ?_
  unfold Builtin.«sorted»
  refine wpAny_bind (m := checkCount "sorted" 1 1 _) (wpAny_pure ?_)
  refine wpAny_bind (PySem.W.kdu_collect (A := X.A.in1) (KdlSrc.rawDict (es := es) (ep := ep) lo) (I.ok.hd hc) ⟨o, hg, hx, hdt⟩ hes fun h' tk acc hk hacc => ?_)
  have hal : acc.toList = xs.map (fun x => Value.ref x.2.1) := by
    apply List.ext_getElem?
    intro j
    by_cases hj : j < xs.length
    · have hj' : j < acc.size := by rw [hacc.1, hsz]; exact hj
      have e1 : acc[j]? = some acc[j] := Array.getElem?_eq_getElem hj'
      obtain ⟨hi, e2⟩ := hacc.2 j _ e1
      have e3 : xs[j]? = some xs[j] := List.getElem?_eq_getElem hj
      obtain ⟨en, e4, e5, _⟩ := ent j xs[j].1 xs[j].2.1 xs[j].2.2 e3
      have e6 : es[j]? = some es[j] := Array.getElem?_eq_getElem hi
      rw [e6] at e4
      cases e4
      rw [Array.getElem?_toList, e1, e2, e5, List.getElem?_map, e3]
      rfl
    · rw [List.getElem?_eq_none (by rw [Array.length_toList, hacc.1, hsz]; omega), List.getElem?_eq_none (by rw [List.length_map]; omega)]
  have I1 : Inv X pins σ H { s with heap := h', toks := tk } := I.kept hk
  have hlen : acc.toList.length ≤ sizeLine := by rw [hal, List.length_map]; exact hz
  refine wpAny_bind (wpAny_newList ?_ hlen)
  have hoL : (h'.push (seqObj "list" acc.toList.toArray 0)).get? h'.objs.size = some (seqObj "list" acc.toList.toArray 0) := Heap.get?_push_size _ rfl
  show wpAny _ _ _ _ _ { s with heap := h'.push (seqObj "list" acc.toList.toArray 0), toks := tk }
  have e := nd.each hal
  have er := each_reads I1 hK hid_ext e ok.pl
  have er' : PySem.W.EachIs (fun v b => ∃ as, Reads (PySem.W.sortingHeap (h'.push (seqObj "list" acc.toList.toArray 0)) h'.objs.size acc.toList) v (pyD b) as) acc.toList (kvs.map Prod.fst) :=
    er.mono fun _ _ ⟨as, r⟩ => ⟨as, PyProof.Rows.Reads.keeps (fun b u hb => PySem.W.sortingHeap_old (Nat.ne_of_lt (Heap.lt_size hb)) (Heap.get?_push_of_some _ hb)) r⟩
  refine wpAny_bind (wpAny_holding (wpAny_call_entry PyProof.Rows.slot_list_sort ⟨_, hoL, rfl⟩ PyProof.Rows.entry_list_sort
    (PySem.W.list_sort_vals (s := { s with heap := h'.push (seqObj "list" acc.toList.toArray 0), toks := tk }) (κ := PySem.W.dataKind (PySem.W.sortingHeap (h'.push (seqObj "list" acc.toList.toArray 0)) h'.objs.size acc.toList) ((kvs.map Prod.fst).map pyD)) hoL (PySem.W.SortsAt.data (s := { s with heap := PySem.W.sortingHeap (h'.push (seqObj "list" acc.toList.toArray 0)) h'.objs.size acc.toList, toks := tk }) (PySem.W.each_map (R := fun v d => ∃ as, Reads (PySem.W.sortingHeap (h'.push (seqObj "list" acc.toList.toArray 0)) h'.objs.size acc.toList) v d as) pyD er') ok.al ok.so (fun d hd => ?_)) hlen ⟨_, rfl, ?_⟩) (PyProof.Rows.args_list_sort _)))
  · obtain ⟨b, hb, rfl⟩ := List.mem_map.mp hd
    have := ok.dp b hb
    have e1 : X.A.in1.in1.units = X.A.units + 1 + 1 := rfl
    rw [e1]
    omega
  · obtain ⟨ws, g1, g2⟩ := rp_each (PySem.W.sortVals_data (R := RDv z (hid L H)) false e er' ok.al)
    obtain ⟨e', he'⟩ := PyProof.Rows.sortedHeap_at (vs := acc.toList) (out := (PySem.W.sortVals (PySem.W.dataKind (PySem.W.sortingHeap (h'.push (seqObj "list" acc.toList.toArray 0)) h'.objs.size acc.toList) ((kvs.map Prod.fst).map pyD)) false acc.toList acc.toList).toArray) hoL
    have hlw : ws.length ≤ sizeLine := by rw [g2.length, List.length_mergeSort]; exact ok.sz
    refine wpAny_pure ⟨_, rfl, .ref h'.objs.size, upd H h'.objs.size (.lst ws), I1.laid (t' := tk) (fun b u e => ?_) (Nat.le_refl _)
      (show ObjOk X.prog X.w _ _ _ (.lst ws) from ⟨hlw, _, e', g1, he'⟩), rfl, q _ _ (Ext.new (I1.hok.fresh (Nat.le_refl _))) (Rp.newL hL (I1.hok.fresh (Nat.le_refl _)) g2)⟩
    have hb : b < h'.objs.size := Heap.lt_size e
    rw [PyProof.Rows.sortedHeap_old (Nat.ne_of_lt hb) (by rw [size_push']; exact Nat.lt_succ_of_lt hb)]
    exact Heap.get?_push_of_some _ e
end
section
variable {z : Z} {W : XK} {X : Cx} {pos xp p : Pos}
noncomputable def sSortK (i : Nat) : Sem := fun ρ m => match dctAt ρ i m with
  | some kvs => R.dat (sortD (kvs.map Prod.fst)) m
  | none => .no
theorem c_sortK (i : Nat) {x : Str} (g : Gc z W X) (hm : X.mg "sorted" = none) (hN : X.N[i]? = some x := by rfl) (hv : Vis X.env.scope x := by first | exact Or.inl rfl | exact Or.inr (Or.inl rfl) | exact Or.inr (Or.inr rfl)) (hd : (x == ("__debug__" : Str)) = false := by decide)
    (hcd : (x == ("__classdict__" : Str)) = false := by decide) (hg : Gl X "sorted" := by rfl)
    (hs : starEach [Expr.Name x xp] X.env = (false, eval (.Name x xp) X.env) :: starEach [] X.env := by rfl) (hpl : (backTo pos (starEach [] X.env)).any (·.1) = false := by rfl) : CE z W X (.Call (.Name "sorted" p) [.Name x xp] [] pos) (sSortK i) :=
  pe_mono (pe_callB (cg_sortN (z := z) g.hK g.pw.1 g.pw.2 g.calm g.hu) hg hm (by decide +kernel) (pa_cons (pe_var (i := i) hN hv hd hcd) pa_nil hs) (by decide) (by decide) hs hpl) fun σ H Q ⟨η, ι, ρ, m, ok, h⟩ => by
    unfold sSortK at h
    split at h
    · rename_i kvs hk
      obtain ⟨a, xs, ep, q1, e1, e2, e3⟩ := dct_of g ok hk
      rw [g.pw.1, g.pw.2] at e1
      unfold sortD at h
      split at h
      · rename_i so
        refine ⟨_, q1, η ++ liv ι m, a, xs, ep, kvs, rfl, e1, e3, ok.mem.hx, so, fun w H' ex r' => ?_⟩
        obtain ⟨st4, k4⟩ := Stp.grow ok.mem ex
        exact h H' ι st4 k4 w r'
      · exact h.elim
    · exact h.elim
variable {ρ : Env} {m : Mem} {i : Nat} {Q : Vl → Mem → Prop}
@[simp] theorem w_SortK : (sSortK i ρ m).wp Q = match dctAt ρ i m with
    | some kvs => datP (sortD (kvs.map Prod.fst)) m Q
    | none => False := by
  unfold sSortK
  split <;> simp_all [wp_dat]
end
end DL
/-! DLlc: comprehensions with two fors. -/
namespace DL
open PySem PySem.Spec PyProof.Rows L2 DLH
def lcGo2 (T : Tg) (t : SemT) (si1 : SemI) (vs1 : List Nat) (T1 : Tg) (t1 : SemT) (e : Sem) (ρ : Env) : List D → List D → Mem → R (List D)
  | [], acc, m => .ok acc m
  | x :: xs, acc, m => match T.g x ρ with
    | none => .no
    | some ρ1 => (t ρ1 m).noEr.bind fun b m1 => if b then ((si1 ρ1 m1).noEr.bind fun ys m2 => (lcGo T1 t1 e (wipeE ρ1 vs1) ys acc m2).bind fun acc1 m3 => lcGo2 T t si1 vs1 T1 t1 e ρ xs acc1 m3)
      else lcGo2 T t si1 vs1 T1 t1 e ρ xs acc m1
def sLcs2 (si : SemI) (vs : List Nat) (T : Tg) (t : SemT) (si1 : SemI) (vs1 : List Nat) (T1 : Tg) (t1 : SemT) (e : Sem) : Env → Mem → R (List D) := fun ρ m => (si ρ m).bind fun xs m1 => lcGo2 T t si1 vs1 T1 t1 e (wipeE ρ vs) xs [] m1
def sLc2 (si : SemI) (vs : List Nat) (T : Tg) (t : SemT) (si1 : SemI) (vs1 : List Nat) (T1 : Tg) (t1 : SemT) (e : Sem) : Sem := fun ρ m => (sLcs2 si vs T t si1 vs1 T1 t1 e ρ m).bind fun xs m1 => .ok (.d (.lst xs)) m1
section
variable {z : Z} {W : XK}
theorem lc2_of {si si1 : SemI} {vs vs1 : List Nat} {T T1 : Tg} {t t1 : SemT} {e : Sem} (hT : ∀ i ∈ T.at, i ∈ vs) (hT1 : ∀ i ∈ T1.at, i ∈ vs1) {σ : L2.St} {H : Hp} {Q : VK}
    (h : ∃ η ι ρ m, SOk z η ι m ρ σ H ∧ Post z W η ι m H (fun ι' m' H' xs => ∀ p ws, MOk z (p :: η) ι' m' H' → RpL z (hid ((p :: η) ++ liv ι' m') H') ws xs → H' p = some (.lst ws) → p ∉ η → (∀ b o, b ∉ liv ι m → H b = some o → b ≠ p) → Q (.ref p) H') (sLcs2 si vs T t si1 vs1 T1 t1 e ρ m)) :
    tLc2 (tI z W si) (T.t z.K) (tT z W0 t) (tI z W0 si1) (T1.t z.K) (tT z W0 t1) (tE z W0 e) vs vs1 σ H Q := by
  obtain ⟨η, ι, ρ, m, ok, h⟩ := h
  refine ⟨η, ι, ρ, m, ok, Post.mono (fun ι1 m1 H1 xs st1 k1 h1 J wk Dl hD => ?_) (Post.bind h)⟩
  obtain ⟨k2, ex2⟩ := k1.hide (ho := .lst []) hD
  have s1 := ok.step st1 k1
  have s2 : SOk z (Dl :: η) ι1 m1 ρ σ (upd H1 Dl (.lst [])) := ⟨k2, s1.len, fun i v e => by
    obtain ⟨x, q1, q2⟩ := s1.slot i v e
    refine ⟨x, q1, ?_⟩
    cases v with
    | d d => exact Rp.ext ex2 q2
    | p l => exact q2⟩
  let K := fun (ι' : List Addr) (m' : Mem) (H' : Hp) (xs : List D) => ∀ p ws, MOk z (p :: η) ι' m' H' → RpL z (hid ((p :: η) ++ liv ι' m') H') ws xs → H' p = some (.lst ws) → p ∉ η → (∀ b o, b ∉ liv ι m → H b = some o → b ≠ p) → Q (.ref p) H'
  refine ⟨fun i n Hc => ∃ ιc mc acc ws, n = xs.length - i ∧ i ≤ xs.length ∧ SOk z (Dl :: η) ιc mc (wipeE ρ vs) (L2.wipe σ vs) Hc ∧ Stp ι1 m1 H1 ιc mc Hc ∧ Hc Dl = some (.lst ws) ∧ RpL z (hid ((Dl :: η) ++ liv ιc mc) Hc) ws acc ∧
      Ext (hid (η ++ liv ι1 m1) H1) (hid ((Dl :: η) ++ liv ιc mc) Hc) ∧ Post z W η ι1 m1 H1 K (lcGo2 T t si1 vs1 T1 t1 e (wipeE ρ vs) (xs.drop i) acc mc), ⟨xs.length, ι1, m1, [], [], rfl, Nat.zero_le _, s2.wipe vs, ?_, upd_same, .nil, ex2, h1⟩, ?_⟩
  · exact (Stp.grow k1 (Ext.new hD)).1
  rintro i n Hc ⟨ιc, mc, acc, ws, rfl, hi, sc, stc, hDc, rc, exc, pc⟩
  by_cases hlt : i < xs.length
  · refine .inr ⟨wk.go _ _ i exc hlt, fun H' => ∃ n', n' < xs.length - i ∧ (∃ ιc mc acc ws, n' = xs.length - (i + 1) ∧ i + 1 ≤ xs.length ∧ SOk z (Dl :: η) ιc mc (wipeE ρ vs) (L2.wipe σ vs) H' ∧ Stp ι1 m1 H1 ιc mc H' ∧ H' Dl = some (.lst ws) ∧ RpL z (hid ((Dl :: η) ++ liv ιc mc) H') ws acc ∧
      Ext (hid (η ++ liv ι1 m1) H1) (hid ((Dl :: η) ++ liv ιc mc) H') ∧ Post z W η ι1 m1 H1 K (lcGo2 T t si1 vs1 T1 t1 e (wipeE ρ vs) (xs.drop (i + 1)) acc mc)), fun H' q => q, fun x H' y => ?_⟩
    have hget : xs[i]? = some xs[i] := List.getElem?_eq_getElem hlt
    obtain ⟨eg, rx⟩ := wk.yl _ _ i x H' xs[i] exc sc.mem.hx y hget
    obtain ⟨stg, kg⟩ := Stp.grow sc.mem eg
    have hd : xs.drop i = xs[i] :: xs.drop (i + 1) := by rw [List.drop_eq_getElem_cons hlt]
    rw [hd] at pc
    unfold lcGo2 at pc
    cases hg : T.g xs[i] (wipeE ρ vs) with
    | none => rw [hg] at pc; exact pc.elim
    | some ρ1 =>
      rw [hg] at pc
      dsimp only at pc
      refine tg_ok (sc.step stg kg) rx hg fun σ' s' w' => ⟨(w' vs hT).trans (wipe_wipe σ vs), ?_⟩
      have stx : Stp ι1 m1 H1 ιc mc H' := stc.trans stg
      -- the test
      refine ⟨Dl :: η, ιc, ρ1, mc, s', ?_⟩
      cases ht : t ρ1 mc with
      | no => rw [ht] at pc; exact pc.elim
      | er ex mm => rw [ht] at pc; exact pc.elim
      | ok b m3 =>
        rw [ht] at pc
        intro H3 ι3 st3 k3
        have pc : Post z W η ι1 m1 H1 K (if b then ((si1 ρ1 m3).noEr.bind fun ys m2 => (lcGo T1 t1 e (wipeE ρ1 vs1) ys acc m2).bind fun acc1 m3 => lcGo2 T t si1 vs1 T1 t1 e (wipeE ρ vs) (xs.drop (i + 1)) acc1 m3)
          else lcGo2 T t si1 vs1 T1 t1 e (wipeE ρ vs) (xs.drop (i + 1)) acc m3) := pc
        have hD3 : ∀ {ιz mz Hz}, Stp ιc mc H' ιz mz Hz → Hz Dl = some (.lst ws) := fun {ιz mz Hz} q => (q.fr Dl _ (fun z => sc.mem.dj Dl (liv_sub z) List.mem_cons_self) (eg _ _ hDc)).1
        have stt : Stp ι1 m1 H1 ι3 m3 H3 := stx.trans st3
        have sw3 : SOk z (Dl :: η) ι3 m3 (wipeE ρ vs) (L2.wipe σ vs) H3 := (sc.step stg kg).step st3 k3
        have ex3 : Ext (hid (η ++ liv ι1 m1) H1) (hid ((Dl :: η) ++ liv ι3 m3) H3) := exc.trans ((Stp.vis stg).trans (Stp.vis st3))
        have rc3 : RpL z (hid ((Dl :: η) ++ liv ι3 m3) H3) ws acc := (rc.ext (Stp.vis stg)).ext (Stp.vis st3)
        cases b with
        | false =>
          show (if false = true then _ else _)
          rw [if_neg Bool.false_ne_true] at pc ⊢
          exact ⟨_, by omega, ι3, m3, acc, ws, rfl, hlt, sw3, stt, hD3 st3, rc3, ex3, pc⟩
        | true =>
          show (if true = true then _ else _)
          rw [if_pos rfl] at pc ⊢
          have s3 := s'.step st3 k3
          refine ⟨Dl :: η, ι3, ρ1, m3, s3, ?_⟩
          cases he : si1 ρ1 m3 with
          | no => rw [he] at pc; exact pc.elim
          | er ex mm => rw [he] at pc; exact pc.elim
          | ok ys m4 =>
            rw [he] at pc
            intro H4 ι4 st4 k4 J1 wk1
            have pc : Post z W η ι1 m1 H1 K ((lcGo T1 t1 e (wipeE ρ1 vs1) ys acc m4).bind fun acc1 m3 => lcGo2 T t si1 vs1 T1 t1 e (wipeE ρ vs) (xs.drop (i + 1)) acc1 m3) := pc
            have sw4 := sw3.step st4 k4
            have s4 := s3.step st4 k4
            refine ⟨fun j k Hd => ∃ ιd md acc ws, k = ys.length - j ∧ j ≤ ys.length ∧ SOk z (Dl :: η) ιd md (wipeE ρ vs) (L2.wipe σ vs) Hd ∧ SOk z (Dl :: η) ιd md (wipeE ρ1 vs1) (L2.wipe σ' vs1) Hd ∧ Stp ι1 m1 H1 ιd md Hd ∧ Hd Dl = some (.lst ws) ∧ RpL z (hid ((Dl :: η) ++ liv ιd md) Hd) ws acc ∧
                Ext (hid (η ++ liv ι1 m1) H1) (hid ((Dl :: η) ++ liv ιd md) Hd) ∧ Ext (hid ((Dl :: η) ++ liv ι4 m4) H4) (hid ((Dl :: η) ++ liv ιd md) Hd) ∧
                Post z W η ι1 m1 H1 K ((lcGo T1 t1 e (wipeE ρ1 vs1) (ys.drop j) acc md).bind fun acc1 m3 => lcGo2 T t si1 vs1 T1 t1 e (wipeE ρ vs) (xs.drop (i + 1)) acc1 m3),
              ⟨ys.length, ι4, m4, acc, ws, rfl, Nat.zero_le _, sw4, s4.wipe vs1, stt.trans st4, hD3 (st3.trans st4), rc3.ext (Stp.vis st4), ex3.trans (Stp.vis st4), fun _ _ h => h, pc⟩, ?_⟩
            rintro j k Hd ⟨ιd, md, acc, ws, rfl, hj, swd, sd, std, hDd, rd, exd, exd4, pd⟩
            by_cases hjl : j < ys.length
            · refine .inr ⟨wk1.go _ _ j exd4 hjl, fun H' => ∃ k', k' < ys.length - j ∧ ∃ ιd md acc ws, k' = ys.length - (j + 1) ∧ j + 1 ≤ ys.length ∧ SOk z (Dl :: η) ιd md (wipeE ρ vs) (L2.wipe σ vs) H' ∧ SOk z (Dl :: η) ιd md (wipeE ρ1 vs1) (L2.wipe σ' vs1) H' ∧ Stp ι1 m1 H1 ιd md H' ∧ H' Dl = some (.lst ws) ∧ RpL z (hid ((Dl :: η) ++ liv ιd md) H') ws acc ∧
                Ext (hid (η ++ liv ι1 m1) H1) (hid ((Dl :: η) ++ liv ιd md) H') ∧ Ext (hid ((Dl :: η) ++ liv ι4 m4) H4) (hid ((Dl :: η) ++ liv ιd md) H') ∧
                Post z W η ι1 m1 H1 K ((lcGo T1 t1 e (wipeE ρ1 vs1) (ys.drop (j + 1)) acc md).bind fun acc1 m3 => lcGo2 T t si1 vs1 T1 t1 e (wipeE ρ vs) (xs.drop (i + 1)) acc1 m3), fun H' q => q, fun x H' y => ?_⟩
              have hget : ys[j]? = some ys[j] := List.getElem?_eq_getElem hjl
              obtain ⟨eg, rx⟩ := wk1.yl _ _ j x H' ys[j] exd4 sd.mem.hx y hget
              obtain ⟨stg, kg⟩ := Stp.grow sd.mem eg
              have hd : ys.drop j = ys[j] :: ys.drop (j + 1) := by rw [List.drop_eq_getElem_cons hjl]
              rw [hd] at pd
              unfold lcGo at pd
              cases hg : T1.g ys[j] (wipeE ρ1 vs1) with
              | none => rw [hg] at pd; exact pd.elim
              | some ρ2 =>
                rw [hg] at pd
                dsimp only at pd
                refine tg_ok (sd.step stg kg) rx hg fun σ2 s2' w2 => ⟨(w2 vs1 hT1).trans (wipe_wipe σ' vs1), ?_⟩
                have stx : Stp ι1 m1 H1 ιd md H' := std.trans stg
                refine ⟨Dl :: η, ιd, ρ2, md, s2', ?_⟩
                cases ht : t1 ρ2 md with
                | no => rw [ht] at pd; exact pd.elim
                | er ex mm => rw [ht] at pd; exact pd.elim
                | ok b m5 =>
                  rw [ht] at pd
                  intro H5 ι5 st5 k5
                  have pd : Post z W η ι1 m1 H1 K ((if b then ((e ρ2 m5).noEr.bind fun v m2 => match v with
                    | .d y => if acc.length < sizeLine then lcGo T1 t1 e (wipeE ρ1 vs1) (ys.drop (j + 1)) (acc ++ [y]) m2 else .no
                    | _ => .no) else lcGo T1 t1 e (wipeE ρ1 vs1) (ys.drop (j + 1)) acc m5).bind fun acc1 m3 => lcGo2 T t si1 vs1 T1 t1 e (wipeE ρ vs) (xs.drop (i + 1)) acc1 m3) := pd
                  have hD5 : ∀ {ιz mz Hz}, Stp ιd md H' ιz mz Hz → Hz Dl = some (.lst ws) := fun {ιz mz Hz} q => (q.fr Dl _ (fun z => sd.mem.dj Dl (liv_sub z) List.mem_cons_self) (eg _ _ hDd)).1
                  have stt5 : Stp ι1 m1 H1 ι5 m5 H5 := stx.trans st5
                  have sw5 : SOk z (Dl :: η) ι5 m5 (wipeE ρ vs) (L2.wipe σ vs) H5 := (swd.step stg kg).step st5 k5
                  have si5 : SOk z (Dl :: η) ι5 m5 (wipeE ρ1 vs1) (L2.wipe σ' vs1) H5 := (sd.step stg kg).step st5 k5
                  have ex5 : Ext (hid (η ++ liv ι1 m1) H1) (hid ((Dl :: η) ++ liv ι5 m5) H5) := exd.trans ((Stp.vis stg).trans (Stp.vis st5))
                  have ex54 : Ext (hid ((Dl :: η) ++ liv ι4 m4) H4) (hid ((Dl :: η) ++ liv ι5 m5) H5) := exd4.trans ((Stp.vis stg).trans (Stp.vis st5))
                  have rc5 : RpL z (hid ((Dl :: η) ++ liv ι5 m5) H5) ws acc := (rd.ext (Stp.vis stg)).ext (Stp.vis st5)
                  cases b with
                  | false =>
                    show (if false = true then _ else _)
                    rw [if_neg Bool.false_ne_true] at pd ⊢
                    exact ⟨_, by omega, ι5, m5, acc, ws, rfl, hjl, sw5, si5, stt5, hD5 st5, rc5, ex5, ex54, pd⟩
                  | true =>
                    show (if true = true then _ else _)
                    rw [if_pos rfl] at pd ⊢
                    refine ⟨Dl :: η, ι5, ρ2, m5, s2'.step st5 k5, ?_⟩
                    cases he : e ρ2 m5 with
                    | no => rw [he] at pd; exact pd.elim
                    | er ex mm => rw [he] at pd; exact pd.elim
                    | ok v m6 =>
                      rw [he] at pd
                      intro H6 ι6 st6 k6 y ry
                      cases v with
                      | p l => exact pd.elim
                      | d d =>
                        have pd : Post z W η ι1 m1 H1 K ((if acc.length < sizeLine then lcGo T1 t1 e (wipeE ρ1 vs1) (ys.drop (j + 1)) (acc ++ [d]) m6 else .no).bind fun acc1 m3 => lcGo2 T t si1 vs1 T1 t1 e (wipeE ρ vs) (xs.drop (i + 1)) acc1 m3) := pd
                        split at pd
                        · rename_i hz
                          have hD6 := hD5 (st5.trans st6)
                          have rc6 : RpL z (hid ((Dl :: η) ++ liv ι6 m6) H6) ws acc := rc5.ext (Stp.vis st6)
                          have ry : Rp z (hid ((Dl :: η) ++ liv ι6 m6) H6) y d := ry
                          obtain ⟨k7, e7⟩ := k6.hwrite (ho := .lst (ws ++ [y])) hD6
                          have sw6 := sw5.step st6 k6
                          have si6 := si5.step st6 k6
                          refine ⟨ws, hD6, by rw [rc6.length]; exact hz, _, by omega, ι6, m6, acc ++ [d], ws ++ [y], rfl, hjl, ⟨k7, sw6.len, fun j w q => ?_⟩, ⟨k7, si6.len, fun j w q => ?_⟩, ?_, upd_same, by rw [e7]; exact rc6.append (.cons ry .nil), by rw [e7]; exact ex5.trans (Stp.vis st6), by rw [e7]; exact ex54.trans (Stp.vis st6), pd⟩
                          · rw [e7]; exact sw6.slot j w q
                          · rw [e7]; exact si6.slot j w q
                          · have st := stt5.trans st6
                            refine ⟨st.pre, fun b o n q => ?_⟩
                            have nb : b ≠ Dl := fun z => by rw [z, hD] at q; cases q
                            rw [upd_ne nb]
                            exact st.fr b o n q
                        · exact pd.elim
            · have hl : j = ys.length := by omega
              subst hl
              refine .inl ⟨wk1.stop _ _ exd4, ?_⟩
              rw [List.drop_length] at pd
              exact ⟨_, by omega, ιd, md, acc, ws, rfl, hlt, swd, std, hDd, rd, exd, pd⟩
  · have hl : i = xs.length := by omega
    subst hl
    refine .inl ⟨wk.stop _ _ exc, ?_⟩
    rw [List.drop_length] at pc
    have pc : Post z W η ι1 m1 H1 K (.ok acc mc) := pc
    obtain ⟨ku, exu⟩ := sc.mem.unhide
    refine pc Hc ιc stc ku Dl ws sc.mem rc hDc (fun z => ?_) fun b o n q => ?_
    · obtain ⟨u, e⟩ := k1.ex Dl (.inl z)
      rw [hD] at e; cases e
    · obtain ⟨q1, n1⟩ := st1.fr b o n q
      exact fun z => by rw [z, hD] at q1; cases q1
end
section
variable {X : Cx} {z : Z} {W : XK} {elt tg iter tg1 iter1 : Expr} {ifs ifs1 : List Expr} {scope : Scope} {own : List (Str × Nat)} {pos : Pos} {si si1 : SemI} {vs1 : List Nat} {T T1 : Tg} {t t1 : SemT} {e : Sem}
theorem lc2_end {σ : L2.St} {H : Hp} {Q : VK} {vs : List Nat} (hT : ∀ i ∈ T.at, i ∈ vs) (hT1 : ∀ i ∈ T1.at, i ∈ vs1) (h : tE z W (sLc2 si vs T t si1 vs1 T1 t1 e) σ H Q) :
    tLc2 (tI z W si) (T.t z.K) (tT z W0 t) (tI z W0 si1) (T1.t z.K) (tT z W0 t1) (tE z W0 e) vs vs1 σ H Q := by
  obtain ⟨η, ι, ρ, m, ok, h⟩ := h
  refine lc2_of hT hT1 ⟨η, ι, ρ, m, ok, Post.mono (fun ι' m' H' xs st k h p ws k2 rp hp np nb => ?_) (Post.bind h)⟩
  obtain ⟨k3, ex⟩ := k2.unhide
  refine h H' ι' Stp.refl k _ (Rp.lst (hid_some.mpr ⟨fun q => ?_, hp⟩) (rp.ext ex))
  rcases List.mem_append.mp q with q | q
  · exact np q
  · exact k2.dj p (liv_sub q) List.mem_cons_self
theorem c_lc2 (vs1 : List Nat) (hK : X.K = z.K) (hc : X.calm = true) (hN : X.N.Nodup) (hi : CI z W X tg iter si) (ok : BlkOk X.N X.env.scope scope own)
    (hg : ∀ (s : Shared) (H : Hp) (C : Addr) (cl : List (Str × Addr)) (fp : List Addr), PG (X.blk s H scope (compEnvC scope cl C X.env) fp) tg (T.t X.K))
    (ht : ∀ (s : Shared) (H : Hp) (C : Addr) (cl : List (Str × Addr)) (fp : List Addr), CTs z (X.blk s H scope (compEnvC scope cl C X.env) fp) ifs t)
    (hi1 : ∀ (s : Shared) (H : Hp) (C : Addr) (cl : List (Str × Addr)) (fp : List Addr), CI z W0 (X.blk s H scope (compEnvC scope cl C X.env) fp) tg1 iter1 si1)
    (hg1 : ∀ (s : Shared) (H : Hp) (C : Addr) (cl : List (Str × Addr)) (fp : List Addr), PG (X.blk s H scope (compEnvC scope cl C X.env) fp) tg1 (T1.t X.K))
    (ht1 : ∀ (s : Shared) (H : Hp) (C : Addr) (cl : List (Str × Addr)) (fp : List Addr), CTs z (X.blk s H scope (compEnvC scope cl C X.env) fp) ifs1 t1)
    (he : ∀ (s : Shared) (H : Hp) (C : Addr) (cl : List (Str × Addr)) (fp : List Addr), CE z W0 (X.blk s H scope (compEnvC scope cl C X.env) fp) elt e)
    (hv : ∀ i ∈ vs1, i ∈ own.map (·.2) := by decide) (hT : ∀ i ∈ T.at, i ∈ own.map (·.2) := by decide) (hT1 : ∀ i ∈ T1.at, i ∈ vs1 := by decide) (hs : ∀ x, foldedSetIterable iter X.env x = pure x := by intro _; rfl) (hs1 : ∀ env x, foldedSetIterable iter1 env x = pure x := by intro _ _; rfl) :
    CE z W X (.ListComp elt [⟨tg, iter, ifs, 0⟩, ⟨tg1, iter1, ifs1, 0⟩] scope pos) (sLc2 si (own.map (·.2)) T t si1 vs1 T1 t1 e) := by
  rw [hK] at hg hg1
  exact pe_mono (pe_lc2 hc hN hi ok hv hg ht hi1 hg1 ht1 he hs hs1) fun σ H Q h => lc2_end hT hT1 h
theorem cs_setLc2 (vs1 : List Nat) (i : Nat) {y : Str} {py : Pos} {spos : Pos} (g : Gc z W X) (hi : CI z W X tg iter si) (ok : BlkOk X.N X.env.scope scope own)
    (hg : ∀ (s : Shared) (H : Hp) (C : Addr) (cl : List (Str × Addr)) (fp : List Addr), PG (X.blk s H scope (compEnvC scope cl C X.env) fp) tg (T.t X.K))
    (ht : ∀ (s : Shared) (H : Hp) (C : Addr) (cl : List (Str × Addr)) (fp : List Addr), CTs z (X.blk s H scope (compEnvC scope cl C X.env) fp) ifs t)
    (hi1 : ∀ (s : Shared) (H : Hp) (C : Addr) (cl : List (Str × Addr)) (fp : List Addr), CI z W0 (X.blk s H scope (compEnvC scope cl C X.env) fp) tg1 iter1 si1)
    (hg1 : ∀ (s : Shared) (H : Hp) (C : Addr) (cl : List (Str × Addr)) (fp : List Addr), PG (X.blk s H scope (compEnvC scope cl C X.env) fp) tg1 (T1.t X.K))
    (ht1 : ∀ (s : Shared) (H : Hp) (C : Addr) (cl : List (Str × Addr)) (fp : List Addr), CTs z (X.blk s H scope (compEnvC scope cl C X.env) fp) ifs1 t1)
    (he : ∀ (s : Shared) (H : Hp) (C : Addr) (cl : List (Str × Addr)) (fp : List Addr), CE z W0 (X.blk s H scope (compEnvC scope cl C X.env) fp) elt e)
    (hy : X.N[i]? = some y := by rfl) (hyl : X.env.scope.names.lookup y = some .local := by rfl)
    (hv : ∀ i ∈ vs1, i ∈ own.map (·.2) := by decide) (hT : ∀ i ∈ T.at, i ∈ own.map (·.2) := by decide) (hT1 : ∀ i ∈ T1.at, i ∈ vs1 := by decide)
    (hsw : swapsWith (.ListComp elt [⟨tg, iter, ifs, 0⟩, ⟨tg1, iter1, ifs1, 0⟩] scope pos) (some (.Name y py)) spos.line X.env = pure true := by rfl)
    (hs : ∀ x, foldedSetIterable iter X.env x = pure x := by intro _; rfl) (hs1 : ∀ env x, foldedSetIterable iter1 env x = pure x := by intro _ _; rfl) :
    CS z W X (.Assign [.Name y py] (.ListComp elt [⟨tg, iter, ifs, 0⟩, ⟨tg1, iter1, ifs1, 0⟩] scope pos) spos) (sSet i (sLc2 si (own.map (·.2)) T t si1 vs1 T1 t1 e)) := by
  have hK := g.hK
  rw [hK] at hg hg1
  exact ps_mono (ps_setLc2 g.calm g.nd hy hyl hsw hi ok hv hg ht hi1 hg1 ht1 he hs hs1) fun D σ H h => by
    obtain ⟨η, ι, ρ, m, ok, h⟩ := h
    refine lc2_end (z := z) (W := W) hT hT1 ⟨η, ι, ρ, m, ok, Post.mono (fun ι' m' H' v st k h x rx => ?_) (Post.bind h)⟩
    exact h H' ι' Stp.refl k _ ((ok.step st k).set rx)
end
section
variable {ρ : Env} {m : Mem} {xs acc : List D} {it it1 : SemI} {is vs1 : List Nat} {T T1 : Tg} {t t1 : SemT} {s : Sem} {Q : Vl → Mem → Prop} {QI : List D → Mem → Prop} {d : D}
def kLc2 (vs : List Nat) (T : Tg) (t : SemT) (si1 : SemI) (vs1 : List Nat) (T1 : Tg) (t1 : SemT) (s : Sem) (ρ : Env) (Q : List D → Mem → Prop) : List D → Mem → Prop := fun xs m => (lcGo2 T t si1 vs1 T1 t1 s (wipeE ρ vs) xs [] m).wp Q
@[simp] theorem k_Lc2 : kLc2 is T t it1 vs1 T1 t1 s ρ QI xs m = (lcGo2 T t it1 vs1 T1 t1 s (wipeE ρ is) xs [] m).wp QI := rfl
@[simp] theorem w_Lc2 : (sLc2 it is T t it1 vs1 T1 t1 s ρ m).wp Q = (it ρ m).wp (kLc2 is T t it1 vs1 T1 t1 s ρ (kLst1 Q)) := by
  unfold sLc2 sLcs2; rw [wp_bind, wp_bind]; rfl
@[simp] theorem lcGo2_nil : (lcGo2 T t it1 vs1 T1 t1 s ρ [] acc m).wp QI = QI acc m := rfl
/-- over things told by a code -/
theorem lc_mapL {α : Type} {enc g : α → D} : ∀ {L : List α} {acc : List D}, acc.length + L.length ≤ 16777216 → (∀ x ∈ L, ∃ ρ1, T.g (enc x) ρ = some ρ1 ∧ (s ρ1 m).wp fun v m' => v = .d (g x) ∧ m' = m) → QI (acc ++ L.map g) m → (lcGo T tYes s ρ (L.map enc) acc m).wp QI := by
  intro L
  induction L with
  | nil => intro acc _ _ fin; simpa using fin
  | cons x L ih =>
    intro acc hl step fin
    obtain ⟨ρ1, hg, hs⟩ := step x (by simp)
    rw [List.map_cons]
    unfold lcGo
    rw [hg]
    dsimp only
    rw [wp_bind, wp_noEr, w_Yes, if_pos rfl, wp_bind, wp_noEr]
    refine wp_mono hs ?_
    rintro _ _ ⟨rfl, rfl⟩
    simp only [List.length_cons] at hl
    have h16 : acc.length < sizeLine := by rw [sz_eq]; omega
    dsimp only
    rw [if_pos h16]
    exact ih (by simp; omega) (fun y hy => step y (by simp [hy])) (by simpa using fin)
/-- .. with a test -/
theorem lc_filL {α : Type} {enc g : α → D} {p : α → Bool} {t : SemT} : ∀ {L : List α} {acc : List D}, acc.length + L.length ≤ 16777216 → (∀ x ∈ L, ∃ ρ1, T.g (enc x) ρ = some ρ1 ∧ (t ρ1 m).wp (fun b m' => b = p x ∧ m' = m) ∧ (p x = true → (s ρ1 m).wp fun v m' => v = .d (g x) ∧ m' = m)) → QI (acc ++ (L.filter p).map g) m → (lcGo T t s ρ (L.map enc) acc m).wp QI := by
  intro L
  induction L with
  | nil => intro acc _ _ fin; simpa using fin
  | cons x L ih =>
    intro acc hl step fin
    obtain ⟨ρ1, hg, ht, hs⟩ := step x (by simp)
    rw [List.map_cons]
    unfold lcGo
    rw [hg]
    dsimp only
    rw [wp_bind, wp_noEr]
    refine wp_mono ht ?_
    rintro _ _ ⟨rfl, rfl⟩
    simp only [List.length_cons] at hl
    by_cases hp : p x = true
    · rw [if_pos hp, wp_bind, wp_noEr]
      refine wp_mono (hs hp) ?_
      rintro _ _ ⟨rfl, rfl⟩
      have h16 : acc.length < sizeLine := by rw [sz_eq]; omega
      dsimp only
      rw [if_pos h16]
      exact ih (by simp; omega) (fun y hy => step y (by simp [hy])) (by simpa [List.filter_cons, hp] using fin)
    · rw [if_neg hp]
      exact ih (by omega) (fun y hy => step y (by simp [hy])) (by simpa [List.filter_cons, hp] using fin)
theorem lc2_mapL {α : Type} {enc : α → D} {g : α → List D} : ∀ {L : List α} {acc : List D}, acc.length + (L.flatMap g).length ≤ 16777216 →
    (∀ x ∈ L, ∃ ρ1, T.g (enc x) ρ = some ρ1 ∧ (it1 ρ1 m).wp fun ys m1 => m1 = m ∧ ∀ acc : List D, acc.length + (g x).length ≤ 16777216 → (lcGo T1 t1 s (wipeE ρ1 vs1) ys acc m).wp fun acc1 m2 => acc1 = acc ++ g x ∧ m2 = m) →
    QI (acc ++ L.flatMap g) m → (lcGo2 T tYes it1 vs1 T1 t1 s ρ (L.map enc) acc m).wp QI := by
  intro L
  induction L with
  | nil => intro acc _ _ fin; simpa using fin
  | cons x L ih =>
    intro acc hl step fin
    obtain ⟨ρ1, hg, hi⟩ := step x (by simp)
    rw [List.map_cons]
    unfold lcGo2
    rw [hg]
    dsimp only
    rw [wp_bind, wp_noEr, w_Yes, if_pos rfl, wp_bind, wp_noEr]
    rw [List.flatMap_cons, List.length_append] at hl
    refine wp_mono hi ?_
    rintro ys _ ⟨rfl, h2⟩
    rw [wp_bind]
    refine wp_mono (h2 acc (by omega)) ?_
    rintro _ _ ⟨rfl, rfl⟩
    exact ih (by rw [List.length_append]; omega) (fun y hy => step y (by simp [hy])) (by simpa [List.append_assoc] using fin)
end
end DL
/-! DLfm: regions, forms of a lag in them; plain. -/
namespace DL
structure Rg where
  w : Int
  b : Bool
  r : Int
  s : Bool
  o : Int
  deriving DecidableEq
namespace Rg
def i01 (b : Bool) : Int := if b = true then 1 else 0
/-- the play and the slack of a region, in thirds -/
def P3 (x : Rg) : Int := 3 * x.w + (if x.b && x.s then 1 + i01 (decide (x.o = -1)) else i01 x.b)
def S3 (x : Rg) : Int := 3 * x.r + (if x.b && x.s then 1 + i01 (decide (x.o = 1)) else i01 x.s)
/-- what all regions are -/
structure Vd (x : Rg) : Prop where
  r0 : 0 ≤ x.r
  rw : x.r ≤ x.w
  o : if x.b && x.s then -1 ≤ x.o ∧ x.o ≤ 1 else x.o = i01 x.s - i01 x.b
  e : x.r = x.w → x.o ≤ 0
theorem Vd.le {x : Rg} (v : Vd x) : 0 ≤ x.S3 ∧ x.S3 ≤ x.P3 := by
  obtain ⟨w, b, r, s, o⟩ := x
  obtain ⟨h1, h2, h3, h4⟩ := v
  simp only [P3, S3] at *
  cases b <;> cases s <;> simp [i01] at h3 ⊢
  · omega
  · subst h3
    have : r ≠ w := fun e => by have := h4 e; omega
    omega
  · omega
  · rcases (by omega : o = -1 ∨ o = 0 ∨ o = 1) with rfl | rfl | rfl
    · simp; omega
    · simp; omega
    · have : r ≠ w := fun e => by have := h4 e; omega
      simp; omega
def sg (n : Int) : Int := i01 (decide (n > 0)) - i01 (decide (n < 0))
/-- a form: a number, so many times the slack, so many times the play -/
structure Form where
  n : Int
  r : Int
  q : Int
  deriving DecidableEq
def Form.at3 (f : Form) (x : Rg) : Int := 3 * f.n + f.r * x.S3 + f.q * x.P3
def Form.at1 (f : Form) (p s : Int) : Int := f.n + f.r * s + f.q * p
/-- the law's sign of a form in a region -/
def fsg (f : Form) (x : Rg) : Int :=
  if f.n + f.r * x.r + f.q * x.w ≠ 0 then sg (f.n + f.r * x.r + f.q * x.w)
  else if f.r = 1 ∧ f.q = -1 then x.o else f.r * i01 x.s + f.q * i01 x.b
def Kind (f : Form) : Prop := (f.r = 0 ∧ f.q = 0) ∨ (f.r = 1 ∧ f.q = 0) ∨ (f.r = 0 ∧ f.q = 1) ∨ (f.r = 0 ∧ f.q = -1) ∨ (f.r = 1 ∧ f.q = -1)
theorem sg_pos {n : Int} (h : 0 < n) : sg n = 1 := by simp [sg, i01]; omega
theorem sg_neg {n : Int} (h : n < 0) : sg n = -1 := by simp [sg, i01]; omega
@[simp] theorem sg_0 : sg 0 = 0 := rfl
theorem sg_cases (n : Int) : (0 < n ∧ sg n = 1) ∨ (n < 0 ∧ sg n = -1) ∨ (n = 0 ∧ sg n = 0) := by
  rcases Int.lt_trichotomy n 0 with h | h | h
  · exact .inr (.inl ⟨h, sg_neg h⟩)
  · subst h; exact .inr (.inr ⟨rfl, rfl⟩)
  · exact .inl ⟨h, sg_pos h⟩
theorem sg_iff {n m : Int} (h1 : 0 < n ↔ 0 < m) (h2 : n < 0 ↔ m < 0) : sg n = sg m := by
  rcases sg_cases n with ⟨a, e⟩ | ⟨a, e⟩ | ⟨a, e⟩ <;> rcases sg_cases m with ⟨c, g⟩ | ⟨c, g⟩ | ⟨c, g⟩ <;> rw [e, g] <;> omega
theorem fsg_eq {f : Form} {x : Rg} (v : Vd x) (k : Kind f) : fsg f x = sg (f.at3 x) := by
  obtain ⟨w, b, r, s, o⟩ := x
  obtain ⟨n, a, c⟩ := f
  obtain ⟨h1, h2, h3, h4⟩ := v
  simp only [Kind] at k
  simp only [fsg, Form.at3, P3, S3] at *
  have sgd : ∀ m : Int, sg m = (if m > 0 then 1 else 0) - (if m < 0 then 1 else 0) := fun m => by simp [sg, i01]
  simp only [sgd]
  rcases k with ⟨rfl, rfl⟩ | ⟨rfl, rfl⟩ | ⟨rfl, rfl⟩ | ⟨rfl, rfl⟩ | ⟨rfl, rfl⟩ <;> cases b <;> cases s <;> simp [i01] at h3 ⊢
  all_goals try subst h3
  all_goals try (rcases (by omega : o = -1 ∨ o = 0 ∨ o = 1) with rfl | rfl | rfl)
  all_goals try simp only [Int.reduceEq, if_true, if_false, reduceIte]
  all_goals (repeat' split) <;> omega
/-- what a form is at the corners, against its sign in the region -/
def corners (x : Rg) : List (Int × Int) :=
  if x.b && x.s then (x.w, x.r) :: (x.w + 1, x.r + 1) :: (if x.o < 0 then [(x.w + 1, x.r)] else if 0 < x.o then [(x.w, x.r + 1)] else [])
  else if x.b then [(x.w, x.r), (x.w + 1, x.r)] else if x.s then [(x.w, x.r), (x.w, x.r + 1)] else [(x.w, x.r)]
theorem at_corner {f : Form} {x : Rg} (v : Vd x) (k : Kind f) {p s : Int} (h : (p, s) ∈ corners x) : (0 < f.at3 x → 0 ≤ f.at1 p s) ∧ (f.at3 x < 0 → f.at1 p s ≤ 0) ∧ (f.at3 x = 0 → f.at1 p s = 0) := by
  obtain ⟨w, b, r, s', o⟩ := x
  obtain ⟨n, a, c⟩ := f
  obtain ⟨h1, h2, h3, h4⟩ := v
  simp only [Kind] at k
  simp only [corners, Form.at1, Form.at3, P3, S3] at *
  rcases k with ⟨rfl, rfl⟩ | ⟨rfl, rfl⟩ | ⟨rfl, rfl⟩ | ⟨rfl, rfl⟩ | ⟨rfl, rfl⟩ <;> cases b <;> cases s' <;> simp [i01] at h3 h ⊢
  all_goals try subst h3
  all_goals try (rcases (by omega : o = -1 ∨ o = 0 ∨ o = 1) with rfl | rfl | rfl)
  all_goals try simp at h
  all_goals try simp only [Int.reduceEq, if_true, if_false, reduceIte]
  all_goals omega
/-- a form that is 0 at all corners is 0 in the region -/
theorem zero_of {f : Form} {x : Rg} (v : Vd x) (k : Kind f) (h : ∀ c ∈ corners x, f.at1 c.1 c.2 = 0) : f.at3 x = 0 := by
  obtain ⟨w, b, r, s', o⟩ := x
  obtain ⟨n, a, c⟩ := f
  obtain ⟨h1, h2, h3, h4⟩ := v
  simp only [Kind] at k
  simp only [corners, Form.at1, Form.at3, P3, S3] at *
  rcases k with ⟨rfl, rfl⟩ | ⟨rfl, rfl⟩ | ⟨rfl, rfl⟩ | ⟨rfl, rfl⟩ | ⟨rfl, rfl⟩ <;> cases b <;> cases s' <;> simp [i01] at h3 h ⊢
  all_goals try subst h3
  all_goals try (rcases (by omega : o = -1 ∨ o = 0 ∨ o = 1) with rfl | rfl | rfl)
  all_goals try simp at h
  all_goals try simp only [Int.reduceEq, if_true, if_false, reduceIte]
  all_goals try omega
/-- corners are plays and slacks -/
theorem corner_ok {x : Rg} (v : Vd x) {p s : Int} (h : (p, s) ∈ corners x) : 0 ≤ s ∧ s ≤ p ∧ x.w ≤ p ∧ p ≤ x.w + i01 x.b := by
  obtain ⟨w, b, r, s', o⟩ := x
  obtain ⟨h1, h2, h3, h4⟩ := v
  simp only [corners] at *
  cases b <;> cases s' <;> simp [i01] at h3 h ⊢
  all_goals try subst h3
  all_goals try (rcases (by omega : o = -1 ∨ o = 0 ∨ o = 1) with rfl | rfl | rfl)
  all_goals try simp at h
  all_goals try omega
/-! ### the lag as a form -/
def Form.add (f : Form) (k : Int) : Form := ⟨f.n + k, f.r, f.q⟩
def Form.less (f g : Form) : Form := ⟨f.n - g.n, f.r - g.r, f.q - g.q⟩
def fP : Form := ⟨0, 0, 1⟩
def f0 : Form := ⟨0, 0, 0⟩
def fS : Form := ⟨0, 1, 0⟩
def lagF (f : Form) (k : Int) (x : Rg) : Form :=
  if 0 < k ∧ 0 ≤ fsg ((f.add k).less fP) x then fP else if k < 0 ∧ fsg (f.add k) x ≤ 0 then f0 else f.add k
/-- the forms that a lag can have -/
def LK (f : Form) : Prop := (f.r = 0 ∧ f.q = 0) ∨ (f.r = 1 ∧ f.q = 0) ∨ (f.r = 0 ∧ f.q = 1)
theorem LK.k {f : Form} (h : LK f) : Kind f := by
  rcases h with h | h | h
  · exact .inl h
  · exact .inr (.inl h)
  · exact .inr (.inr (.inl h))
theorem LK.add {f : Form} (h : LK f) (k : Int) : LK (f.add k) := h
theorem LK.less {f : Form} (h : LK f) (k : Int) : Kind ((f.add k).less fP) := by
  rcases h with ⟨h1, h2⟩ | ⟨h1, h2⟩ | ⟨h1, h2⟩ <;> simp [Kind, Form.less, Form.add, fP, h1, h2]
theorem LK.lag {f : Form} (h : LK f) (k : Int) (x : Rg) : LK (lagF f k x) := by
  unfold lagF
  split
  · exact .inr (.inr ⟨rfl, rfl⟩)
  · split
    · exact .inl ⟨rfl, rfl⟩
    · exact h
theorem add_at3 (f : Form) (k : Int) (x : Rg) : (f.add k).at3 x = f.at3 x + 3 * k := by simp [Form.at3, Form.add]; omega
theorem less_at3 (f : Form) (x : Rg) : (f.less fP).at3 x = f.at3 x - x.P3 := by simp [Form.at3, Form.less, fP, Int.sub_mul]; omega
theorem add_at1 (f : Form) (k p s : Int) : (f.add k).at1 p s = f.at1 p s + k := by simp [Form.at1, Form.add]; omega
theorem less_at1 (f : Form) (p s : Int) : (f.less fP).at1 p s = f.at1 p s - p := by simp [Form.at1, Form.less, fP, Int.sub_mul]; omega
@[simp] theorem fP_at3 (x : Rg) : fP.at3 x = x.P3 := by simp [Form.at3, fP]
@[simp] theorem f0_at3 (x : Rg) : f0.at3 x = 0 := by simp [Form.at3, f0]
@[simp] theorem fS_at3 (x : Rg) : fS.at3 x = x.S3 := by simp [Form.at3, fS]
@[simp] theorem fP_at1 (p s : Int) : fP.at1 p s = p := by simp [Form.at1, fP]
@[simp] theorem f0_at1 (p s : Int) : f0.at1 p s = 0 := by simp [Form.at1, f0]
@[simp] theorem fS_at1 (p s : Int) : fS.at1 p s = s := by simp [Form.at1, fS]
theorem sg_nn {n : Int} : 0 ≤ sg n ↔ 0 ≤ n := by rcases sg_cases n with ⟨a, e⟩ | ⟨a, e⟩ | ⟨a, e⟩ <;> omega
theorem sg_np {n : Int} : sg n ≤ 0 ↔ n ≤ 0 := by rcases sg_cases n with ⟨a, e⟩ | ⟨a, e⟩ | ⟨a, e⟩ <;> omega
/-- a clamp, in plain words -/
def clp (P v : Int) : Int := if P < (if v > 0 then v else 0) then P else if v > 0 then v else 0
theorem lag_at3 {f : Form} {x : Rg} (v : Vd x) (h : LK f) (h0 : 0 ≤ f.at3 x) (h1 : f.at3 x ≤ x.P3) (k : Int) : (lagF f k x).at3 x = clp x.P3 (f.at3 x + 3 * k) := by
  have e1 := fsg_eq v (h.less k)
  have e2 := fsg_eq v (LK.k (h.add k))
  unfold lagF clp
  simp only [e1, e2, sg_nn, sg_np, less_at3, add_at3]
  have := v.le
  split
  · rw [fP_at3]; split <;> split <;> omega
  · split
    · rw [f0_at3]; split <;> split <;> omega
    · rw [add_at3]; split <;> split <;> omega
theorem lag_at1 {f : Form} {x : Rg} (v : Vd x) (h : LK f) {p s : Int} (hc : (p, s) ∈ corners x) (h0 : 0 ≤ f.at1 p s) (h1 : f.at1 p s ≤ p) (k : Int) : (lagF f k x).at1 p s = clp p (f.at1 p s + k) := by
  have e1 := fsg_eq v (h.less k)
  have e2 := fsg_eq v (LK.k (h.add k))
  have c1 := at_corner v (h.less k) hc
  have c2 := at_corner v (LK.k (h.add k)) hc
  have := corner_ok v hc
  rw [less_at1, add_at1] at c1
  rw [add_at1] at c2
  unfold lagF clp
  simp only [e1, e2, sg_nn, sg_np]
  split
  · rw [fP_at1]; split <;> split <;> omega
  · split
    · rw [f0_at1]; split <;> split <;> omega
    · rw [add_at1]; split <;> split <;> omega
end Rg
end DL
/-! DLrg: all regions of a machine: their order, their list. -/
namespace DL
open PySem PySem.Spec PyProof.Rows L2 DLH
namespace Rg
def d (x : Rg) : D := .tup [.int x.w, .bl x.b, .int x.r, .bl x.s, .int x.o]
def k (x : Rg) : NestedKey := .tup [.num x.w, .num (i01 x.b), .num x.r, .num (i01 x.s), .num x.o]
@[simp] theorem key (x : Rg) : keyD x.d = some x.k := by simp [d, k, keyD, keyDs, i01]
theorem k_inj {x y : Rg} : x.k = y.k ↔ x = y := by
  obtain ⟨a, b, c, e, f⟩ := x
  obtain ⟨a', b', c', e', f'⟩ := y
  simp only [k, NestedKey.tup.injEq, List.cons.injEq, NestedKey.num.injEq, Rg.mk.injEq, and_true]
  cases b <;> cases b' <;> cases e <;> cases e' <;> simp [i01]
theorem k_deep (x : Rg) : x.k.depth ≤ 8 := by simp [k, NestedKey.depth, NestedKey.depthAll]
theorem d_inj {x y : Rg} : x.d = y.d ↔ x = y := by
  obtain ⟨a, b, c, e, f⟩ := x
  obtain ⟨a', b', c', e', f'⟩ := y
  simp [d]
def lt (x y : Rg) : Bool := if x.w = y.w then if x.b = y.b then if x.r = y.r then if x.s = y.s then decide (x.o < y.o) else (!x.s && y.s) else decide (x.r < y.r) else (!x.b && y.b) else decide (x.w < y.w)
theorem lt_eq {x y : Rg} (h1 : lt x y = false) (h2 : lt y x = false) : x = y := by
  obtain ⟨a, b, c, e, f⟩ := x
  obtain ⟨a', b', c', e', f'⟩ := y
  simp only [lt] at h1 h2
  simp only [Rg.mk.injEq]
  by_cases q1 : a = a'
  · subst q1
    by_cases q2 : b = b'
    · subst q2
      by_cases q3 : c = c'
      · subst q3
        by_cases q4 : e = e'
        · subst q4
          simp at h1 h2
          exact ⟨rfl, rfl, rfl, rfl, by omega⟩
        · rw [if_pos rfl, if_pos rfl, if_pos rfl, if_neg q4] at h1
          rw [if_pos rfl, if_pos rfl, if_pos rfl, if_neg (fun h => q4 h.symm)] at h2
          revert h1 h2 q4; cases e <;> cases e' <;> simp
      · rw [if_pos rfl, if_pos rfl, if_neg q3] at h1
        rw [if_pos rfl, if_pos rfl, if_neg (fun h => q3 h.symm)] at h2
        simp at h1 h2; omega
    · rw [if_pos rfl, if_neg q2] at h1
      rw [if_pos rfl, if_neg (fun h => q2 h.symm)] at h2
      revert h1 h2 q2; cases b <;> cases b' <;> simp
  · rw [if_neg q1] at h1
    rw [if_neg (fun h => q1 h.symm)] at h2
    simp at h1 h2; omega
theorem dlt (x y : Rg) : PySem.W.dataLt (pyD x.d) (pyD y.d) = lt x y := by
  obtain ⟨a, b, c, e, f⟩ := x
  obtain ⟨a', b', c', e', f'⟩ := y
  simp only [d, pyD, pyDs, PySem.W.dataLt_tuple]
  rw [PySem.W.dataLt_cons (by simp [PySem.W.alike]), PySem.W.dataLt_cons (by simp [PySem.W.alike]), PySem.W.dataLt_cons (by simp [PySem.W.alike]), PySem.W.dataLt_cons (by simp [PySem.W.alike]), PySem.W.dataLt_cons (by simp [PySem.W.alike])]
  have e0 : PyProof.Rows.lexLt itemOrd (PySem.W.keyToksAll []) (PySem.W.keyToksAll []) = false := by decide
  rw [e0]
  simp only [PySem.W.dataLt_int, PySem.W.dataLt_bool, PyData.eqv, lt, beq_iff_eq]
  have hb : ∀ p q : Bool, decide (b2i p < b2i q) = (!p && q) := by decide
  rw [hb, hb]
  have hf : (if f = f' then false else decide (f < f')) = decide (f < f') := by
    split
    · subst f'; simp
    · rfl
  rw [hf]
def ord (x : Rg) : List Rg → List Rg
  | [] => [x]
  | y :: ys => if lt y x then y :: ord x ys else x :: y :: ys
def isort : List Rg → List Rg
  | [] => []
  | x :: xs => ord x (isort xs)
theorem ord_perm (x : Rg) : ∀ ys : List Rg, (ord x ys).Perm (x :: ys)
  | [] => .refl _
  | y :: ys => by
    unfold ord
    split
    · exact ((ord_perm x ys).cons y).trans (.swap x y ys)
    · exact .refl _
theorem isort_perm : ∀ xs : List Rg, (isort xs).Perm xs
  | [] => .refl _
  | x :: xs => (ord_perm x _).trans ((isort_perm xs).cons x)
def le (x y : Rg) : Bool := !lt y x
theorem le_d (x y : Rg) : leDt x.d y.d = le x y := by
  show (!PySem.W.dataLt (pyD y.d) (pyD x.d)) = _
  rw [dlt]; rfl
theorem le_total : PySem.W.TotalLe le := by
  have h := PySem.W.sortLe_total (listOrd itemOrd) false (fun b : Rg => PySem.W.keyToks (pyD b.d))
  have e : PySem.W.sortLe (listOrd itemOrd) false (fun b : Rg => PySem.W.keyToks (pyD b.d)) = le := by
    funext x y
    exact le_d x y
  rw [e] at h
  exact h
theorem ord_sorted (x : Rg) : ∀ {ys : List Rg}, ys.Pairwise (fun a b => le a b = true) → (ord x ys).Pairwise (fun a b => le a b = true)
  | [], _ => by unfold ord; simp
  | y :: ys, h => by
    unfold ord
    obtain ⟨h1, h2⟩ := List.pairwise_cons.mp h
    split
    · rename_i hl
      refine List.pairwise_cons.mpr ⟨fun z hz => ?_, ord_sorted x h2⟩
      rcases List.mem_cons.mp ((ord_perm x ys).mem_iff.mp hz) with rfl | hz
      · rcases le_total.total y z with q | q
        · exact q
        · unfold le at q; rw [hl] at q; cases q
      · exact h1 z hz
    · rename_i hl
      have hxy : le x y = true := by unfold le; simpa using hl
      refine List.pairwise_cons.mpr ⟨fun z hz => ?_, h⟩
      rcases List.mem_cons.mp hz with rfl | hz
      · exact hxy
      · exact le_total.trans _ _ _ hxy (h1 z hz)
theorem isort_sorted : ∀ xs : List Rg, (isort xs).Pairwise (fun a b => le a b = true)
  | [] => .nil
  | x :: xs => ord_sorted x (isort_sorted xs)
theorem merge_eq (L : List Rg) : (L.map d).mergeSort leDt = (isort L).map d := by
  rw [← PySem.W.sort_maps (r := le) d (fun a _ b _ => (le_d a b).symm)]
  congr 1
  exact List.Perm.eq_of_pairwise (le := fun a b => le a b = true) (fun a b _ _ h1 h2 => by
    unfold le at h1 h2
    exact lt_eq (by simpa using h2) (by simpa using h1)) (PySem.W.sort_pairwise le_total L) (isort_sorted L) ((List.mergeSort_perm L le).trans (isort_perm L).symm)
theorem sort_ok {L : List Rg} (h : L.length ≤ sizeLine) : sortD (L.map d) = some (.lst ((isort L).map d)) := by
  rw [sortD_ok, merge_eq]
  refine ⟨?_, ?_, by simpa using h, ?_, ?_⟩
  · rw [List.map_map]
    exact PySem.W.AllAlike.of fun b b' => by simp [d, pyD, pyDs, PySem.W.alike, PySem.W.alikeAll]
  · rw [List.map_map]
    exact PySem.W.Sortable.tuples fun b => ⟨_, _, by simp only [Function.comp, d, pyD, pyDs]; rfl⟩
  · intro e he
    obtain ⟨x, _, rfl⟩ := List.mem_map.mp he
    simp [d, pyD, pyDs, PyData.plain, PyData.plainAll]
  · intro e he
    obtain ⟨x, _, rfl⟩ := List.mem_map.mp he
    simp [d, pyD, pyDs, PyData.depth, PyData.depthAll]
/-! ### the list -/
def ins (L : List Rg) (x : Rg) : List Rg := if x ∈ L then L else L ++ [x]
def of (sc P S : Int) : Rg := ⟨P / sc, decide (0 < P % sc), S / sc, decide (0 < S % sc), (if P % sc < S % sc then 1 else 0) - (if S % sc < P % sc then 1 else 0)⟩
def rg (lo : Int) (n : Nat) : List Int := (List.range n).map fun i => lo + (i : Nat)
def prog (a b : Int) : List Rg := ((rg (3 * a) (3 * b + 1 - 3 * a).toNat).flatMap fun P => (rg 0 (P + 1).toNat).map fun S => of 3 P S).foldl ins []
def some_ (w : Int) (b : Bool) (r : Int) : List Rg := [false, true].flatMap fun s =>
  ((if b && s then [-1, 0, 1] else [i01 s - i01 b] : List Int).filter fun o => decide (r < w) || (decide (o < 1) && (b || !s))).map fun o => ⟨w, b, r, s, o⟩
def law0 (a b : Int) : List Rg := (rg a (b + 1 - a).toNat).flatMap fun w => [false, true].flatMap fun bk => (rg 0 (w + 1).toNat).flatMap fun r => some_ w bk r
def law (a b : Int) : List Rg := (law0 a b).filter fun x => decide (x.w + i01 x.b ≤ b)
def regs (a b : Int) : List Rg := isort (prog a b)
def machs : List (Int × Int) := (rg 0 7).flatMap fun a => (rg a (7 - a).toNat).map fun b => (a, b)
def vdB (x : Rg) : Bool := decide (0 ≤ x.r) && decide (x.r ≤ x.w) && (if x.b && x.s then decide (-1 ≤ x.o) && decide (x.o ≤ 1) else decide (x.o = i01 x.s - i01 x.b)) && (decide (x.r ≠ x.w) || decide (x.o ≤ 0))
theorem vd_of {x : Rg} (h : vdB x = true) : Vd x := by
  simp only [vdB, Bool.and_eq_true, decide_eq_true_eq, Bool.or_eq_true] at h
  obtain ⟨⟨⟨h1, h2⟩, h3⟩, h4⟩ := h
  refine ⟨h1, h2, ?_, fun e => ?_⟩
  · split at h3
    · rename_i q; rw [if_pos (by simpa using q)]; simpa using h3
    · rename_i q; rw [if_neg (by simpa using q)]; simpa using h3
  · rcases h4 with h | h
    · exact absurd e h
    · exact h
def factB (p : Int × Int) : Bool := isort (law p.1 p.2) == regs p.1 p.2 && (regs p.1 p.2).all (fun x => vdB x && decide (p.1 ≤ x.w) && decide (x.w + i01 x.b ≤ p.2)) && decide ((prog p.1 p.2).length ≤ 200) && decide ((law0 p.1 p.2).length ≤ 300) &&
  (rg p.1 (p.2 + 1 - p.1).toNat).all (fun q => (rg 0 (q + 1).toNat).all fun s => decide ((⟨q, false, s, false, 0⟩ : Rg) ∈ regs p.1 p.2)) && (match regs p.1 p.2 with | x :: _ => decide (x = ⟨p.1, false, 0, false, 0⟩) | [] => false) && decide ((regs p.1 p.2).length = (prog p.1 p.2).length)
theorem fact_all : machs.all factB = true := by decide +kernel
theorem mem_rg {lo i : Int} {n : Nat} : i ∈ rg lo n ↔ lo ≤ i ∧ i < lo + n := by
  unfold rg
  rw [List.mem_map]
  constructor
  · rintro ⟨k, hk, rfl⟩
    have := List.mem_range.mp hk
    omega
  · intro ⟨h1, h2⟩
    exact ⟨(i - lo).toNat, List.mem_range.mpr (by omega), by omega⟩
theorem mem_machs {a b : Int} (h0 : 0 ≤ a) (h1 : a ≤ b) (h6 : b ≤ 6) : (a, b) ∈ machs := by
  unfold machs
  rw [List.mem_flatMap]
  exact ⟨a, mem_rg.mpr ⟨h0, by omega⟩, List.mem_map.mpr ⟨b, mem_rg.mpr ⟨h1, by omega⟩, rfl⟩⟩
structure Facts (a b : Int) : Prop where
  law : isort (law a b) = regs a b
  vd : ∀ x ∈ regs a b, Vd x ∧ a ≤ x.w ∧ x.w + i01 x.b ≤ b
  len : (prog a b).length ≤ 200
  len0 : (law0 a b).length ≤ 300
  whole : ∀ p s : Int, a ≤ p → p ≤ b → 0 ≤ s → s ≤ p → (⟨p, false, s, false, 0⟩ : Rg) ∈ regs a b
  hd : ∃ xs, regs a b = ⟨a, false, 0, false, 0⟩ :: xs
  len2 : (regs a b).length ≤ 200
theorem facts {a b : Int} (h0 : 0 ≤ a) (h1 : a ≤ b) (h6 : b ≤ 6) : Facts a b := by
  have h := List.all_eq_true.mp fact_all _ (mem_machs h0 h1 h6)
  simp only [factB, Bool.and_eq_true, decide_eq_true_eq, beq_iff_eq] at h
  obtain ⟨⟨⟨⟨⟨⟨e1, e2⟩, e3⟩, e4⟩, e5⟩, e6⟩, e7⟩ := h
  refine ⟨e1, fun x hx => ?_, e3, e4, fun p s p0 p1 s0 s1 => ?_, ?_, by omega⟩
  · have := List.all_eq_true.mp e2 x hx
    simp only [Bool.and_eq_true, decide_eq_true_eq] at this
    exact ⟨vd_of this.1.1, this.1.2, this.2⟩
  · have := List.all_eq_true.mp e5 p (mem_rg.mpr ⟨p0, by omega⟩)
    have := List.all_eq_true.mp this s (mem_rg.mpr ⟨s0, by omega⟩)
    exact of_decide_eq_true this
  · split at e6
    · rename_i x xs e
      have := of_decide_eq_true e6
      subst this
      exact ⟨xs, e⟩
    · cases e6
theorem nodup (a b : Int) : (prog a b).Nodup := by
  unfold prog
  have : ∀ (xs L : List Rg), L.Nodup → (xs.foldl ins L).Nodup := by
    intro xs
    induction xs with
    | nil => intro L h; exact h
    | cons x xs ih =>
      intro L h
      refine ih _ ?_
      unfold ins
      split
      · exact h
      · rename_i hx
        rw [List.nodup_append]
        refine ⟨h, by simp, fun a ha b hb => ?_⟩
        simp at hb
        subst hb
        exact fun e => hx (e ▸ ha)
  exact this _ _ .nil
theorem regs_nodup (a b : Int) : (regs a b).Nodup := (isort_perm _).nodup_iff.mpr (nodup a b)
end Rg
end DL
/-! DLst: the run of a script in a region; tables that are settled. -/
namespace DL
open PySem PySem.Spec PyProof.Rows L2 DLH
theorem bls_mapL {α : Type} {L : List α} {f : α → Bool} : bls? (L.map fun x => .bl (f x)) = some (L.map f) := by
  rw [← bls_of (L.map f), List.map_map]; rfl
theorem all_mapL {α : Type} {L : List α} {f : α → Bool} : allD [.lst (L.map fun x => .bl (f x))] = some (.bl (L.all f)) := by
  unfold allD
  dsimp only
  rw [bls_mapL]
  simp
theorem any_mapL {α : Type} {L : List α} {f : α → Bool} : anyD [.lst (L.map fun x => .bl (f x))] = some (.bl (L.any f)) := by
  unfold anyD
  dsimp only
  rw [bls_mapL]
  simp
/-- the run of a script in a region -/
def runG (x : Rg) (xs : List D) : RS := runS (newR 3 x.P3 x.S3) xs
theorem bd_new {x : Rg} : Bd (newR 3 x.P3 x.S3) 0 := by
  refine ⟨⟨?_, ?_⟩, ?_, ?_, ?_⟩
  · show _ < (3 : Int); omega
  · show (3 : Int) < _; omega
  · show _ ≤ (0 : Int); omega
  · show (0 : Int) ≤ _; omega
  · show 0 ≤ 0; omega
theorem runG_bd {x : Rg} {xs : List D} (hx : ∀ x ∈ xs, stepB 3 x = true) (hl : xs.length ≤ 100) : Bd (runG x xs) 8500 := by
  have h := fold_bd (f := stepS 3) (g := fun e => stepB 3 e = true) (w := Wt 3) (fun r c d hb hd => stepS_bd 3 r c d hb hd) xs _ 0 (bd_new (x := x)) hx
  have hw : Wt 3 = 85 := rfl
  exact h.mono (by rw [hw]; omega)
theorem runG_sm {x : Rg} {xs : List D} (hx : ∀ x ∈ xs, stepB 3 x = true) (hl : xs.length ≤ 100) : Sm (runG x xs).stand ∧ Sm (runG x xs).scale := by
  have h := runG_bd (x := x) hx hl
  have h1 := h.lo
  have h2 := h.hi
  exact ⟨⟨by omega, by omega⟩, h.sc⟩
theorem w_le {x : Rg} {b : Int} (h : x.w + Rg.i01 x.b ≤ b) : x.w ≤ b := by
  have : 0 ≤ Rg.i01 x.b := by cases x.b <;> simp [Rg.i01]
  omega
theorem cl_clp (sc wh lag n : Int) : cl sc wh lag n = Rg.clp wh (lag + sc * n) := by
  unfold cl Rg.clp mi ma
  rw [Int.mul_comm n sc]
  split <;> split <;> split <;> first | rfl | omega
def toD (g : Int) : D := .tup [.str "to", .int g]
theorem n_to_by : Str.ofString "to" ≠ Str.ofString "by" := by decide
theorem step_to (r : RS) (g : Int) : stepS 3 r (toD g) = r.turn (g - r.stand) := by
  show (if (Str.ofString "to") = "by" then r.turn g else if (Str.ofString "to") = "to" then r.turn (g - r.stand) else r.look.tell (.str (r.seen g))) = r.turn (g - r.stand)
  rw [if_neg n_to_by, if_pos rfl]
theorem stepB_to {g : Int} (h : -40 ≤ g ∧ g ≤ 40) : stepB 3 (toD g) = true := by
  simp [stepB, oneB, toD, wh, h.1, h.2]
def stS (sc P : Int) (st : Int × Int) (row : List Int) : Int × Int := row.foldl (fun q g => (g, Rg.clp P (q.2 + sc * (g - q.1)))) st
theorem run_to : ∀ (row : List Int) (r : RS), (runS r (row.map toD)).stand = (stS r.scale r.whole (r.stand, r.lag) row).1 ∧ (runS r (row.map toD)).lag = (stS r.scale r.whole (r.stand, r.lag) row).2 ∧ (runS r (row.map toD)).scale = r.scale
  | [], r => ⟨rfl, rfl, rfl⟩
  | g :: row, r => by
    have h := run_to row (stepS 3 r (toD g))
    rw [step_to] at h
    have e1 : (r.turn (g - r.stand)).stand = g := by rw [RS.turn_stand]; omega
    have e2 : (r.turn (g - r.stand)).lag = Rg.clp r.whole (r.lag + r.scale * (g - r.stand)) := by rw [RS.turn_lag, cl_clp]
    rw [e1, e2, RS.turn_scale, RS.turn_whole] at h
    show (runS (stepS 3 r (toD g)) (row.map toD)).stand = _ ∧ (runS (stepS 3 r (toD g)) (row.map toD)).lag = _ ∧ (runS (stepS 3 r (toD g)) (row.map toD)).scale = _
    rw [step_to]
    exact h
theorem spot_to (x : Rg) (row : List Int) : (runG x (row.map toD)).spot = (stS 3 x.P3 (0, x.S3) row).1 * 3 - (stS 3 x.P3 (0, x.S3) row).2 := by
  obtain ⟨h1, h2, h3⟩ := run_to row (newR 3 x.P3 x.S3)
  unfold RS.spot runG
  rw [h1, h2, h3]
  rfl
namespace Rg
theorem clp_in {P v : Int} (h : 0 ≤ P) : 0 ≤ clp P v ∧ clp P v ≤ P := by unfold clp; split <;> (split <;> omega)
theorem form_row {x : Rg} (v : Vd x) : ∀ (row : List Int) (d : Int) (f : Form), LK f → 0 ≤ f.at3 x → f.at3 x ≤ x.P3 → (∀ c ∈ corners x, 0 ≤ f.at1 c.1 c.2 ∧ f.at1 c.1 c.2 ≤ c.1) →
    ∃ (d' : Int) (f' : Form), LK f' ∧ stS 3 x.P3 (d, f.at3 x) row = (d', f'.at3 x) ∧ ∀ c ∈ corners x, stS 1 c.1 (d, f.at1 c.1 c.2) row = (d', f'.at1 c.1 c.2)
  | [], d, f, h, _, _, _ => ⟨d, f, h, rfl, fun _ _ => rfl⟩
  | g :: row, d, f, h, h0, h1, hc => by
    have e3 := lag_at3 v h h0 h1 (g - d)
    have hP : 0 ≤ x.P3 := Int.le_trans h0 h1
    have b3 := clp_in (P := x.P3) (v := f.at3 x + 3 * (g - d)) hP
    rw [← e3] at b3
    have hc' : ∀ c ∈ corners x, 0 ≤ (lagF f (g - d) x).at1 c.1 c.2 ∧ (lagF f (g - d) x).at1 c.1 c.2 ≤ c.1 := fun c hcm => by
      have q := hc c hcm
      rw [lag_at1 v h hcm q.1 q.2]
      exact clp_in (Int.le_trans q.1 q.2)
    obtain ⟨d', f', i1, i2, i3⟩ := form_row v row g (lagF f (g - d) x) (h.lag _ _) b3.1 b3.2 hc'
    refine ⟨d', f', i1, ?_, fun c hcm => ?_⟩
    · rw [← i2, e3]; rfl
    · rw [← i3 c hcm, lag_at1 v h hcm (hc c hcm).1 (hc c hcm).2]
      show stS 1 c.1 (g, clp c.1 (f.at1 c.1 c.2 + 1 * (g - d))) row = _
      rw [Int.one_mul]
end Rg
open Rg
def set3 (a b : Int) (row : List Int) (mark : Int) : Bool := (regs a b).all fun x => decide ((runG x (row.map toD)).spot = mark * 3)
def set1 (a b : Int) (row : List Int) (mark : Int) : Bool := (rg a (b + 1 - a).toNat).all fun p => (rg 0 (p + 1).toNat).all fun s => decide ((stS 1 p (0, s) row).1 - (stS 1 p (0, s) row).2 = mark)
theorem set_eq {a b : Int} (h0 : 0 ≤ a) (h1 : a ≤ b) (h6 : b ≤ 6) (row : List Int) (mark : Int) : set3 a b row mark = set1 a b row mark := by
  have F := facts h0 h1 h6
  rw [Bool.eq_iff_iff]
  unfold set3 set1
  rw [List.all_eq_true, List.all_eq_true]
  have fr : ∀ x ∈ regs a b, ∃ (d' : Int) (f' : Form), LK f' ∧ stS 3 x.P3 (0, x.S3) row = (d', f'.at3 x) ∧ ∀ c ∈ corners x, stS 1 c.1 (0, c.2) row = (d', f'.at1 c.1 c.2) := fun x hx => by
    have v := (F.vd x hx).1
    have h := form_row v row 0 fS (.inr (.inl ⟨rfl, rfl⟩)) (by rw [fS_at3]; exact v.le.1) (by rw [fS_at3]; exact v.le.2) (fun c hc => by
      have := corner_ok (p := c.1) (s := c.2) v hc
      rw [fS_at1]; exact ⟨this.1, this.2.1⟩)
    simpa using h
  constructor
  · intro h p hp
    have hp := mem_rg.mp hp
    rw [List.all_eq_true]
    intro s hs
    have hs := mem_rg.mp hs
    have hx := F.whole p s hp.1 (by omega) hs.1 (by omega)
    obtain ⟨d', f', i1, i2, i3⟩ := fr _ hx
    have q := of_decide_eq_true (h _ hx)
    rw [spot_to, i2] at q
    have c := i3 (p, s) (by simp [corners])
    dsimp only at c
    rw [c]
    have e : f'.at3 ⟨p, false, s, false, 0⟩ = 3 * f'.at1 p s := by
      unfold Form.at3 Form.at1 P3 S3
      rcases i1 with ⟨q1, q2⟩ | ⟨q1, q2⟩ | ⟨q1, q2⟩ <;> simp [q1, q2, i01] <;> omega
    rw [e] at q
    dsimp only at q ⊢
    exact decide_eq_true (by omega)
  · intro h x hx
    obtain ⟨d', f', i1, i2, i3⟩ := fr x hx
    obtain ⟨v, w1, w2⟩ := F.vd x hx
    have z := zero_of (f := ⟨f'.n - (d' - mark), f'.r, f'.q⟩) v (LK.k (f := ⟨f'.n - (d' - mark), f'.r, f'.q⟩) i1) (fun c hc => by
      have co := corner_ok (p := c.1) (s := c.2) v hc
      have q := List.all_eq_true.mp (h c.1 (mem_rg.mpr ⟨by omega, by omega⟩)) c.2 (mem_rg.mpr ⟨co.1, by omega⟩)
      have q := of_decide_eq_true q
      rw [i3 c hc] at q
      unfold Form.at1 at q ⊢
      dsimp only at q ⊢
      omega)
    refine decide_eq_true ?_
    rw [spot_to, i2]
    unfold Form.at3 at z ⊢
    dsimp only at z ⊢
    omega
/-! ### the rows in order -/
def rowsL : Nat → List (List Int)
  | 0 => [[]]
  | n + 1 => (rowsL n).flatMap fun r => (rg (-12) 25).map fun k => r ++ [k]
def rows3 : List (List Int) := rowsL 0 ++ rowsL 1 ++ rowsL 2
theorem row_ok {a b mark : Int} (h0 : 0 ≤ a) (h6 : b ≤ 6) (m0 : -6 ≤ mark) (m1 : mark ≤ 6) : ∃ row ∈ rowsL 2, set1 a b row mark = true := by
  refine ⟨[mark + 6, mark], ?_, ?_⟩
  · unfold rowsL
    rw [List.mem_flatMap]
    refine ⟨[mark + 6], ?_, List.mem_map.mpr ⟨mark, mem_rg.mpr ⟨by omega, by omega⟩, rfl⟩⟩
    unfold rowsL
    rw [List.mem_flatMap]
    exact ⟨[], by simp [rowsL], List.mem_map.mpr ⟨mark + 6, mem_rg.mpr ⟨by omega, by omega⟩, rfl⟩⟩
  · unfold set1
    rw [List.all_eq_true]
    intro p hp
    have hp := mem_rg.mp hp
    rw [List.all_eq_true]
    intro s hs
    have hs := mem_rg.mp hs
    refine decide_eq_true ?_
    show mark - clp p (clp p (s + 1 * (mark + 6 - 0)) + 1 * (mark - (mark + 6))) = mark
    have c1 := clp_in (P := p) (v := s + 1 * (mark + 6 - 0)) (by omega)
    have : clp p (clp p (s + 1 * (mark + 6 - 0)) + 1 * (mark - (mark + 6))) = 0 := by
      generalize clp p (s + 1 * (mark + 6 - 0)) = q at *
      unfold clp
      split <;> (split <;> omega)
    omega
theorem ex_03 : rows3.find? (fun r => set1 0 3 r 0) = some [3, 0] := by decide +kernel
theorem ex_22 : rows3.find? (fun r => set1 2 2 r 1) = some [3] := by decide +kernel
end DL
/-! DLsp: xs[::2] and xs[1::2] of a tuple of five. -/
namespace HT
open PySem PySem.Spec PyProof.Rows
section
variable {prog : Program} {w : World} {A : Around} {E : Value → Shared → Prop} {s : Shared}
theorem sliceApplied_two {sl : Addr} {vl vu vs : Value} {l : Option Int} {lo : Int} {cnt : Nat} {Q : Int × Int × Nat → Shared → Prop} (hs : s.heap.IsSliceOf sl vl vu vs) (pl : IsPart vl l) (pu : IsPart vu none) (ps : IsPart vs (some 2))
    (ha : Builtin.Slice.sliceAdjust l none 2 5 = (lo, 5)) (hp : Builtin.Slice.slicePlaces lo 5 2 = cnt)
    (h : Q (lo, 2, cnt) s) : wpAny (model prog w) A (Builtin.Slice.sliceApplied (.ref sl) (pure (5 : Int))) Q E s := by
  obtain ⟨os, hos, hcs, hds⟩ := id hs
  unfold Builtin.Slice.sliceApplied Builtin.Slice.sliceFields
  refine wpAny_bind (wpAny_bind (wpAny_field hos hds (x := vl) rfl (wpAny_bind (wpAny_field hos hds (x := vu) rfl (wpAny_bind (wpAny_field hos hds (x := vs) rfl (wpAny_pure ?_)))))))
  refine wpAny_bind (slicePart_ ps ?_)
  show wpAny _ _ (if ((2 : Int) == 0) = true then _ else _) _ _ s
  rw [if_neg (by decide)]
  refine wpAny_bind (slicePart_ pl (wpAny_bind (slicePart_ pu (wpAny_bind (wpAny_pure ?_)))))
  show wpAny _ _ (match Builtin.Slice.sliceAdjust l none 2 (5 : Int) with | (lo, hi) => pure (lo, (2 : Int), Builtin.Slice.slicePlaces lo hi 2)) _ _ s
  rw [ha]
  show wpAny _ _ (pure (lo, (2 : Int), Builtin.Slice.slicePlaces lo 5 2)) _ _ s
  rw [hp]
  exact wpAny_pure h
theorem getItem_tuple_two {t sl : Addr} {items : Array Value} {vl vu vs : Value} {l : Option Int} {lo : Int} {cnt : Nat} {out : List Value} {Q : Value → Shared → Prop} (ht : IsTup s.heap t items) (h5 : items.size = 5) (hs : s.heap.IsSliceOf sl vl vu vs) (pl : IsPart vl l) (pu : IsPart vu none) (ps : IsPart vs (some 2))
    (ha : Builtin.Slice.sliceAdjust l none 2 5 = (lo, 5)) (hp : Builtin.Slice.slicePlaces lo 5 2 = cnt) (ho : ((List.range cnt).filterMap fun (m : Nat) => items[(lo + (m : Int) * 2).toNat]?) = out)
    (h : Q (.ref s.heap.objs.size) { s with heap := s.heap.push { cls := .type "tuple", data := .seq out.toArray } })
    (hsz : out.length ≤ sizeLine) : wpAny (model prog w) A (getItem (.ref t) (.ref sl)) Q E s := by
  have htake : sizeOk (.seq out.toArray) := by
    show out.toArray.size ≤ sizeLine
    simpa using hsz
  obtain ⟨os, hos, hcs, hds⟩ := id hs
  have hTs : s.TypeIs (.ref sl) "slice" := ⟨os, hos, hcs⟩
  unfold getItem
  try with_reducible refine wpAny_holding ?_
  first | refine wpAny_bind (wpAny_pure ?_) | skip
  refine wpAny_bind (wpAny_sequenceKey ht.typeIs (by decide) ?_)
  refine wpAny_bind (wpAny_callSpecial?_slot (name := Str.ofString "__getitem__") ht.typeIs PyProof.Rows.slot_tuple_getitem
    (wpAny_call_entry PyProof.Rows.slot_tuple_getitem ht.typeIs entry_tuple_getitem ?_ (args_tuple_getitem _ _)))
  show wpAny _ _ (Builtin.Tuple.tupleItemsOf (.ref t) >>= _) _ _ s
  refine wpAny_bind (tupleItemsOf_ ht ?_)
  refine wpAny_bind (wpAny_typeOf hTs ?_)
  rw [if_pos (by decide)]
  rw [h5]
  refine wpAny_bind (sliceApplied_two hs pl pu ps ha hp ?_)
  have hno : ¬ ((lo == 0 && (2 : Int) == 1 && cnt == 5) = true) := by
    intro q
    rw [Bool.and_eq_true, Bool.and_eq_true] at q
    exact absurd q.1.2 (by decide)
  show wpAny _ _ (if (lo == 0 && (2 : Int) == 1 && cnt == 5) = true then _ else _) _ _ s
  rw [if_neg hno, ho]
  first
    | exact wpAny_bind (m := Builtin.Tuple.tupleExact _) (wpAny_newObj_type (wpAny_pure ⟨_, rfl, wpAny_pure h⟩) htake)
    | exact wpAny_bind (m := Builtin.Tuple.tupleExact _) (wpAny_newObj_type (wpAny_bind (wpAny_pure (wpAny_pure ⟨_, rfl, wpAny_pure h⟩))) htake)
    | exact wpAny_bind (wpAny_bind (m := Builtin.Tuple.tupleExact _) (wpAny_newObj_type (wpAny_pure (wpAny_pure ⟨_, rfl, wpAny_pure h⟩)) htake))
    | exact wpAny_bind (wpAny_bind (m := Builtin.Tuple.tupleExact _) (wpAny_newObj_type (wpAny_pure ⟨_, rfl, wpAny_pure h⟩) htake))
end
end HT
namespace L2
open PySem PySem.Spec PyProof.Rows
variable {X : Cx}
/-- every second item of five, from the first or the second on -/
def two5 {α : Type} (odd : Bool) : List α → Option (List α)
  | [a, b, c, d, e] => some (if odd then [b, d] else [a, c, e])
  | _ => none
def tTwo (K : PySem.W.Frag) (odd : Bool) (te : TE) : TE := fun σ H Q => te σ H fun x H1 => ∃ a xs ys, x = .ref a ∧ SqT K H1 a xs ∧ two5 odd xs = some ys ∧ ∀ p, H1 p = none → Q (.ref p) (upd H1 p (.tup ys))
theorem pe_two {e : Expr} {te : TE} {odd : Bool} {lo : Option Expr} {j : Nat} {p2 p3 pos : Pos} (he : PE X e te) (hlo : PO X lo (fun _ H Q => Q (if odd = true then some 1 else none) H)) :
    PE X (.Subscript e (.Slice lo none (some (.Constant (.int 2) j p2)) p3) pos) (tTwo X.K odd te) := by
  refine ⟨fun pins s σ H Q I h => ?_⟩
  refine Subscript_ (thn (he.run pins s σ H _ I h) fun v s1 ⟨x, H1, I1, r1, q1⟩ => ?_)
  obtain ⟨a, xs, ys, ex, hx, hy, q⟩ := q1
  subst ex
  cases r1
  have hst : PO X (some (.Constant (.int 2) j p2)) (tPart (tC (.int 2))) := po_some pe_int
  refine wpAny_Slice (thn (hlo.run pins s1 σ H1 (fun o H2 => o = (if odd = true then some 1 else none) ∧ H2 = H1) I1 ⟨rfl, rfl⟩) fun vl s2 ⟨l, H2, I2, pl, el, e2⟩ => ?_)
  subst el e2
  refine thn (po_none.run pins s2 σ H2 (fun o H3 => o = none ∧ H3 = H2) I2 ⟨rfl, rfl⟩) fun vu s3 ⟨u, H3, I3, pu, eu, e3⟩ => ?_
  subst eu e3
  refine thn (hst.run pins s3 σ H3 (fun o H4 => o = some 2 ∧ H4 = H3) I3 ⟨2, rfl, rfl, rfl⟩) fun vs s4 ⟨o, H4, I4, ps, eo, e4⟩ => ?_
  subst eo e4
  have I5 : Inv X pins σ H4 { s4 with heap := s4.heap.push { cls := .type "slice", data := .fields #[vl, vu, vs] } } := I4.kept (t' := s4.toks) fun b ob q => Heap.get?_push_of_some _ q
  obtain ⟨its, r, ht, hz⟩ := I5.tuple hx
  have hlen := r.length
  show wpAny (model X.prog X.w) X.A (subscriptTail e (.Slice lo none (some (.Constant (.int 2) j p2)) p3) (.ref a) (.ref s4.heap.objs.size)) (EP X pins σ Q) X.xe { s4 with heap := s4.heap.push { cls := .type "slice", data := .fields #[vl, vu, vs] } }
  refine tail_any (ops := [.ref a, .ref s4.heap.objs.size]) ht.typeIs (PyProof.Rows.slot_tuple_getitem.lookup) ?_ (by with_unfolding_all rfl)
  unfold two5 at hy
  split at hy
  · rename_i v1 v2 v3 v4 v5
    cases hy
    cases r with | cons r1 r => cases r with | cons r2 r => cases r with | cons r3 r => cases r with | cons r4 r => cases r with | cons r5 r => cases r with | nil =>
    rename_i u1 u2 u3 u4 u5
    cases odd with
    | false =>
      refine HT.getItem_tuple_two (l := none) (lo := 0) (cnt := 3) (out := [u1, u3, u5]) ht rfl (Heap.IsSliceOf.new _ vl vu vs) pl pu ps (by decide) (by decide) rfl ?_ (by rw [sizeLine_eq]; simp)
      refine ⟨.ref _, _, I5.laid (t' := s4.toks) (o := .tup [v1, v3, v5]) (fun b ob q => Heap.get?_push_of_some _ q) (Nat.le_refl _) ?_, rfl, q _ (I5.hok.fresh (Nat.le_refl _))⟩
      exact ⟨by rw [sizeLine_eq]; simp, _, .cons r1 (.cons r3 (.cons r5 .nil)), IsTup.new _ _⟩
    | true =>
      refine HT.getItem_tuple_two (l := some 1) (lo := 1) (cnt := 2) (out := [u2, u4]) ht rfl (Heap.IsSliceOf.new _ vl vu vs) pl pu ps (by decide) (by decide) rfl ?_ (by rw [sizeLine_eq]; simp)
      refine ⟨.ref _, _, I5.laid (t' := s4.toks) (o := .tup [v2, v4]) (fun b ob q => Heap.get?_push_of_some _ q) (Nat.le_refl _) ?_, rfl, q _ (I5.hok.fresh (Nat.le_refl _))⟩
      exact ⟨by rw [sizeLine_eq]; simp, _, .cons r2 (.cons r4 .nil), IsTup.new _ _⟩
  · cases hy
end L2
namespace DL
open PySem PySem.Spec PyProof.Rows L2 DLH
variable {z : Z} {W : XK} {X : Cx} {e : Expr} {s : Sem} {pos : Pos}
def two5D (odd : Bool) : D → Option D
  | .tup xs => (two5 odd xs).map .tup
  | _ => none
theorem two5_rp {H : Hp} {odd : Bool} {vs : List V} {ds es : List D} (r : RpL z H vs ds) (h : two5 odd ds = some es) : ∃ ws, two5 odd vs = some ws ∧ RpL z H ws es := by
  unfold two5 at h
  split at h
  · cases h
    cases r with | cons r1 r => cases r with | cons r2 r => cases r with | cons r3 r => cases r with | cons r4 r => cases r with | cons r5 r => cases r with | nil =>
    cases odd with
    | false => exact ⟨_, rfl, .cons r1 (.cons r3 (.cons r5 .nil))⟩
    | true => exact ⟨_, rfl, .cons r2 (.cons r4 .nil)⟩
  · cases h
theorem two_of {odd : Bool} (hK : X.K = z.K) {σ : L2.St} {H : Hp} {Q : VK} (h : tE z W (sUn (two5D odd) s) σ H Q) : tTwo X.K odd (tE z W s) σ H Q := by
  obtain ⟨η, ι, ρ, m, ok, h⟩ := h
  refine ⟨η, ι, ρ, m, ok, Post.mono (fun ι1 m1 H1 v st1 k1 h1 x rx => ?_) (Post.bind h)⟩
  split at h1
  · rename_i d ed
    cases q : two5D odd d with
    | none => rw [q] at h1; exact h1.elim
    | some w =>
      rw [q] at h1
      have hq := rq_of k1 rx ed
      unfold two5D at q
      split at q
      · obtain ⟨es, q1, rfl⟩ := Option.map_eq_some_iff.mp q
        cases hq with | tup h2 r2 =>
        obtain ⟨ws, q2, r3⟩ := two5_rp r2 q1
        refine ⟨_, _, ws, rfl, by rw [hK]; exact ext_sqT hid_ext h2, q2, fun p hp => ?_⟩
        obtain ⟨st4, k4⟩ := Stp.grow k1 (Ext.new hp)
        exact h1 _ ι1 st4 k4 _ (Rp.newT k1.hx hp r3)
      · cases q
  · exact h1.elim
/-- xs[::2] -/
theorem c_ev {j : Nat} {p2 p3 : Pos} (hK : X.K = z.K) (ha : CE z W X e s) : CE z W X (.Subscript e (.Slice none none (some (.Constant (.int 2) j p2)) p3) pos) (sUn (two5D false) s) :=
  pe_mono (pe_two (odd := false) ha (po_none)) fun σ H Q h => two_of hK h
/-- xs[1::2] -/
theorem c_odd {j j' : Nat} {p1 p2 p3 : Pos} (hK : X.K = z.K) (ha : CE z W X e s) : CE z W X (.Subscript e (.Slice (some (.Constant (.int 1) j' p1)) none (some (.Constant (.int 2) j p2)) p3) pos) (sUn (two5D true) s) :=
  pe_mono (pe_two (odd := true) ha (po_mono (po_some pe_int) fun σ H Q h => ⟨1, rfl, h⟩)) fun σ H Q h => two_of hK h
end DL
/-! DLfo: loops that gather. -/
namespace DL
open PySem PySem.Spec PyProof.Rows L2 DLH
section
variable {ρ : Env} {m : Mem} {T : Tg} {s1 : SemS} {QS : Ct → Mem → Prop}
/-- each turn puts some things behind those that are there -/
theorem for_fold {α β : Type} {enc : α → D} (f : α → List β) (P : List β → Env → Prop) : ∀ {L : List α} {acc : List β} {ρ : Env}, P acc ρ →
    (∀ x ∈ L, ∀ (acc' : List β) (ρ : Env), P acc' ρ → acc'.length + (f x).length ≤ acc.length + (L.flatMap f).length → ∃ ρ1, T.g (enc x) ρ = some ρ1 ∧ (s1 ρ1 m).wp fun c m1 => m1 = m ∧ ∃ ρ2, c = .nx ρ2 ∧ P (acc' ++ f x) ρ2) →
    (∀ ρ, P (acc ++ L.flatMap f) ρ → QS (.nx ρ) m) → (forGo T s1 (L.map enc) ρ m).wp QS := by
  intro L
  induction L with
  | nil => intro acc ρ hP _ fin; simpa using fin ρ (by simpa using hP)
  | cons x L ih =>
    intro acc ρ hP step fin
    obtain ⟨ρ1, hg, hs⟩ := step x (by simp) acc ρ hP (by rw [List.flatMap_cons, List.length_append]; omega)
    rw [List.map_cons, forGo_cons, hg]
    dsimp only
    refine wp_mono hs ?_
    rintro c _ ⟨rfl, ρ2, rfl, hP2⟩
    rw [k_ForN1]
    refine ih hP2 (fun y hy acc' ρ' hP' hl => step y (by simp [hy]) acc' ρ' hP' ?_) fun ρ h => fin ρ ?_
    · rw [List.length_append] at hl
      rw [List.flatMap_cons, List.length_append]
      omega
    · rw [List.flatMap_cons, ← List.append_assoc]; exact h
/-- .. in the memory: a list of one's own at l -/
theorem for_foldM {α β : Type} {enc : α → D} (f : α → List β) (P : List β → Env → Mem → Prop) : ∀ {L : List α} {acc : List β} {ρ : Env} {m : Mem}, P acc ρ m →
    (∀ x ∈ L, ∀ (acc' : List β) (ρ : Env) (m : Mem), P acc' ρ m → acc'.length + (f x).length ≤ acc.length + (L.flatMap f).length → ∃ ρ1, T.g (enc x) ρ = some ρ1 ∧ (s1 ρ1 m).wp fun c m1 => ∃ ρ2, c = .nx ρ2 ∧ P (acc' ++ f x) ρ2 m1) →
    (∀ ρ m, P (acc ++ L.flatMap f) ρ m → QS (.nx ρ) m) → (forGo T s1 (L.map enc) ρ m).wp QS := by
  intro L
  induction L with
  | nil => intro acc ρ m hP _ fin; simpa using fin ρ m (by simpa using hP)
  | cons x L ih =>
    intro acc ρ m hP step fin
    obtain ⟨ρ1, hg, hs⟩ := step x (by simp) acc ρ m hP (by rw [List.flatMap_cons, List.length_append]; omega)
    rw [List.map_cons, forGo_cons, hg]
    dsimp only
    refine wp_mono hs ?_
    rintro c m1 ⟨ρ2, rfl, hP2⟩
    rw [k_ForN1]
    refine ih hP2 (fun y hy acc' ρ' m' hP' hl => step y (by simp [hy]) acc' ρ' m' hP' ?_) fun ρ m h => fin ρ m ?_
    · rw [List.length_append] at hl
      rw [List.flatMap_cons, List.length_append]
      omega
    · rw [List.flatMap_cons, ← List.append_assoc]; exact h
/-- each turn is so, or the loop ends with a value -/
theorem for_all {α : Type} {enc : α → D} (P : Env → Prop) : ∀ {L : List α} {ρ : Env}, P ρ →
    (∀ x ∈ L, ∀ (ρ : Env), P ρ → ∃ ρ1, T.g (enc x) ρ = some ρ1 ∧ (s1 ρ1 m).wp fun c m1 => m1 = m ∧ ∃ ρ2, c = .nx ρ2 ∧ P ρ2) →
    (∀ ρ, P ρ → QS (.nx ρ) m) → (forGo T s1 (L.map enc) ρ m).wp QS := by
  intro L
  induction L with
  | nil => intro ρ hP _ fin; simpa using fin ρ hP
  | cons x L ih =>
    intro ρ hP step fin
    obtain ⟨ρ1, hg, hs⟩ := step x (by simp) ρ hP
    rw [List.map_cons, forGo_cons, hg]
    dsimp only
    refine wp_mono hs ?_
    rintro c _ ⟨rfl, ρ2, rfl, hP2⟩
    rw [k_ForN1]
    exact ih hP2 (fun y hy => step y (by simp [hy])) fin
/-- .. the memory kept up to what P says of it -/
theorem for_allM {α : Type} {enc : α → D} (P : Env → Mem → Prop) : ∀ {L : List α} {ρ : Env} {m : Mem}, P ρ m →
    (∀ x ∈ L, ∀ (ρ : Env) (m : Mem), P ρ m → ∃ ρ1, T.g (enc x) ρ = some ρ1 ∧ (s1 ρ1 m).wp fun c m1 => ∃ ρ2, c = .nx ρ2 ∧ P ρ2 m1) →
    (∀ ρ m, P ρ m → QS (.nx ρ) m) → (forGo T s1 (L.map enc) ρ m).wp QS := by
  intro L
  induction L with
  | nil => intro ρ m hP _ fin; simpa using fin ρ m hP
  | cons x L ih =>
    intro ρ m hP step fin
    obtain ⟨ρ1, hg, hs⟩ := step x (by simp) ρ m hP
    rw [List.map_cons, forGo_cons, hg]
    dsimp only
    refine wp_mono hs ?_
    rintro c m1 ⟨ρ2, rfl, hP2⟩
    rw [k_ForN1]
    exact ih hP2 (fun y hy => step y (by simp [hy])) fin
theorem rngD_rg (lo : Int) (n : Nat) : rngD lo n = (Rg.rg lo n).map D.int := by simp [rngD, Rg.rg, Function.comp]
theorem mem_rngE {lo : Int} {n : Nat} {d : D} (h : d ∈ rngD lo n) : ∃ i : Nat, i < n ∧ d = .int (lo + i) := by
  unfold rngD at h
  simp at h
  obtain ⟨i, hi, rfl⟩ := h
  exact ⟨i, hi, rfl⟩
theorem call_er {ar : Nat} {G : Fn} {r : SemA} {ρ : DL.Env} {m m1 m2 : Mem} {vs : List Vl} {e : Exn} (ha : r ρ m = .ok vs m1) (hl : vs.length = ar) (h : G vs m1 = .er e m2) : sCall ar G r ρ m = .er e m2 := by
  unfold sCall
  rw [ha]
  simp [hl, h]
end
end DL
/-! DLow: sorted, as a list of one's own. -/
namespace DL
open PySem PySem.Spec PyProof.Rows L2 DLH
section
variable {X : Cx} {z : Z}
/-- sorted of a dict -/
def rSortNO (z : Z) : List V → Hp → VK → Prop := fun vs H Q => ∃ (L : List Addr) (a : Addr) (xs : NEs) (ep : Nat) (kvs : List (D × D)), vs = [.ref a] ∧ H a = some (ndO z.P z.w a xs ep) ∧ NdR z (hid L H) xs kvs ∧ (∀ a ∈ L, ∃ o, H a = some o) ∧ SortOk (kvs.map Prod.fst) ∧
  ∀ p ws, H p = none → RpL z (hid L H) ws ((kvs.map Prod.fst).mergeSort leDt) → Q (.ref p) (upd H p (.lst ws))
theorem cg_sortNO (hK : X.K = z.K) (hP : X.prog = z.P) (hw : X.w = z.w) (hc : X.calm = true) (hu : X.A.units + 200 < cLine) : CallR X (.builtin "sorted") (rSortNO z) := by
  intro pins s σ H vs us Q I r q
  obtain ⟨L, a, xs, ep, kvs, rfl, hd, nd, hL, ok, q⟩ := q
  rw [← hP, ← hw] at hd
  obtain ⟨lo, o, es, hg, hx, hdt, hsz, ent⟩ := nd_ent I hd
  obtain ⟨⟨_, hz, _⟩, _, _⟩ := I.hok a _ hd
  rw [Vals.ref1 r]
  have hes : es.size ≤ sizeLine := by rw [hsz]; exact hz
  refine Calls.call_function_entry PyProof.Rows.kind_sorted PyProof.Rows.plain_sorted PyProof.Rows.entry_sorted (PyProof.Rows.args_sorted1 _) ?_
  unfold Builtin.«sorted»
  refine wpAny_bind (m := checkCount "sorted" 1 1 _) (wpAny_pure ?_)
  refine wpAny_bind (PySem.W.kdu_collect (A := X.A.in1) (KdlSrc.rawDict (es := es) (ep := ep) lo) (I.ok.hd hc) ⟨o, hg, hx, hdt⟩ hes fun h' tk acc hk hacc => ?_)
  have hal : acc.toList = xs.map (fun x => Value.ref x.2.1) := by
    apply List.ext_getElem?
    intro j
    by_cases hj : j < xs.length
    · have hj' : j < acc.size := by rw [hacc.1, hsz]; exact hj
      have e1 : acc[j]? = some acc[j] := Array.getElem?_eq_getElem hj'
      obtain ⟨hi, e2⟩ := hacc.2 j _ e1
      have e3 : xs[j]? = some xs[j] := List.getElem?_eq_getElem hj
      obtain ⟨en, e4, e5, _⟩ := ent j xs[j].1 xs[j].2.1 xs[j].2.2 e3
      have e6 : es[j]? = some es[j] := Array.getElem?_eq_getElem hi
      rw [e6] at e4
      cases e4
      rw [Array.getElem?_toList, e1, e2, e5, List.getElem?_map, e3]
      rfl
    · rw [List.getElem?_eq_none (by rw [Array.length_toList, hacc.1, hsz]; omega), List.getElem?_eq_none (by rw [List.length_map]; omega)]
  have I1 : Inv X pins σ H { s with heap := h', toks := tk } := I.kept hk
  have hlen : acc.toList.length ≤ sizeLine := by rw [hal, List.length_map]; exact hz
  refine wpAny_bind (wpAny_newList ?_ hlen)
  have hoL : (h'.push (seqObj "list" acc.toList.toArray 0)).get? h'.objs.size = some (seqObj "list" acc.toList.toArray 0) := Heap.get?_push_size _ rfl
  show wpAny _ _ _ _ _ { s with heap := h'.push (seqObj "list" acc.toList.toArray 0), toks := tk }
  have e := nd.each hal
  have er := each_reads I1 hK hid_ext e ok.pl
  have er' : PySem.W.EachIs (fun v b => ∃ as, Reads (PySem.W.sortingHeap (h'.push (seqObj "list" acc.toList.toArray 0)) h'.objs.size acc.toList) v (pyD b) as) acc.toList (kvs.map Prod.fst) :=
    er.mono fun _ _ ⟨as, r⟩ => ⟨as, PyProof.Rows.Reads.keeps (fun b u hb => PySem.W.sortingHeap_old (Nat.ne_of_lt (Heap.lt_size hb)) (Heap.get?_push_of_some _ hb)) r⟩
  refine wpAny_bind (wpAny_holding (wpAny_call_entry PyProof.Rows.slot_list_sort ⟨_, hoL, rfl⟩ PyProof.Rows.entry_list_sort
    (PySem.W.list_sort_vals (s := { s with heap := h'.push (seqObj "list" acc.toList.toArray 0), toks := tk }) (κ := PySem.W.dataKind (PySem.W.sortingHeap (h'.push (seqObj "list" acc.toList.toArray 0)) h'.objs.size acc.toList) ((kvs.map Prod.fst).map pyD)) hoL (PySem.W.SortsAt.data (s := { s with heap := PySem.W.sortingHeap (h'.push (seqObj "list" acc.toList.toArray 0)) h'.objs.size acc.toList, toks := tk }) (PySem.W.each_map (R := fun v d => ∃ as, Reads (PySem.W.sortingHeap (h'.push (seqObj "list" acc.toList.toArray 0)) h'.objs.size acc.toList) v d as) pyD er') ok.al ok.so (fun d hd => ?_)) hlen ⟨_, rfl, ?_⟩) (PyProof.Rows.args_list_sort _)))
  · obtain ⟨b, hb, rfl⟩ := List.mem_map.mp hd
    have := ok.dp b hb
    have e1 : X.A.in1.in1.units = X.A.units + 1 + 1 := rfl
    rw [e1]
    omega
  · obtain ⟨ws, g1, g2⟩ := rp_each (PySem.W.sortVals_data (R := RDv z (hid L H)) false e er' ok.al)
    obtain ⟨e', he'⟩ := PyProof.Rows.sortedHeap_at (vs := acc.toList) (out := (PySem.W.sortVals (PySem.W.dataKind (PySem.W.sortingHeap (h'.push (seqObj "list" acc.toList.toArray 0)) h'.objs.size acc.toList) ((kvs.map Prod.fst).map pyD)) false acc.toList acc.toList).toArray) hoL
    have hlw : ws.length ≤ sizeLine := by rw [g2.length, List.length_mergeSort]; exact ok.sz
    refine wpAny_pure ⟨_, rfl, .ref h'.objs.size, upd H h'.objs.size (.lst ws), I1.laid (t' := tk) (fun b u e => ?_) (Nat.le_refl _)
      (show ObjOk X.prog X.w _ _ _ (.lst ws) from ⟨hlw, _, e', g1, he'⟩), rfl, q _ _ (I1.hok.fresh (Nat.le_refl _)) g2⟩
    have hb : b < h'.objs.size := Heap.lt_size e
    rw [PyProof.Rows.sortedHeap_old (Nat.ne_of_lt hb) (by rw [size_push']; exact Nat.lt_succ_of_lt hb)]
    exact Heap.get?_push_of_some _ e
/-- sorted of a list -/
def rSortLO (z : Z) : List V → Hp → VK → Prop := fun vs H Q => ∃ (L : List Addr) (x : V) (ds : List D), vs = [x] ∧ Rq z L H x (.lst ds) ∧ (∀ a ∈ L, ∃ o, H a = some o) ∧ SortOk ds ∧
  ∀ p ws, H p = none → RpL z (hid L H) ws (ds.mergeSort leDt) → Q (.ref p) (upd H p (.lst ws))
theorem cg_sortLO (hK : X.K = z.K) (hu : X.A.units + 200 < cLine) : CallR X (.builtin "sorted") (rSortLO z) := by
  rintro pins s σ H xs us Q I rs ⟨L, x, ds, rfl, hd, hL, ok, q⟩
  obtain ⟨a, vs, rfl, h1, r1⟩ := hd
  obtain ⟨its, rv, hl, hz⟩ := I.list (SqL.of h1)
  rw [Vals.ref1 rs]
  have e := each_rp rv r1
  refine PySem.W.sorted_data (enc := pyD) hl.isList e (each_reads I hK hid_ext e ok.pl) ok.al ok.so ok.sz (fun d hd => ?_) fun out hlen eo => ?_
  · have := ok.dp d hd
    omega
  · obtain ⟨ws, g1, g2⟩ := rp_each eo
    obtain ⟨ep, he'⟩ := PyProof.Rows.sortedAll_at s.heap its out.toArray
    have hlen : ws.length ≤ sizeLine := by
      rw [g2.length, List.length_mergeSort]
      exact ok.sz
    exact ⟨.ref _, upd H (s.heap.objs.size + 1) (.lst ws), I.laid (t' := s.toks) (fun _ _ => PyProof.Rows.sortedAll_old) (Nat.le_succ _) ⟨hlen, out, ep, g1, he'⟩, rfl, q _ _ (I.hok.fresh (Nat.le_succ _)) g2⟩
end
section
variable {z : Z} {W : XK} {X : Cx} {e : Expr} {s : Sem} {pos xp p : Pos}
open Classical in
noncomputable def R.ownS (xs : List D) (m : Mem) : R Vl := if SortOk xs then R.own (xs.mergeSort leDt) m else .no
noncomputable def sSortKO (i : Nat) : Sem := fun ρ m => match dctAt ρ i m with
  | some kvs => R.ownS (kvs.map Prod.fst) m
  | none => .no
theorem c_sortKO (i : Nat) {x : Str} (g : Gc z W X) (hm : X.mg "sorted" = none) (hN : X.N[i]? = some x := by rfl) (hv : Vis X.env.scope x := by first | exact Or.inl rfl | exact Or.inr (Or.inl rfl) | exact Or.inr (Or.inr rfl)) (hd : (x == ("__debug__" : Str)) = false := by decide)
    (hcd : (x == ("__classdict__" : Str)) = false := by decide) (hg : Gl X "sorted" := by rfl)
    (hs : starEach [Expr.Name x xp] X.env = (false, eval (.Name x xp) X.env) :: starEach [] X.env := by rfl) (hpl : (backTo pos (starEach [] X.env)).any (·.1) = false := by rfl) : CE z W X (.Call (.Name "sorted" p) [.Name x xp] [] pos) (sSortKO i) :=
  pe_mono (pe_callB (cg_sortNO (z := z) g.hK g.pw.1 g.pw.2 g.calm g.hu) hg hm (by decide +kernel) (pa_cons (pe_var (i := i) hN hv hd hcd) pa_nil hs) (by decide) (by decide) hs hpl) fun σ H Q ⟨η, ι, ρ, m, ok, h⟩ => by
    unfold sSortKO at h
    split at h
    · rename_i kvs hk
      obtain ⟨a, xs, ep, q1, e1, e2, e3⟩ := dct_of g ok hk
      rw [g.pw.1, g.pw.2] at e1
      unfold R.ownS at h
      split at h
      · rename_i so
        exact ⟨_, q1, η ++ liv ι m, a, xs, ep, kvs, rfl, e1, e3, ok.mem.hx, so, fun p ws hp r' => own_ok ok.mem hp r' h⟩
      · exact h.elim
    · exact h.elim
noncomputable def sSortO (s : Sem) : Sem := fun ρ m => (s ρ m).bind fun v m1 => match drf m1 v with
  | some (.lst xs) => R.ownS xs m1
  | _ => .no
theorem c_sortO (g : Gc z W X) (hm : X.mg "sorted" = none) (ha : CE z W X e s) (hg : Gl X "sorted" := by rfl)
    (hs : starEach [e] X.env = (false, eval e X.env) :: starEach [] X.env := by rfl) (hpl : (backTo pos (starEach [] X.env)).any (·.1) = false := by rfl) : CE z W X (.Call (.Name "sorted" p) [e] [] pos) (sSortO s) :=
  pe_mono (pe_callB (cg_sortLO (z := z) g.hK g.hu) hg hm (by decide +kernel) (pa_cons ha pa_nil hs) (by decide) (by decide) hs hpl) fun σ H Q ⟨η, ι, ρ, m, ok, h⟩ => by
    refine ⟨η, ι, ρ, m, ok, Post.mono (fun ι1 m1 H1 v st1 k1 h1 x rx => ?_) (Post.bind h)⟩
    split at h1
    · rename_i xs ed
      unfold R.ownS at h1
      split at h1
      · rename_i so
        exact ⟨η ++ liv ι1 m1, x, xs, rfl, rq_of k1 rx ed, k1.hx, so, fun p ws hp r' => own_ok k1 hp r' h1⟩
      · exact h1.elim
    · exact h1.elim
variable {ρ : Env} {m : Mem} {i : Nat} {v : Vl} {xs : List D} {Q : Vl → Mem → Prop}
theorem sortD_some {y : D} (h : sortD xs = some y) : SortOk xs ∧ y = .lst (xs.mergeSort leDt) := by
  unfold sortD at h
  split at h
  · rename_i q; cases h; exact ⟨q, rfl⟩
  · cases h
/-- what the sorting as data gives, as a list of one's own -/
theorem ownS_of {ys : List D} (h : sortD xs = some (.lst ys)) : (R.ownS xs m).wp Q = Q (.p m.length) (m ++ [.lst ys]) := by
  obtain ⟨h1, h2⟩ := sortD_some h
  cases h2
  unfold R.ownS; rw [if_pos h1]; rfl
theorem ownS_ok (h : SortOk xs) : (R.ownS xs m).wp Q = Q (.p m.length) (m ++ [.lst (xs.mergeSort leDt)]) := by
  unfold R.ownS; rw [if_pos h]; rfl
@[simp] theorem w_SortKO : (sSortKO i ρ m).wp Q = match dctAt ρ i m with
    | some kvs => (R.ownS (kvs.map Prod.fst) m).wp Q
    | none => False := by
  unfold sSortKO
  split <;> simp_all
noncomputable def kSortO (Q : Vl → Mem → Prop) : Vl → Mem → Prop := fun v m => match drf m v with
  | some (.lst xs) => (R.ownS xs m).wp Q
  | _ => False
@[simp] theorem k_SortO : kSortO Q v m = match drf m v with
  | some (.lst xs) => (R.ownS xs m).wp Q
  | _ => False := rfl
@[simp] theorem w_SortO : (sSortO s ρ m).wp Q = (s ρ m).wp (kSortO Q) := by
  unfold sSortO; rw [wp_bind]; congr; funext v m1; unfold kSortO
  split <;> simp_all
end
end DL
/-! DLrq: regions as data: equality, in; which values are regions; the region of two fractions. -/
namespace DL
open PySem PySem.Spec PyProof.Rows L2 DLH
theorem unown_lst {m : Mem} {xs : List D} : exitR m.length (.p m.length) (m ++ [.lst xs]) = .ok (.d (.lst xs)) m := by
  unfold exitR
  simp
namespace Rg
theorem eqq_d (x y : Rg) : eqq x.d y.d = decide (x = y) := by
  obtain ⟨a, b, c, e, f⟩ := x
  obtain ⟨a', b', c', e', f'⟩ := y
  simp only [eqq, d, pyD, pyDs, PyData.eqv, PyData.eqvAll, Rg.mk.injEq, Bool.and_true]
  rw [Bool.eq_iff_iff]
  simp
theorem pl_d (x : Rg) : plD x.d = true := by simp [plD, d, pyD, pyDs, PyData.plain, PyData.plainAll]
theorem dp_d (x : Rg) : dpD x.d ≤ 1 := by simp [dpD, d, pyD, pyDs, PyData.depth, PyData.depthAll]
theorem pls_d : ∀ L : List Rg, plDs (L.map d) = true
  | [] => by simp [plDs, pyDs, PyData.plainAll]
  | x :: L => by
    have := pls_d L
    have := pl_d x
    simp_all [plDs, plD, pyDs, PyData.plainAll]
theorem dps_d : ∀ L : List Rg, dpDs (L.map d) ≤ 1
  | [] => by simp [dpDs, pyDs, PyData.depthAll]
  | x :: L => by
    have := dps_d L
    have := dp_d x
    simp_all [dpDs, dpD, pyDs, PyData.depthAll]
    omega
theorem in_d (x : Rg) (L : List Rg) : inD x.d (.lst (L.map d)) = some (.bl (decide (x ∈ L))) := by
  show (if plD x.d && plDs (L.map d) && decide (min (dpDs (L.map d)) (dpD x.d) ≤ 64) then some (D.bl ((L.map d).any fun y => eqq y x.d)) else none) = _
  rw [pl_d, pls_d]
  have := dp_d x
  have h : min (dpDs (L.map d)) (dpD x.d) ≤ 64 := by omega
  simp only [h, decide_true, Bool.and_true, if_true]
  congr 2
  rw [List.any_map, Bool.eq_iff_iff, List.any_eq_true]
  simp only [Function.comp, eqq_d, decide_eq_true_eq]
  exact ⟨fun ⟨y, h1, h2⟩ => h2 ▸ h1, fun h => ⟨x, h, rfl⟩⟩
theorem notIn_d (x : Rg) (L : List Rg) : notInD x.d (.lst (L.map d)) = some (.bl (!decide (x ∈ L))) := by
  unfold notInD
  rw [in_d]
theorem ne_d (x y : Rg) : neD x.d y.d = some (.bl (!decide (x = y))) := by
  have := dp_d x
  have h : min (dpD x.d) (dpD y.d) ≤ 64 := by omega
  unfold neD
  rw [pl_d, pl_d, eqq_d]
  simp only [h, decide_true, Bool.and_true, if_true]
theorem eq_d (x y : Rg) : eqD x.d y.d = some (.bl (decide (x = y))) := by
  have := dp_d x
  have h : min (dpD x.d) (dpD y.d) ≤ 64 := by omega
  unfold eqD
  rw [pl_d, pl_d, eqq_d]
  simp only [h, decide_true, Bool.and_true, if_true]
theorem ne_L (L : List Rg) : neD (.lst (L.map d)) (.lst (L.map d)) = some (.bl false) := by
  have p : plD (.lst (L.map d)) = true := by have := pls_d L; unfold plD plDs at *; rw [pyD, PyData.plain]; exact this
  have q : dpD (.lst (L.map d)) ≤ 2 := by have := dps_d L; unfold dpD dpDs at *; rw [pyD, PyData.depth]; omega
  have e : eqq (.lst (L.map d)) (.lst (L.map d)) = true := SeqAt.eqv_refl_plain _ p
  have h : min (dpD (.lst (L.map d))) (dpD (.lst (L.map d))) ≤ 64 := by omega
  unfold neD
  rw [p, e]
  simp only [h, decide_true]
  rfl
/-- any valid region within the bounds is told -/
theorem mem_of {a b : Int} (F : Facts a b) {x : Rg} (v : Vd x) (h1 : a ≤ x.w) (h2 : x.w + i01 x.b ≤ b) : x ∈ regs a b := by
  rw [← F.law]
  refine (isort_perm _).mem_iff.mpr ?_
  unfold law
  rw [List.mem_filter]
  refine ⟨?_, by simpa using h2⟩
  unfold law0
  have hw : x.w ≤ b := by
    have : 0 ≤ i01 x.b := by cases x.b <;> simp [i01]
    omega
  rw [List.mem_flatMap]
  refine ⟨x.w, mem_rg.mpr ⟨h1, by omega⟩, ?_⟩
  rw [List.mem_flatMap]
  refine ⟨x.b, by cases x.b <;> simp, ?_⟩
  rw [List.mem_flatMap]
  have r0 := v.r0
  have rw' := v.rw
  refine ⟨x.r, mem_rg.mpr ⟨r0, by omega⟩, ?_⟩
  unfold some_
  rw [List.mem_flatMap]
  refine ⟨x.s, by cases x.s <;> simp, ?_⟩
  rw [List.mem_map]
  refine ⟨x.o, ?_, rfl⟩
  rw [List.mem_filter]
  have o := v.o
  have e := v.e
  constructor
  · split at o
    · rename_i q
      rw [if_pos (by simpa using q)]
      rcases (by omega : x.o = -1 ∨ x.o = 0 ∨ x.o = 1) with h | h | h <;> simp [h]
    · rename_i q
      rw [if_neg (by simpa using q)]
      simp [o]
  · by_cases c : x.r < x.w
    · simp [c]
    · have c1 : x.r = x.w := by omega
      have c2 := e c1
      have c3 : x.o < 1 := by omega
      simp only [c, c3, decide_true, decide_false, Bool.false_or, Bool.true_and, Bool.or_eq_true, Bool.not_eq_true']
      cases hb : x.b
      · cases hs : x.s
        · exact .inr rfl
        · rw [hb, hs] at o
          simp [i01] at o
          omega
      · exact .inl rfl
theorem mem_iff {a b : Int} (F : Facts a b) {x : Rg} : x ∈ regs a b ↔ Vd x ∧ a ≤ x.w ∧ x.w + i01 x.b ≤ b :=
  ⟨F.vd x, fun h => mem_of F h.1 h.2.1 h.2.2⟩
end Rg
/-- which values are regions of a machine -/
def regB (a b : Int) : D → Bool
  | .tup [.int w, .bl k, .int r, .bl s, .int o] => decide ((⟨w, k, r, s, o⟩ : Rg) ∈ Rg.regs a b)
  | _ => false
/-- the region of a play p / q and a slack r / s -/
def reg2 (p q r s : Int) : Rg := ⟨p / q, decide (0 < p % q), r / s, decide (0 < r % s), Rg.sg (r % s * q - p % q * s)⟩
theorem sg_if (n : Int) : Rg.sg n = (if 0 < n then 1 else 0) - (if n < 0 then 1 else 0) := by simp [Rg.sg, Rg.i01]
/-- in the parts of a common scale -/
theorem of_reg2 {p q r s g q' s' S : Int} (sf : SF q s S g q' s') (hp : 0 ≤ p) (hr : 0 ≤ r) : Rg.of S (p * s') (r * q') = reg2 p q r s := by
  obtain ⟨g0, eq, es, q0, s0, eS, dq, ds⟩ := sf
  have hq : 0 < q := by rw [eq]; exact Int.mul_pos q0 g0
  have hs : 0 < s := by rw [es]; exact Int.mul_pos s0 g0
  have e1 : S = q * s' := by rw [eS, eq, Int.mul_assoc, Int.mul_assoc, Int.mul_comm s' g]
  have e2 : S = s * q' := by rw [eS, es, Int.mul_assoc, Int.mul_comm q', Int.mul_assoc, Int.mul_comm g q', ]; 
  have d1 : p * s' / S = p / q := by rw [e1]; exact Int.mul_ediv_mul_of_pos_left _ _ s0
  have d2 : r * q' / S = r / s := by rw [e2]; exact Int.mul_ediv_mul_of_pos_left _ _ q0
  have m1 : p * s' % S = p % q * s' := by rw [e1, Int.mul_comm p, Int.mul_comm q, Int.mul_emod_mul_of_pos _ _ s0, Int.mul_comm]
  have m2 : r * q' % S = r % s * q' := by rw [e2, Int.mul_comm r, Int.mul_comm s, Int.mul_emod_mul_of_pos _ _ q0, Int.mul_comm]
  have n1 : 0 ≤ p % q := Int.emod_nonneg _ (by omega)
  have n2 : 0 ≤ r % s := Int.emod_nonneg _ (by omega)
  unfold Rg.of reg2
  rw [d1, d2, m1, m2, sg_if]
  have c1 : (0 < p % q * s') = (0 < p % q) := propext ⟨fun h => Int.pos_of_mul_pos_left h s0 |> fun h => h, fun h => Int.mul_pos h s0⟩
  have c2 : (0 < r % s * q') = (0 < r % s) := propext ⟨fun h => Int.pos_of_mul_pos_left h q0 |> fun h => h, fun h => Int.mul_pos h q0⟩
  have e3 : r % s * q - p % q * s = (r % s * q' - p % q * s') * g := by
    rw [eq, es, Int.sub_mul, Int.mul_assoc, Int.mul_assoc]
  have c3 : (0 < r % s * q - p % q * s) = (p % q * s' < r % s * q') := propext (by
    rw [e3]
    constructor
    · intro h
      have := Int.pos_of_mul_pos_left h g0
      omega
    · intro h
      exact Int.mul_pos (by omega) g0)
  have c4 : (r % s * q - p % q * s < 0) = (r % s * q' < p % q * s') := propext (by
    rw [e3]
    constructor
    · intro h
      by_cases k : 0 ≤ r % s * q' - p % q * s'
      · have := Int.mul_nonneg k (Int.le_of_lt g0)
        omega
      · omega
    · intro h
      exact Int.mul_neg_of_neg_of_pos (by omega) g0)
  simp only [c1, c2, c3, c4]
end DL
/-! DLmp: {k: v, ..}.get(x, y), keys written. -/
namespace DL
open PySem PySem.Spec PyProof.Rows L2 DLH
theorem codeO_dk {c : Addr} {q : Str} (xs : List (L2.Key × V)) : LamX.CodeO c q ≠ .dK xs := fun z => by unfold LamX.CodeO at z; cases z
theorem Gc.w0 {z : Z} {W : XK} {X : Cx} (g : Gc z W X) : Gc z W0 X := ⟨g.hK, g.pw, g.calm, g.nd, takesN0, g.po, g.hu⟩
section
variable {z : Z}
theorem MOk.hwriteD {η ι : List Addr} {m : Mem} {H : Hp} {p : Addr} {ho : HO} {ws : List (L2.Key × V)} (k : MOk z (p :: η) ι m H) (hw : H p = some (.dK ws)) : MOk z (p :: η) ι m (upd H p ho) ∧ hid ((p :: η) ++ liv ι m) (upd H p ho) = hid ((p :: η) ++ liv ι m) H := by
  have e : hid ((p :: η) ++ liv ι m) (upd H p ho) = hid ((p :: η) ++ liv ι m) H := by
    funext b
    unfold hid
    split
    · rfl
    · rename_i n
      exact upd_ne fun q => n (by rw [q]; exact List.mem_append_left _ List.mem_cons_self)
  have npι : p ∉ ι := fun h => k.dj p h List.mem_cons_self
  refine ⟨⟨k.len, k.nd, k.dj, fun a h => ?_, fun l o a h1 h2 => ?_⟩, e⟩
  · by_cases q : a = p
    · subst q; exact ⟨_, upd_same⟩
    · rw [upd_ne q]; exact k.ex a h
  · have na : a ≠ p := fun q => npι (q ▸ List.mem_of_getElem? h2)
    have q := k.obj l o a h1 h2
    rw [e]
    cases o with
    | lst xs => obtain ⟨vs, e3, e4⟩ := q; exact ⟨vs, by rw [upd_ne na]; exact e3, e4⟩
    | ins c gs => obtain ⟨dx, fs, e3, e4⟩ := q; exact ⟨dx, fs, by rw [upd_ne na]; exact e3, e4⟩
    | dead => trivial
    | dct kvs => obtain ⟨xs, ep, e3, e4⟩ := q; exact ⟨xs, ep, by rw [upd_ne na]; exact e3, e4⟩
    | tab n y => exact ⟨q.1, tab_stay q.2 (upd_ne na) fun c e => by rw [upd_ne (fun z => by rw [z, hw] at e; exact codeO_dk _ (Option.some.inj e).symm)]; exact e⟩
end
/-- the pairs of a display: keys that are written, values by what they come to -/
inductive MapC (z : Z) (X : Cx) : List (Option Expr) → List Expr → List L2.Key → SemA → Prop
  | nil : MapC z X [] [] [] aNil
  | cons {k v : Expr} {key : L2.Key} {s : Sem} {ks : List (Option Expr)} {vs : List Expr} {kk : List L2.Key} {r : SemA} : PE X k (tC (kV key)) → CE z W0 X v s → MapC z X ks vs kk r → MapC z X (some k :: ks) (v :: vs) (key :: kk) (aCons s r)
theorem key_int {X : Cx} {i : Int} {j : Nat} {p : Pos} : PE X (.Constant (.int i) j p) (tC (kV (.inl i))) := pe_int
theorem key_neg {X : Cx} {i : Int} {j : Nat} {p p2 : Pos} : PE X (.UnaryOp .USub (.Constant (.int i) j p) p2) (tC (kV (.inl (-i)))) := pe_mono (pe_un un_neg pe_int) fun σ H Q h => ⟨i, rfl, h⟩
theorem key_str {X : Cx} {x : Str} {j : Nat} {p : Pos} : PE X (.Constant (.str x) j p) (tC (kV (.inr x))) := pe_str
theorem MapC.trs {z : Z} {X : Cx} {keys : List (Option Expr)} {values : List Expr} {ks : List L2.Key} {r : SemA} (h : MapC z X keys values ks r) (pos : Pos) :
    keys.all (·.isSome) = true ∧ keys.length = values.length ∧ keys.length = ks.length ∧ ∃ trs, PPs X pos keys values trs ∧ ∀ (σ : L2.St) (H : Hp) (Q : List (V × V) → Hp → Prop), tA z W0 r σ H (fun xs H' => xs.length = ks.length ∧ Q ((ks.zip xs).map fun kv => (kV kv.1, kv.2)) H') → tPairs trs σ H Q := by
  induction h with
  | nil =>
    refine ⟨rfl, rfl, rfl, [], pps_nil, fun σ H Q ⟨η, ι, ρ, m, ok, h⟩ => ?_⟩
    exact (h H ι Stp.refl ok.mem [] .nil).2
  | @cons k v key s ks vs kk r hk hv hr ih =>
    obtain ⟨i1, i2, i3, trs, i4, i5⟩ := ih
    refine ⟨by simpa using i1, by simp [i2], by simp [i3], _, pps_cons hk hv i4, fun σ H Q ⟨η, ι, ρ, m, ok, h⟩ => ?_⟩
    show tE z W0 s σ H _
    refine ⟨η, ι, ρ, m, ok, Post.mono (fun ι1 m1 H1 v1 st1 k1 h1 x rx => ?_) (Post.bind h)⟩
    refine i5 σ H1 _ ⟨η, ι1, ρ, m1, ok.step st1 k1, Post.mono (fun ι2 m2 H2 vs2 st2 k2 h2 xs rxs => ?_) (Post.bind h1)⟩
    have q := h2 H2 ι2 Stp.refl k2 (x :: xs) (.cons (rx.step st2) rxs)
    exact ⟨by simpa using q.1, q.2⟩
def keyOfD : D → Option L2.Key
  | .int i => some (.inl i)
  | .str x => some (.inr x)
  | _ => none
def mapD : List L2.Key → List D → L2.Key → D → D
  | k' :: ks, d' :: ds, k, d => if k' = k then d' else mapD ks ds k d
  | _, _, _, d => d
theorem merge_new : ∀ (kvs acc : List (L2.Key × V)), ((acc ++ kvs).map (·.1)).Nodup → mergeK acc kvs = acc ++ kvs
  | [], acc, _ => by simp [mergeK]
  | p :: r, acc, h => by
    have hn : ¬ (acc.any fun kv => decide (kv.1 = p.1)) = true := by
      intro q
      rw [List.any_eq_true] at q
      obtain ⟨y, hy, e⟩ := q
      have e := of_decide_eq_true e
      rw [List.map_append, List.nodup_append] at h
      exact h.2.2 y.1 (List.mem_map.mpr ⟨y, hy, rfl⟩) p.1 (by simp) e
    have e : putK acc p.1 p.2 = acc ++ [p] := by unfold putK; rw [if_neg hn]
    show mergeK (putK acc p.1 p.2) r = _
    rw [e, merge_new r (acc ++ [p]) (by simpa using h)]
    simp
theorem map_rp {z : Z} {H : Hp} {k : L2.Key} {u : V} {d : D} (ru : Rp z H u d) : ∀ {ks : List L2.Key} {xs : List V} {ds : List D}, RpL z H xs ds → Rp z H ((valV (ks.zip xs) k).getD u) (mapD ks ds k d)
  | [], _, _, _ => by simpa [valV, mapD] using ru
  | _ :: _, _, _, .nil => by simpa [valV, mapD] using ru
  | k' :: ks, _, _, .cons h r => by
    unfold mapD
    rw [List.zip_cons_cons]
    by_cases e : k' = k
    · rw [valV_pos e, if_pos e]; exact h
    · rw [valV_neg e, if_neg e]; exact map_rp ru r
theorem dats_len : ∀ {vs : List Vl} {ds : List D}, dats vs = some ds → vs.length = ds.length
  | [], _, e => by cases e; rfl
  | .d x :: vs, ds, e => by
    unfold dats at e
    obtain ⟨es, e1, rfl⟩ := Option.map_eq_some_iff.mp e
    simp [dats_len e1]
  | .p _ :: _, _, e => by cases e
def mapR (ks : List L2.Key) (vs : List Vl) (w u : Vl) (m : Mem) : R Vl := match dats vs, w, u with
  | some ds, .d x, .d y => (match keyOfD x with
    | some k => .ok (.d (mapD ks ds k y)) m
    | none => .no)
  | _, _, _ => .no
def sMapG (ks : List L2.Key) (r : SemA) (sx so : Sem) : Sem := fun ρ m => (r ρ m).noEr.bind fun vs m1 => (sx ρ m1).noEr.bind fun w m2 => (so ρ m2).noEr.bind fun u m3 => mapR ks vs w u m3
theorem SOk.hideD {z : Z} {η ι : List Addr} {m : Mem} {ρ : Env} {σ : L2.St} {H : Hp} {p : Addr} {ho : HO} (ok : SOk z η ι m ρ σ H) (hp : H p = none) : SOk z (p :: η) ι m ρ σ (upd H p ho) := by
  obtain ⟨k2, ex2⟩ := ok.mem.hide (ho := ho) hp
  exact ⟨k2, ok.len, fun i v e => by
    obtain ⟨x, q1, q2⟩ := ok.slot i v e
    refine ⟨x, q1, ?_⟩
    cases v with
    | d d => exact Rp.ext ex2 q2
    | p l => exact q2⟩
theorem c_mapget {z : Z} {W : XK} {X : Cx} {keys : List (Option Expr)} {values : List Expr} {ks : List L2.Key} {r : SemA} {e f : Expr} {sx so : Sem} {dpos apos pos : Pos} (h : MapC z X keys values ks r) (g : Gc z W X) (hx : CE z W0 X e sx) (hf : CE z W0 X f so)
    (m2 : M2 X (.Dict keys values dpos) "get" apos e f pos) (hnd : ks.Nodup := by decide) (h0 : keys ≠ [] := by simp) (h15 : keys.length ≤ 15 := by simp) :
    CE z W X (.Call (.Attribute (.Dict keys values dpos) "get" apos) [e, f] [] pos) (sMapG ks r sx so) := by
  obtain ⟨a1, a2, a3, trs, a4, a5⟩ := h.trs dpos
  refine pe_mono (pe_dget2 (by have := g.hu; omega) (pe_disp a4 a1 a2 h0 h15) hx hf m2) fun σ H Q ⟨η, ι, ρ, m, ok, hh⟩ => ?_
  intro p hp
  have s2 : SOk z (p :: η) ι m ρ σ (upd H p (.dK [])) := ok.hideD hp
  unfold sMapG at hh
  cases hr : r ρ m with
  | no => rw [hr] at hh; exact hh.elim
  | er ex mm => rw [hr] at hh; exact hh.elim
  | ok vs m1 =>
  rw [hr] at hh
  replace hh : Post z W η ι m H (fun ι' m' H' v => ∀ x, RV z ι' (hid (η ++ liv ι' m') H') x v → Q x H') ((sx ρ m1).noEr.bind fun w m2 => (so ρ m2).noEr.bind fun u m3 => mapR ks vs w u m3) := hh
  cases hx1 : sx ρ m1 with
  | no => rw [hx1] at hh; exact hh.elim
  | er ex mm => rw [hx1] at hh; exact hh.elim
  | ok w m2' =>
  rw [hx1] at hh
  replace hh : Post z W η ι m H (fun ι' m' H' v => ∀ x, RV z ι' (hid (η ++ liv ι' m') H') x v → Q x H') ((so ρ m2').noEr.bind fun u m3 => mapR ks vs w u m3) := hh
  cases ho1 : so ρ m2' with
  | no => rw [ho1] at hh; exact hh.elim
  | er ex mm => rw [ho1] at hh; exact hh.elim
  | ok u m3 =>
  rw [ho1] at hh
  replace hh : Post z W η ι m H (fun ι' m' H' v => ∀ x, RV z ι' (hid (η ++ liv ι' m') H') x v → Q x H') (mapR ks vs w u m3) := hh
  unfold mapR at hh
  split at hh
  · rename_i ds x y ed
    split at hh
    · rename_i k ek
      refine a5 σ _ _ ⟨p :: η, ι, ρ, m, s2, ?_⟩
      rw [hr]
      intro H2 ι2 st2 k2 xs rxs
      have npL : p ∉ liv ι m := fun q => by
        obtain ⟨o, e⟩ := ok.mem.ex p (.inr (liv_sub q))
        rw [hp] at e; cases e
      have hD2 : H2 p = some (.dK []) := (st2.fr p _ npL upd_same).1
      have rd := dats_rp rxs ed
      have hlen : xs.length = ks.length := by
        have hvd : vs.length = ds.length := dats_len ed
        have q := rd.length
        have : ∀ {r : SemA} {keys values ks}, MapC z X keys values ks r → ∀ ρ m vs m1, r ρ m = .ok vs m1 → vs.length = ks.length := by
          intro r keys values ks h
          induction h with
          | nil => intro ρ m vs m1 e; cases e; rfl
          | @cons k v key s ks vs kk r hk hv hr ih =>
            intro ρ m vs m1 e
            unfold aCons at e
            cases h1 : s ρ m with
            | no => rw [h1] at e; cases e
            | er => rw [h1] at e; cases e
            | ok v1 m2 =>
              rw [h1] at e
              cases h2 : r ρ m2 with
              | no => rw [R.bind_ok, h2] at e; cases e
              | er => rw [R.bind_ok, h2] at e; cases e
              | ok vs2 m3 =>
                rw [R.bind_ok, h2] at e
                cases e
                simp [ih _ _ _ _ h2]
        rw [q, ← hvd, this h _ _ _ _ hr]
      refine ⟨hlen, hD2, ks.zip xs, rfl, by simp; omega, p, rfl, .inl ⟨_, .inl upd_same⟩, ?_⟩
      have hmerge : mergeK [] (ks.zip xs) = ks.zip xs := by
        refine merge_new _ _ ?_
        rw [List.nil_append, List.map_fst_zip (by omega)]
        exact hnd
      obtain ⟨k3, e3⟩ := k2.hwriteD (ho := .dK (mergeK [] (ks.zip xs))) hD2
      have sok2 := s2.step st2 k2
      have sok3 : SOk z (p :: η) ι2 m1 ρ σ (upd H2 p (.dK (mergeK [] (ks.zip xs)))) := ⟨k3, sok2.len, fun j w q => by rw [e3]; exact sok2.slot j w q⟩
      have stA : Stp ι m H ι2 m1 H2 := (Stp.grow ok.mem (Ext.new hp)).1.trans st2
      have stB : Stp ι m H ι2 m1 (upd H2 p (.dK (mergeK [] (ks.zip xs)))) := ⟨stA.pre, fun b o n q => by
        have nb : b ≠ p := fun z => by rw [z, hp] at q; cases q
        rw [upd_ne nb]
        exact stA.fr b o n q⟩
      have npL2 : ∀ {ι' : List Addr} {m' : Mem} {H' : Hp}, MOk z (p :: η) ι' m' H' → p ∉ liv ι' m' := fun k q => k.dj p (liv_sub q) List.mem_cons_self
      refine ⟨p :: η, ι2, ρ, m1, sok3, ?_⟩
      rw [hx1]
      intro H3 ι3 st3 k3' y1 ry
      refine ⟨p :: η, ι3, ρ, m2', sok3.step st3 k3', ?_⟩
      rw [ho1]
      intro H4 ι4 st4 k4 u1 ru
      have hD4 : H4 p = some (.dK (mergeK [] (ks.zip xs))) := ((st3.trans st4).fr p _ (npL2 k3) upd_same).1
      refine ⟨valV (mergeK [] (ks.zip xs)) k, .inl ⟨_, k, .inl hD4, ?_, rfl⟩, ?_⟩
      · have ry : Rp z _ y1 x := ry
        unfold keyOfD at ek
        split at ek
        · cases ek; cases ry; rfl
        · cases ek; cases ry; rfl
        · cases ek
      · obtain ⟨ku, exu⟩ := k4.unhide
        refine hh H4 ι4 (stB.trans (st3.trans st4)) ku _ ?_
        rw [hmerge]
        have ru : Rp z _ u1 y := ru
        have r3 : RpL z (hid ((p :: η) ++ liv ι2 m1) (upd H2 p (.dK (mergeK [] (ks.zip xs))))) xs ds := by rw [e3]; exact rd
        exact (map_rp ru (r3.ext (Stp.vis (st3.trans st4)))).ext exu
    · exact hh.elim
  · exact hh.elim
section
variable {ρ : Env} {m : Mem} {ks : List L2.Key} {r : SemA} {sx so : Sem} {vs : List Vl} {w u : Vl} {ds : List D} {x y : D} {Q : Vl → Mem → Prop}
def kMap3 (ks : List L2.Key) (vs : List Vl) (w : Vl) (Q : Vl → Mem → Prop) : Vl → Mem → Prop := fun u m => (mapR ks vs w u m).wp Q
theorem k_Map3 {k : L2.Key} (hd : dats vs = some ds) (hk : keyOfD x = some k) : kMap3 ks vs (.d x) Q (.d y) m = Q (.d (mapD ks ds k y)) m := by
  unfold kMap3 mapR
  rw [hd]
  dsimp only
  rw [hk]
  rfl
def kMap2 (ks : List L2.Key) (vs : List Vl) (so : Sem) (ρ : Env) (Q : Vl → Mem → Prop) : Vl → Mem → Prop := fun w m => (so ρ m).wp (kMap3 ks vs w Q)
@[simp] theorem k_Map2 : kMap2 ks vs so ρ Q w m = (so ρ m).wp (kMap3 ks vs w Q) := rfl
def kMap1 (ks : List L2.Key) (sx so : Sem) (ρ : Env) (Q : Vl → Mem → Prop) : List Vl → Mem → Prop := fun vs m => (sx ρ m).wp (kMap2 ks vs so ρ Q)
@[simp] theorem k_Map1 : kMap1 ks sx so ρ Q vs m = (sx ρ m).wp (kMap2 ks vs so ρ Q) := rfl
@[simp] theorem w_MapG : (sMapG ks r sx so ρ m).wp Q = (r ρ m).wp (kMap1 ks sx so ρ Q) := by
  unfold sMapG
  rw [wp_bind, wp_noEr]; congr; funext vs m1
  rw [wp_bind, wp_noEr]; unfold kMap1; congr; funext w m2
  rw [wp_bind, wp_noEr]; rfl
end
end DL
/-! DLdf: d[k] of a dict that is data. -/
namespace DL
open PySem PySem.Spec PyProof.Rows L2 DLH
section
variable {z : Z} {W : XK} {X : Cx} {e b : Expr} {se si so : Sem} {pos xp spos : Pos}
def ixF (v w : Vl) (m : Mem) : R Vl := match v, w with
  | .d (.dct kvs), .d (.tup ks) => (match keyD (.tup ks) with
    | some k => if k.depth ≤ 8 then (match atKV kvs k with
      | some d => .ok (.d d) m
      | none => .no) else .no
    | none => .no)
  | _, _ => .no
def sDIxF (s si : Sem) : Sem := fun ρ m => (s ρ m).bind fun v m1 => (si ρ m1).bind fun w m2 => ixF v w m2
theorem c_dixF (g : Gc z W X) (he : CE z W X e se) (hi : CE z W X b si) (hs : NoSl b := by exact fun _ _ => rfl) : CE z W X (.Subscript e b pos) (sDIxF se si) :=
  pe_mono (pe_ndget (by have := g.hu; omega) he hi hs) fun σ H Q ⟨η, ι, ρ, m, ok, h⟩ => by
    refine ⟨η, ι, ρ, m, ok, Post.mono (fun ι1 m1 H1 v st1 k1 h1 x rx => ?_) (Post.bind h)⟩
    refine ⟨η, ι1, ρ, m1, ok.step st1 k1, Post.mono (fun ι2 m2 H2 w st2 k2 h2 y ry => ?_) (Post.bind h1)⟩
    unfold ixF at h2
    split at h2
    · rename_i kvs ks
      split at h2
      · rename_i k hkey
        split at h2
        · rename_i hdeep
          split at h2
          · rename_i d' ed
            have rx : Rp z (hid (η ++ liv ι2 m2) H2) x (.dct kvs) := Rp.ext (Stp.vis st2) rx
            have ry : Rp z (hid (η ++ liv ι2 m2) H2) y (.tup ks) := ry
            cases rx with | @dct a xs ep _ ha ra =>
            cases ry with | @tup bb vs _ hb rb =>
            have ryt : Rp z (hid (η ++ liv ι2 m2) H2) (.ref bb) (.tup ks) := .tup hb rb
            have e3 := ra.ndR
            have e1 : H2 a = some (ndO X.prog X.w a xs ep) := by rw [g.pw.1, g.pw.2]; exact (hid_some.mp ha).2
            have q := e3.at k
            cases ek : atKey xs k with
            | none => rw [ek, ed] at q; exact q.elim
            | some p =>
              rw [ek, ed] at q
              obtain ⟨v', rv, rp⟩ := q
              exact ⟨a, bb, xs, ep, k, p, v', rfl, rfl, ⟨e1, by rw [g.hK]; exact e3.keys fun _ _ => hid_ext _ _, by rw [g.hK]; exact (ryt.nk hkey).ext fun _ _ => hid_ext _ _, hdeep⟩, ek, rv, h2 H2 ι2 Stp.refl k2 v' rp⟩
          · exact h2.elim
        · exact h2.elim
      · exact h2.elim
    · exact h2.elim
variable {ρ : Env} {m : Mem} {s : Sem} {v : Vl} {Q : Vl → Mem → Prop}
def kIxF2 (v : Vl) (Q : Vl → Mem → Prop) : Vl → Mem → Prop := fun w m => (ixF v w m).wp Q
theorem k_IxF2 {d : D} {ks : List D} {kvs : List (D × D)} {k : NestedKey} (hk : keyD (.tup ks) = some k) (hd : k.depth ≤ 8) (ha : atKV kvs k = some d) : kIxF2 (.d (.dct kvs)) Q (.d (.tup ks)) m = Q (.d d) m := by
  unfold kIxF2 ixF
  dsimp only
  rw [hk]
  dsimp only
  rw [if_pos hd, ha]
  rfl
def kIxF (si : Sem) (ρ : Env) (Q : Vl → Mem → Prop) : Vl → Mem → Prop := fun v m => (si ρ m).wp (kIxF2 v Q)
@[simp] theorem k_IxF : kIxF si ρ Q v m = (si ρ m).wp (kIxF2 v Q) := rfl
@[simp] theorem w_IxF : (sDIxF s si ρ m).wp Q = (s ρ m).wp (kIxF si ρ Q) := by
  unfold sDIxF; rw [wp_bind]; congr; funext v m1; rw [wp_bind]; rfl
end
end DL
/-! DLfs: the state of a script in a region by forms of the lag; what it has to do with the run in thirds. -/
namespace DL
open PySem PySem.Spec PyProof.Rows L2 DLH
open Rg (Form lagF fsg LK fP f0 fS)
structure Ft where
  dial : Int
  lag : Form
  told : List D
  looks : Int
  spots : List (Int × Form)
def formD (f : Form) : D := .tup [.int f.n, .int f.r, .int f.q]
def spotD (p : Int × Form) : D := .tup [.int p.1, formD p.2]
namespace Ft
def d (s : Ft) : D := .tup [.int s.dial, formD s.lag, .tup s.told, .int s.looks, .lst (s.spots.map spotD)]
def turn (x : Rg) (s : Ft) (n : Int) : Ft := { s with dial := s.dial + n, lag := lagF s.lag n x, spots := s.spots ++ [(s.dial + n, lagF s.lag n x)] }
def turns (x : Rg) (s : Ft) (ns : List Int) : Ft := ns.foldl (turn x) s
def many (x : Rg) (ns : List Int) : Nat → Ft → Ft
  | 0, s => s
  | k + 1, s => many x ns k (s.turns x ns)
def rep (x : Rg) (s : Ft) (k : Int) (ns : List Int) : Ft :=
  if k > 20 then ({ many x ns 20 s with dial := (many x ns 20 s).dial + (k - 21) * ns.sum } : Ft).turns x ns else many x ns k.toNat s
def seen (x : Rg) (s : Ft) (mark : Int) : Str :=
  let g := fsg ⟨s.lag.n + mark - s.dial, s.lag.r, s.lag.q⟩ x
  if 1 = g then "below" else if 0 = g then "at" else if -1 = g then "above" else ""
def looked (s : Ft) (more : Int) (a : D) : Ft := { s with told := s.told ++ [a], looks := s.looks + more }
def untl (x : Rg) (w : Str) (mark n : Int) : Nat → Ft → Ft × Nat
  | 0, s => (s, 0)
  | k + 1, s => if s.seen x mark = w then (s, 0) else ((untl x w mark n k (s.turn x n)).1, (untl x w mark n k (s.turn x n)).2 + 1)
def stepG (x : Rg) (inner : Ft → List D → Ft) (s : Ft) : D → Ft
  | .tup [.str k, .int a] => if k = "by" then s.turn x a else if k = "to" then s.turn x (a - s.dial) else s.looked 1 (.str (s.seen x a))
  | .tup [.str _, .int a, .tup ts] => s.rep x a (intsOf ts)
  | .tup [.str k, .str w, .int n, a, b] => if k = "until" then (match a, b with
      | .int num, .int most => (s.untl x w n num most.toNat).1.looked ((s.untl x w n num most.toNat).2 + 1) (.int (s.untl x w n num most.toNat).2)
      | _, _ => s)
    else inner (s.looked 1 (.str (s.seen x n))) (itemsOf (if s.seen x n = w then a else b))
  | _ => s
def step (x : Rg) : Nat → Ft → D → Ft
  | 0 => stepG x fun s _ => s
  | k + 1 => stepG x fun s xs => xs.foldl (step x k) s
def new : Ft := ⟨0, fS, [], 0, [(0, fS)]⟩
def fate (x : Rg) (xs : List D) : Ft := xs.foldl (step x 3) new
end Ft
/-- by forms and in thirds -/
structure Cor (x : Rg) (s : Ft) (r : RS) : Prop where
  sc : r.scale = 3
  wh : r.whole = x.P3
  st : r.stand = s.dial
  lg : r.lag = s.lag.at3 x
  an : r.ans = s.told
  lk : r.looks = s.looks
  lf : LK s.lag
  l0 : 0 ≤ s.lag.at3 x
  l1 : s.lag.at3 x ≤ x.P3
namespace Cor
variable {x : Rg} {s : Ft} {r : RS}
theorem turn (v : Rg.Vd x) (h : Cor x s r) (n : Int) : Cor x (s.turn x n) (r.turn n) := by
  have e := Rg.lag_at3 v h.lf h.l0 h.l1 n
  have c := Rg.clp_in (P := x.P3) (v := s.lag.at3 x + 3 * n) (Int.le_trans h.l0 h.l1)
  rw [← e] at c
  exact ⟨h.sc, h.wh, by rw [RS.turn_stand, h.st]; rfl, by rw [RS.turn_lag, cl_clp, h.sc, h.wh, h.lg]; exact e.symm, h.an, h.lk, h.lf.lag _ _, c.1, c.2⟩
theorem turns (v : Rg.Vd x) : ∀ (ns : List Int) {s : Ft} {r : RS}, Cor x s r → Cor x (s.turns x ns) (r.turns ns)
  | [], _, _, h => h
  | n :: ns, s, r, h => turns v ns (s := s.turn x n) (r := r.turn n) (h.turn v n)
theorem many (v : Rg.Vd x) (ns : List Int) : ∀ (k : Nat) {s : Ft} {r : RS}, Cor x s r → Cor x (Ft.many x ns k s) (RS.many ns k r)
  | 0, _, _, h => h
  | k + 1, _, _, h => many v ns k (h.turns v ns)
theorem fit (v : Rg.Vd x) (h6 : x.w ≤ 6) (hP : x.P3 ≤ 18) (h : Cor x s r) : RS.Fit r := ⟨by rw [h.sc]; omega, by rw [h.lg]; exact h.l0, by rw [h.lg, h.wh]; exact h.l1, by rw [h.wh, h.sc]; omega⟩
theorem rep (v : Rg.Vd x) (h6 : x.w ≤ 6) (hP : x.P3 ≤ 18) (h : Cor x s r) {k : Int} (hk : 0 ≤ k) (ns : List Int) : Cor x (s.rep x k ns) (r.rep k ns) := by
  have f := h.fit v h6 hP
  rw [RS.rep_many f hk]
  unfold Ft.rep
  by_cases c : k > 20
  · rw [if_pos c]
    obtain ⟨j, hj⟩ : ∃ j, k.toNat = j + 1 := ⟨k.toNat - 1, by omega⟩
    rw [hj, RS.many_succ]
    refine turns v ns ?_
    have h20 := many v ns 20 h
    have w0 : 0 ≤ r.whole := Int.le_trans f.l0 f.lw
    have e1 : (RS.many ns j r).lag = (RS.many ns 20 r).lag := by
      rw [RS.many_lag, RS.many_lag]
      exact (swings_still f.sc w0 f.w6 f.l0 f.lw (j := j) (by omega)).trans (swings_still f.sc w0 f.w6 f.l0 f.lw (j := 20) (by omega)).symm
    have e2 : (RS.many ns j r).stand = (Ft.many x ns 20 s).dial + (k - 21) * ns.sum := by
      rw [← h20.st, RS.many_stand, RS.many_stand]
      have : (j : Int) = (k - 21) + ((20 : Nat) : Int) := by omega
      rw [this, Int.add_mul]
      omega
    refine ⟨by rw [RS.many_scale, h.sc], by rw [RS.many_whole, h.wh], e2, by rw [e1, h20.lg], ?_, ?_, h20.lf, h20.l0, h20.l1⟩
    · rw [← h20.an, RS.many_ans, RS.many_ans]
    · rw [← h20.lk, RS.many_looks, RS.many_looks]
  · rw [if_neg c]
    exact many v ns k.toNat h
theorem seen (v : Rg.Vd x) (h : Cor x s r) (mark : Int) : s.seen x mark = r.seen mark := by
  have k : Rg.Kind ⟨s.lag.n + mark - s.dial, s.lag.r, s.lag.q⟩ := LK.k (f := ⟨s.lag.n + mark - s.dial, s.lag.r, s.lag.q⟩) h.lf
  have e := Rg.fsg_eq v k
  have e2 : Form.at3 ⟨s.lag.n + mark - s.dial, s.lag.r, s.lag.q⟩ x = -(r.spot - mark * r.scale) := by
    unfold RS.spot
    rw [h.sc, h.st, h.lg]
    unfold Rg.Form.at3
    dsimp only
    omega
  rw [e2] at e
  unfold Ft.seen RS.seen
  dsimp only
  rw [e]
  generalize r.spot - mark * r.scale = t
  rcases Rg.sg_cases (-t) with ⟨a, b⟩ | ⟨a, b⟩ | ⟨a, b⟩ <;> rw [b]
  · rw [if_pos rfl, if_neg (by omega), if_pos (by omega)]
  · rw [if_neg (by decide), if_neg (by decide), if_pos rfl, if_neg (by omega), if_neg (by omega)]
  · rw [if_neg (by decide), if_pos rfl, if_pos (by omega)]
theorem look (h : Cor x s r) (m : Int) (a : D) (hm : m = 1) : Cor x (s.looked m a) (r.look.tell a) := by
  subst hm
  exact ⟨h.sc, h.wh, h.st, h.lg, by show r.ans ++ [a] = s.told ++ [a]; rw [h.an], by show r.looks + 1 = s.looks + 1; rw [h.lk], h.lf, h.l0, h.l1⟩
theorem looks (h : Cor x s r) {s' : Ft} {r' : RS} : True := trivial
/-- like, but for the number of looks -/
structure CorL (x : Rg) (s : Ft) (r : RS) (k : Int) : Prop where
  c : Cor x { s with looks := r.looks } r
  lk : r.looks = s.looks + k
theorem CorL.turn (v : Rg.Vd x) {k : Int} (h : CorL x s r k) (n : Int) : CorL x (s.turn x n) (r.look.turn n) (k + 1) :=
  ⟨by
    have := h.c.turn v n
    exact ⟨this.sc, this.wh, this.st, this.lg, this.an, rfl, this.lf, this.l0, this.l1⟩, by show r.looks + 1 = s.looks + (k + 1); rw [h.lk]; omega⟩
theorem CorL.seen (v : Rg.Vd x) {k : Int} (h : CorL x s r k) (mark : Int) : s.seen x mark = r.seen mark := h.c.seen v mark
theorem untl (v : Rg.Vd x) {w : Str} {mark n : Int} : ∀ (j : Nat) {s : Ft} {r : RS} {k : Int}, CorL x s r k → CorL x (s.untl x w mark n j).1 (RS.untl w mark n j r).1 (k + (s.untl x w mark n j).2 + 1) ∧ (s.untl x w mark n j).2 = (RS.untl w mark n j r).2
  | 0, s, r, k, h => ⟨⟨⟨h.c.sc, h.c.wh, h.c.st, h.c.lg, h.c.an, rfl, h.c.lf, h.c.l0, h.c.l1⟩, by show r.looks + 1 = s.looks + (k + 0 + 1); rw [h.lk]; omega⟩, rfl⟩
  | j + 1, s, r, k, h => by
    have hs := h.seen v mark
    unfold Ft.untl RS.untl
    rw [hs]
    split
    · exact ⟨⟨⟨h.c.sc, h.c.wh, h.c.st, h.c.lg, h.c.an, rfl, h.c.lf, h.c.l0, h.c.l1⟩, by show r.looks + 1 = s.looks + (k + 0 + 1); rw [h.lk]; omega⟩, rfl⟩
    · obtain ⟨i1, i2⟩ := untl v (w := w) (mark := mark) (n := n) j (h.turn v n)
      refine ⟨⟨i1.c, ?_⟩, by dsimp only; rw [i2]⟩
      rw [i1.lk]
      simp
      omega
theorem stepG (v : Rg.Vd x) (h6 : x.w ≤ 6) (hP : x.P3 ≤ 18) {i1 : Ft → List D → Ft} {i2 : RS → List D → RS} {g : D → Prop} (hi : ∀ (s : Ft) (r : RS) (xs : List D), (∀ y ∈ xs, g y) → Cor x s r → Cor x (i1 s xs) (i2 r xs)) {d : D} (hd : Shape g d) (h : Cor x s r) : Cor x (s.stepG x i1 d) (DL.stepG i2 r d) := by
  cases hd with
  | by_ a a0 a1 => exact h.turn v a
  | to a a0 a1 =>
    show Cor x (s.turn x (a - s.dial)) (r.turn (a - r.stand))
    rw [h.st]; exact h.turn v _
  | look a a0 a1 =>
    show Cor x (s.looked 1 (.str (s.seen x a))) (r.look.tell (.str (r.seen a)))
    rw [h.seen v]; exact h.look 1 _ rfl
  | rep a ns a0 a1 l1 l6 hn => exact h.rep v h6 hP a0 _
  | untl w n num most hw n0 n1 a0 a1 az m1 m20 =>
    show Cor x ((s.untl x w n num most.toNat).1.looked ((s.untl x w n num most.toNat).2 + 1) (.int (s.untl x w n num most.toNat).2)) ((RS.untl w n num most.toNat r).1.tell (.int (RS.untl w n num most.toNat r).2))
    obtain ⟨c, e⟩ := untl v (w := w) (mark := n) (n := num) most.toNat (s := s) (r := r) (k := 0) ⟨⟨h.sc, h.wh, h.st, h.lg, h.an, rfl, h.lf, h.l0, h.l1⟩, by rw [h.lk]; omega⟩
    rw [e] at c ⊢
    exact ⟨c.c.sc, c.c.wh, c.c.st, c.c.lg, by show _ ++ [_] = _ ++ [_]; rw [c.c.an], by show (RS.untl w n num most.toNat r).1.looks = (s.untl x w n num most.toNat).1.looks + _; rw [c.lk]; omega, c.c.lf, c.c.l0, c.c.l1⟩
  | cond w n ss os hw n0 n1 s4 o4 hs ho =>
    show Cor x (i1 (s.looked 1 (.str (s.seen x n))) (itemsOf (if s.seen x n = w then .tup ss else .tup os))) (i2 (r.look.tell (.str (r.seen n))) (itemsOf (if r.seen n = w then .tup ss else .tup os)))
    rw [h.seen v]
    split
    · exact hi _ _ _ hs (h.look 1 _ rfl)
    · exact hi _ _ _ ho (h.look 1 _ rfl)
theorem step (v : Rg.Vd x) (h6 : x.w ≤ 6) (hP : x.P3 ≤ 18) : ∀ (k : Nat) (s : Ft) (r : RS) (d : D), stepB k d = true → Cor x s r → Cor x (s.step x k d) (stepS k r d)
  | 0, s, r, d, hd, h => stepG v h6 hP (fun s r _ _ h => h) (shape_step 0 hd) h
  | k + 1, s, r, d, hd, h => stepG v h6 hP (fun s r xs hx h => by
      induction xs generalizing s r with
      | nil => exact h
      | cons y xs ih =>
        obtain ⟨j, e, hj⟩ := hx y (by simp)
        obtain rfl : k = j := by omega
        exact ih _ _ (fun z hz => hx z (by simp [hz])) (step v h6 hP k s r y hj h)) (shape_step (k + 1) hd) h
theorem run (v : Rg.Vd x) (h6 : x.w ≤ 6) (hP : x.P3 ≤ 18) : ∀ (xs : List D) (s : Ft) (r : RS), (∀ y ∈ xs, stepB 3 y = true) → Cor x s r → Cor x (xs.foldl (Ft.step x 3) s) (runS r xs)
  | [], _, _, _, h => h
  | y :: xs, s, r, hx, h => run v h6 hP xs _ _ (fun z hz => hx z (by simp [hz])) (step v h6 hP 3 s r y (hx y (by simp)) h)
theorem new (v : Rg.Vd x) : Cor x Ft.new (newR 3 x.P3 x.S3) :=
  ⟨rfl, rfl, rfl, by show x.S3 = fS.at3 x; simp, rfl, rfl, .inr (.inl ⟨rfl, rfl⟩), by show 0 ≤ fS.at3 x; simp; exact v.le.1, by show fS.at3 x ≤ x.P3; simp; exact v.le.2⟩
end Cor
theorem P3_le {x : Rg} {hi : Int} (w2 : x.w + Rg.i01 x.b ≤ hi) (h6 : hi ≤ 6) : x.P3 ≤ 18 := by
  unfold Rg.P3
  cases hb : x.b <;> rw [hb] at w2 <;> simp [Rg.i01] at w2 ⊢
  · omega
  · split <;> (try split) <;> omega
theorem fate_cor {x : Rg} (v : Rg.Vd x) (h6 : x.w ≤ 6) (hP : x.P3 ≤ 18) {xs : List D} (hx : ∀ y ∈ xs, stepB 3 y = true) : Cor x (Ft.fate x xs) (runG x xs) := Cor.run v h6 hP xs _ _ hx (Cor.new v)
/-! ### how many spots -/
namespace Ft
variable {x : Rg} {s : Ft}
theorem turns_spots : ∀ (ns : List Int) (s : Ft), (s.turns x ns).spots.length = s.spots.length + ns.length
  | [], s => rfl
  | n :: ns, s => by
    show ((s.turn x n).turns x ns).spots.length = _
    rw [turns_spots ns]
    simp [turn]
    omega
theorem many_spots {ns : List Int} (h6 : ns.length ≤ 6) : ∀ (k : Nat) (s : Ft), (many x ns k s).spots.length ≤ s.spots.length + 6 * k
  | 0, s => Nat.le_refl _
  | k + 1, s => by
    show (many x ns k (s.turns x ns)).spots.length ≤ _
    have := many_spots h6 k (s.turns x ns)
    rw [turns_spots] at this
    omega
theorem rep_spots {ns : List Int} (h6 : ns.length ≤ 6) (k : Int) : (s.rep x k ns).spots.length ≤ s.spots.length + 126 := by
  unfold rep
  split
  · rw [turns_spots]
    have := many_spots (x := x) h6 20 s
    show (many x ns 20 s).spots.length + _ ≤ _
    omega
  · have := many_spots (x := x) h6 k.toNat s
    have : k.toNat ≤ 20 := by omega
    omega
theorem untl_spots {w : Str} {mark n : Int} : ∀ (k : Nat) (s : Ft), (s.untl x w mark n k).1.spots.length ≤ s.spots.length + k ∧ (s.untl x w mark n k).2 ≤ k
  | 0, s => ⟨Nat.le_refl _, Nat.le_refl _⟩
  | k + 1, s => by
    unfold untl
    split
    · exact ⟨by dsimp only; omega, by dsimp only; omega⟩
    · obtain ⟨h1, h2⟩ := untl_spots (w := w) (mark := mark) (n := n) k (s.turn x n)
      have : (s.turn x n).spots.length = s.spots.length + 1 := by simp [turn]
      exact ⟨by dsimp only; omega, by dsimp only; omega⟩
theorem stepG_spots {inner : Ft → List D → Ft} {g : D → Prop} {w : Nat} (hi : ∀ (s : Ft) (xs : List D), xs.length ≤ 4 → (∀ y ∈ xs, g y) → (inner s xs).spots.length ≤ s.spots.length + w) {d : D} (hd : Shape g d) : (s.stepG x inner d).spots.length ≤ s.spots.length + (126 + w) := by
  cases hd with
  | by_ a a0 a1 => show (s.turn x a).spots.length ≤ _; simp [turn]; omega
  | to a a0 a1 => show (s.turn x _).spots.length ≤ _; simp [turn]; omega
  | look a a0 a1 => show s.spots.length ≤ _; omega
  | rep a ns a0 a1 l1 l6 hn =>
    show (s.rep x a (intsOf (ns.map .int))).spots.length ≤ _
    have e : ∀ ns : List Int, intsOf (ns.map D.int) = ns := fun ns => by induction ns with
      | nil => rfl
      | cons n ns ih => show n :: intsOf (ns.map D.int) = _; rw [ih]
    rw [e]
    have := rep_spots (x := x) (s := s) l6 a
    omega
  | untl w' n num most hw n0 n1 a0 a1 az m1 m20 =>
    show (s.untl x w' n num most.toNat).1.spots.length ≤ _
    have := (untl_spots (x := x) (w := w') (mark := n) (n := num) most.toNat s).1
    omega
  | cond w' n ss os hw n0 n1 s4 o4 hs ho =>
    show (inner (s.looked 1 (.str (s.seen x n))) (itemsOf (if s.seen x n = w' then .tup ss else .tup os))).spots.length ≤ _
    have h1 := hi (s.looked 1 (.str (s.seen x n))) ss s4 hs
    have h2 := hi (s.looked 1 (.str (s.seen x n))) os o4 ho
    have e : (s.looked 1 (.str (s.seen x n))).spots = s.spots := rfl
    rw [e] at h1 h2
    split
    · show (inner _ ss).spots.length ≤ _; omega
    · show (inner _ os).spots.length ≤ _; omega
theorem fold_spots {k w : Nat} (h : ∀ (s : Ft) (d : D), stepB k d = true → (s.step x k d).spots.length ≤ s.spots.length + w) : ∀ (xs : List D) (s : Ft), (∀ y ∈ xs, stepB k y = true) → (xs.foldl (step x k) s).spots.length ≤ s.spots.length + xs.length * w
  | [], s, _ => by simp
  | y :: xs, s, hx => by
    have h1 := h s y (hx y (by simp))
    have h2 := fold_spots h xs (s.step x k y) fun z hz => hx z (by simp [hz])
    simp only [List.foldl_cons, List.length_cons, Nat.add_mul, Nat.one_mul]
    omega
theorem step_spots : ∀ (k : Nat) (s : Ft) (d : D), stepB k d = true → (s.step x k d).spots.length ≤ s.spots.length + 126 * Wt k
  | 0, s, d, hd => stepG_spots (w := 0) (fun s _ _ _ => Nat.le_refl _) (shape_step 0 hd)
  | k + 1, s, d, hd => by
    have e : 126 * Wt (k + 1) = 126 + 4 * (126 * Wt k) := by show 126 * (1 + 4 * Wt k) = _; omega
    rw [e]
    refine stepG_spots (fun s xs h4 hx => ?_) (shape_step (k + 1) hd)
    have := fold_spots (fun s d hd => step_spots k s d hd) xs s fun y hy => by
      obtain ⟨j, e, hj⟩ := hx y hy
      obtain rfl : k = j := by omega
      exact hj
    have h5 : xs.length * (126 * Wt k) ≤ 4 * (126 * Wt k) := Nat.mul_le_mul_right _ h4
    omega
end Ft
end DL
/-! DLms: scripts that measure the play (k18). -/
namespace DL
open PySem PySem.Spec PyProof.Rows L2 DLH
open Rg (Form lagF fsg LK fP f0 fS)
/-- the steps that tell a play from lo to hi, the width at most 2 ^ n -/
def chs (tol : Int) : Nat → Int → Int → List D
  | 0, _, _ => []
  | n + 1, lo, hi => if hi - lo ≤ tol then [] else [.tup [.str "if", .str "below", .int (-((lo + hi) / 2)), .tup (chs tol n ((lo + hi) / 2) hi), .tup (chs tol n lo ((lo + hi) / 2))]]
/-- what is told on the way -/
def wordP (P mid : Int) : Str := if 3 * mid < P then "below" else if P = 3 * mid then "at" else "above"
def pth (tol P : Int) : Nat → Int → Int → List Str
  | 0, _, _ => []
  | n + 1, lo, hi => if hi - lo ≤ tol then [] else wordP P ((lo + hi) / 2) :: (if 3 * ((lo + hi) / 2) < P then pth tol P n ((lo + hi) / 2) hi else pth tol P n lo ((lo + hi) / 2))
/-- where it ends -/
def fin (tol P : Int) : Nat → Int → Int → Int × Int
  | 0, lo, hi => (lo, hi)
  | n + 1, lo, hi => if hi - lo ≤ tol then (lo, hi) else if 3 * ((lo + hi) / 2) < P then fin tol P n ((lo + hi) / 2) hi else fin tol P n lo ((lo + hi) / 2)
theorem chs_len (tol : Int) : ∀ (n : Nat) (lo hi : Int), (chs tol n lo hi).length ≤ 1
  | 0, _, _ => by simp [chs]
  | n + 1, lo, hi => by unfold chs; split <;> simp
theorem half {n : Nat} {lo hi : Int} (h : hi - lo ≤ 2 ^ (n + 1)) (h0 : lo ≤ hi) : hi - (lo + hi) / 2 ≤ 2 ^ n ∧ (lo + hi) / 2 - lo ≤ 2 ^ n ∧ lo ≤ (lo + hi) / 2 ∧ (lo + hi) / 2 ≤ hi := by
  have e : (2 : Int) ^ (n + 1) = 2 * 2 ^ n := by rw [Int.pow_succ, Int.mul_comm]
  rw [e] at h
  generalize (2 : Int) ^ n = t at *
  omega
theorem fin_width {tol P : Int} (ht : 1 ≤ tol) : ∀ (n : Nat) (lo hi : Int), lo ≤ hi → hi - lo ≤ 2 ^ n → (fin tol P n lo hi).2 - (fin tol P n lo hi).1 ≤ tol
  | 0, lo, hi, h0, h => by simp [fin] at h ⊢; omega
  | n + 1, lo, hi, h0, h => by
    obtain ⟨a, b, c, d⟩ := half h h0
    unfold fin
    split
    · assumption
    · split
      · exact fin_width ht n _ _ d a
      · exact fin_width ht n _ _ c b
theorem fin_same {tol P P' : Int} : ∀ (n : Nat) (lo hi : Int), pth tol P n lo hi = pth tol P' n lo hi → fin tol P n lo hi = fin tol P' n lo hi
  | 0, _, _, _ => rfl
  | n + 1, lo, hi, h => by
    unfold pth at h
    unfold fin
    split
    · rfl
    · rename_i c
      rw [if_neg c, if_neg c] at h
      obtain ⟨h1, h2⟩ := List.cons.inj h
      have n1 : Str.ofString "below" ≠ Str.ofString "at" := by decide
      have n2 : Str.ofString "below" ≠ Str.ofString "above" := by decide
      have key : (3 * ((lo + hi) / 2) < P) ↔ (3 * ((lo + hi) / 2) < P') := by
        unfold wordP at h1
        by_cases a : 3 * ((lo + hi) / 2) < P <;> by_cases b : 3 * ((lo + hi) / 2) < P'
        · simp [a, b]
        · rw [if_pos a, if_neg b] at h1
          split at h1
          · exact absurd h1 n1
          · exact absurd h1 n2
        · rw [if_neg a, if_pos b] at h1
          split at h1
          · exact absurd h1.symm n1
          · exact absurd h1.symm n2
        · simp [a, b]
      by_cases a : 3 * ((lo + hi) / 2) < P
      · have b := key.mp a
        rw [if_pos a, if_pos b] at h2 ⊢
        exact fin_same n _ _ h2
      · have b := fun q => a (key.mpr q)
        rw [if_neg a, if_neg b] at h2 ⊢
        exact fin_same n _ _ h2
theorem fin_in {tol : Int} {x : Rg} (v : Rg.Vd x) : ∀ (n : Nat) (lo hi : Int), lo ≤ hi → lo ≤ x.w → x.w + Rg.i01 x.b ≤ hi → (fin tol x.P3 n lo hi).1 ≤ x.w ∧ x.w + Rg.i01 x.b ≤ (fin tol x.P3 n lo hi).2
  | 0, lo, hi, _, h1, h2 => ⟨h1, h2⟩
  | n + 1, lo, hi, h0, h1, h2 => by
    have hP : 3 * x.w ≤ x.P3 ∧ x.P3 ≤ 3 * x.w + 2 * Rg.i01 x.b ∧ 3 * x.w + Rg.i01 x.b ≤ x.P3 := by
      unfold Rg.P3
      cases x.b <;> simp [Rg.i01]
      split <;> (try split) <;> omega
    have hb : 0 ≤ Rg.i01 x.b ∧ Rg.i01 x.b ≤ 1 := by cases x.b <;> simp [Rg.i01]
    unfold fin
    split
    · exact ⟨h1, h2⟩
    · split
      · exact fin_in v n _ _ (by omega) (by omega) h2
      · exact fin_in v n _ _ (by omega) h1 (by omega)
/-- what the steps tell -/
theorem chs_run {tol : Int} {x : Rg} (v : Rg.Vd x) : ∀ (n k : Nat) (lo hi : Int) (s : Ft), n ≤ k → s.dial = 0 → s.lag = fP →
    ((chs tol n lo hi).foldl (Ft.step x k) s).told = s.told ++ (pth tol x.P3 n lo hi).map .str ∧ ((chs tol n lo hi).foldl (Ft.step x k) s).looks = s.looks + (pth tol x.P3 n lo hi).length
  | 0, k, lo, hi, s, _, _, _ => by simp [chs, pth]
  | n + 1, 0, lo, hi, s, hk, _, _ => by omega
  | n + 1, k + 1, lo, hi, s, hk, hd, hl => by
    unfold chs pth
    split
    · simp
    · have hs : s.seen x (-((lo + hi) / 2)) = wordP x.P3 ((lo + hi) / 2) := by
        have kd : Rg.Kind ⟨s.lag.n + -((lo + hi) / 2) - s.dial, s.lag.r, s.lag.q⟩ := by rw [hl]; exact .inr (.inr (.inl ⟨rfl, rfl⟩))
        have e := Rg.fsg_eq v kd
        have e2 : Form.at3 ⟨s.lag.n + -((lo + hi) / 2) - s.dial, s.lag.r, s.lag.q⟩ x = x.P3 - 3 * ((lo + hi) / 2) := by
          rw [hl, hd]
          unfold Form.at3 fP
          dsimp only
          omega
        rw [e2] at e
        unfold Ft.seen wordP
        dsimp only
        rw [e]
        generalize (lo + hi) / 2 = md
        rcases Rg.sg_cases (x.P3 - 3 * md) with ⟨a, b⟩ | ⟨a, b⟩ | ⟨a, b⟩ <;> rw [b]
        · rw [if_pos rfl, if_pos (by omega)]
        · rw [if_neg (by decide), if_neg (by decide), if_pos rfl, if_neg (by omega), if_neg (by omega)]
        · rw [if_neg (by decide), if_pos rfl, if_neg (by omega), if_pos (by omega)]
      have n1 : Str.ofString "if" ≠ Str.ofString "until" := by decide
      have e : ([.tup [.str "if", .str "below", .int (-((lo + hi) / 2)), .tup (chs tol n ((lo + hi) / 2) hi), .tup (chs tol n lo ((lo + hi) / 2))]] : List D).foldl (Ft.step x (k + 1)) s =
          (if s.seen x (-((lo + hi) / 2)) = "below" then chs tol n ((lo + hi) / 2) hi else chs tol n lo ((lo + hi) / 2)).foldl (Ft.step x k) (s.looked 1 (.str (s.seen x (-((lo + hi) / 2))))) := by
        rw [List.foldl_cons, List.foldl_nil]
        show Ft.stepG x (fun s xs => xs.foldl (Ft.step x k) s) s (.tup [.str "if", .str "below", .int (-((lo + hi) / 2)), .tup (chs tol n ((lo + hi) / 2) hi), .tup (chs tol n lo ((lo + hi) / 2))]) = _
        simp only [Ft.stepG]
        rw [if_neg n1]
        split <;> rfl
      rw [e, hs]
      have c : (wordP x.P3 ((lo + hi) / 2) = Str.ofString "below") ↔ 3 * ((lo + hi) / 2) < x.P3 := by
        unfold wordP
        by_cases a : 3 * ((lo + hi) / 2) < x.P3
        · simp [a]
        · rw [if_neg a]
          constructor
          · intro h
            split at h
            · exact absurd h (by decide)
            · exact absurd h (by decide)
          · intro h; exact absurd h a
      have step1 : ∀ (a b : Int), (((chs tol n a b).foldl (Ft.step x k) (s.looked 1 (.str (wordP x.P3 ((lo + hi) / 2))))).told = s.told ++ (wordP x.P3 ((lo + hi) / 2) :: pth tol x.P3 n a b).map .str) ∧ ((chs tol n a b).foldl (Ft.step x k) (s.looked 1 (.str (wordP x.P3 ((lo + hi) / 2))))).looks = s.looks + ((wordP x.P3 ((lo + hi) / 2) :: pth tol x.P3 n a b).length : Nat) := fun a b => by
        obtain ⟨i1, i2⟩ := chs_run v n k a b (s.looked 1 (.str (wordP x.P3 ((lo + hi) / 2)))) (by omega) hd hl
        rw [i1, i2]
        refine ⟨by simp [Ft.looked], ?_⟩
        simp [Ft.looked]
        omega
      by_cases a : 3 * ((lo + hi) / 2) < x.P3
      · rw [if_pos (c.mpr a), if_pos a]
        exact step1 _ _
      · rw [if_neg (fun q => a (c.mp q)), if_neg a]
        exact step1 _ _
theorem chs_step {tol : Int} : ∀ (n k : Nat) (lo hi : Int), n ≤ k → 0 ≤ lo → lo ≤ hi → hi ≤ 6 → ∀ y ∈ chs tol n lo hi, stepB k y = true
  | 0, k, lo, hi, _, _, _, _, y, hy => by simp [chs] at hy
  | n + 1, 0, lo, hi, hk, _, _, _, y, hy => by omega
  | n + 1, k + 1, lo, hi, hk, h0, hlo, h6, y, hy => by
    unfold chs at hy
    split at hy
    · simp at hy
    · rename_i c
      simp at hy
      subst hy
      have a1 := chs_step (tol := tol) n k ((lo + hi) / 2) hi (by omega) (by omega) (by omega) h6
      have a2 := chs_step (tol := tol) n k lo ((lo + hi) / 2) (by omega) h0 (by omega) (by omega)
      have l1 := chs_len tol n ((lo + hi) / 2) hi
      have l2 := chs_len tol n lo ((lo + hi) / 2)
      simp only [stepB, oneB, innerB, wd, wh, Bool.and_eq_true, Bool.or_eq_true, decide_eq_true_eq, List.all_eq_true]
      refine ⟨⟨by simp, by omega, by omega⟩, .inr ⟨⟨trivial, by omega, a1⟩, by omega, a2⟩⟩
/-! ### the fewest looks -/
def lookN (tol : Int) : Nat → Int → Int
  | 0, _ => 0
  | n + 1, w => if w > tol then 1 + lookN tol n ((w + 1) / 2) else 0
def need1 (tol : Int) (known : List Int) (size : Int) : List Int := known ++ [if size ≤ tol then 0 else 1 + (match (Rg.rg 1 (size - 1).toNat).map (fun p => if (known.getD (size - p).toNat 0) > (known.getD p.toNat 0) then known.getD (size - p).toNat 0 else known.getD p.toNat 0) with | a :: r => lmin a r | [] => 0)]
def needL (tol w : Int) : List Int := (Rg.rg 1 w.toNat).foldl (need1 tol) [0]
def looksOk : Bool := (Rg.rg 1 6).all fun tol => (Rg.rg 0 7).all fun w => decide ((needL tol w).getD w.toNat 0 = lookN tol 4 w) && decide ((needL tol w).length = w.toNat + 1)
theorem looks_ok : looksOk = true := by decide +kernel
theorem pth_len {tol P : Int} (ht : 1 ≤ tol) : ∀ (n k : Nat) (lo hi : Int), lo ≤ hi → hi - lo ≤ 2 ^ n → n ≤ k → ((pth tol P n lo hi).length : Int) ≤ lookN tol k (hi - lo)
  | 0, k, lo, hi, h0, h, hk => by
    have : ∀ (k : Nat) (w : Int), 0 ≤ lookN tol k w := by
      intro k
      induction k with
      | zero => intro w; exact Int.le_refl _
      | succ k ih => intro w; unfold lookN; split <;> (try have := ih ((w + 1) / 2)) <;> omega
    simpa [pth] using this k _
  | n + 1, 0, lo, hi, h0, h, hk => by omega
  | n + 1, k + 1, lo, hi, h0, h, hk => by
    obtain ⟨a, b, c, d⟩ := half h h0
    have mono : ∀ (k : Nat) (u w : Int), u ≤ w → lookN tol k u ≤ lookN tol k w := by
      intro k
      induction k with
      | zero => intro u w _; exact Int.le_refl _
      | succ k ih =>
        intro u w huw
        have nn : ∀ (k : Nat) (w : Int), 0 ≤ lookN tol k w := by
          intro k
          induction k with
          | zero => intro w; exact Int.le_refl _
          | succ k ih => intro w; unfold lookN; split <;> (try have := ih ((w + 1) / 2)) <;> omega
        unfold lookN
        split <;> split
        · have := ih ((u + 1) / 2) ((w + 1) / 2) (by omega); omega
        · omega
        · have := nn k ((w + 1) / 2); omega
        · omega
    unfold pth lookN
    by_cases ct : hi - lo ≤ tol
    · rw [if_pos ct, if_neg (show ¬ hi - lo > tol by omega)]; simp
    · rw [if_neg ct, if_pos (show hi - lo > tol by omega)]
      by_cases cp : 3 * ((lo + hi) / 2) < P
      · rw [if_pos cp]
        have i := pth_len (tol := tol) (P := P) ht n k ((lo + hi) / 2) hi d a (by omega)
        have m := mono k (hi - (lo + hi) / 2) ((hi - lo + 1) / 2) (by omega)
        simp only [List.length_cons]
        omega
      · rw [if_neg cp]
        have i := pth_len (tol := tol) (P := P) ht n k lo ((lo + hi) / 2) c b (by omega)
        have m := mono k ((lo + hi) / 2 - lo) ((hi - lo + 1) / 2) (by omega)
        simp only [List.length_cons]
        omega
end DL
namespace K18
open PySem PySem.Spec PyProof.Rows L2 LamX DLH DL
abbrev es : List Nat := [3, 4]
abbrev eb : Nat := 40
abbrev er_InvalidMachine : Nat := 43
abbrev er_InvalidNumber : Nat := 44
def N_is_int : List Str := ["value", "low", "high"]
noncomputable def sem_is_int  : SemS :=
  sSeq (sRet (sAnd (sBif (isiD [.int]) (aCons (sVar 0) aNil)) (sAnd (sNot (sBif (isiD [.bool]) (aCons (sVar 0) aNil))) (sChain leD leD (sVar 1) (sVar 0) (sVar 2))))) (sNil)

def N_is_machine : List Str := ["value", "part"]
noncomputable def sem_is_machine (G_is_int : Fn) : SemS :=
  sSeq (sIf (tOr' (tNo (sTb (sBif (isiD [.tuple]) (aCons (sVar 0) aNil)))) (tOr' (sTb (sBin neD (sBif lenD (aCons (sVar 0) (aNil))) (sC (.int 2)))) (tNo (sTb (sBif allD (aCons (sLc (sIter (sVar 0)) [1] (.one 1) (tYes) (sCall 3 G_is_int (aCons (sVar 1) (aCons (sC (.int 0)) (aCons (sC (.int 6)) (aNil)))))) (aNil))))))) (sSeq (sRet (sC (.bl false))) (sNil)) (sNil)) (sSeq (sRet (sBin leD (sBin ixD (sVar 0) (sC (.int 0))) (sBin ixD (sVar 0) (sC (.int 1))))) (sNil))

def N_need_machine : List Str := ["machine"]
noncomputable def sem_need_machine (G_is_machine : Fn) : SemS :=
  sSeq (sIf (tNo (sTb (sCall 1 G_is_machine (aCons (sVar 0) (aNil))))) (sSeq (sRaise er_InvalidMachine) (sNil)) (sNil)) (sNil)

def N_need_number : List Str := ["number", "low", "high"]
noncomputable def sem_need_number (G_is_int : Fn) : SemS :=
  sSeq (sIf (tNo (sTb (sCall 3 G_is_int (aCons (sVar 0) (aCons (sVar 1) (aCons (sVar 2) (aNil))))))) (sSeq (sRaise er_InvalidNumber) (sNil)) (sNil)) (sNil)

def N_looks_for : List Str := ["width", "tolerance", "many"]
noncomputable def sem_looks_for  : SemS :=
  sSeq (sSet 2 (sC (.int 0))) (sSeq (sWhile (fuK 25) (sTb (sBin gtD (sVar 0) (sVar 1))) (sSeq (sPar2 0 2 (aCons (sBin fdivD (sBin addD (sVar 0) (sC (.int 1))) (sC (.int 2))) (aCons (sBin addD (sVar 2) (sC (.int 1))) (aNil)))) (sNil))) (sSeq (sRet (sVar 2)) (sNil)))

def N_choices : List Str := ["low", "high", "tolerance", "middle"]
noncomputable def sem_choices (G_choices : Fn) : SemS :=
  sSeq (sIf (sTb (sBin leD (sBin subD (sVar 1) (sVar 0)) (sVar 2))) (sSeq (sRet (sTup (aNil))) (sNil)) (sNil)) (sSeq (sSet 3 (sBin fdivD (sBin addD (sVar 0) (sVar 1)) (sC (.int 2)))) (sSeq (sRet (sTup (aCons (sTup (aCons (sC (.str "if")) (aCons (sC (.str "below")) (aCons (sUn negD (sVar 3)) (aCons (sCall 3 G_choices (aCons (sVar 3) (aCons (sVar 1) (aCons (sVar 2) (aNil))))) (aCons (sCall 3 G_choices (aCons (sVar 0) (aCons (sVar 3) (aCons (sVar 2) (aNil))))) (aNil))))))) (aNil)))) (sNil)))

def N_need_tolerance : List Str := ["machine", "tolerance"]
noncomputable def sem_need_tolerance (G_need_machine : Fn) (G_need_number : Fn) : SemS :=
  sSeq (sDrop (sCall 1 G_need_machine (aCons (sVar 0) (aNil)))) (sSeq (sDrop (sCall 3 G_need_number (aCons (sVar 1) (aCons (sC (.int 1)) (aCons (sC (.int 6)) (aNil)))))) (sNil))

def N_looks_needed : List Str := ["machine", "tolerance"]
noncomputable def sem_looks_needed (G_need_tolerance : Fn) (G_looks_for : Fn) : SemS :=
  sSeq (sDrop (sCall 2 G_need_tolerance (aCons (sVar 0) (aCons (sVar 1) (aNil))))) (sSeq (sRet (sCall 2 G_looks_for (aCons (sBin subD (sBin ixD (sVar 0) (sC (.int 1))) (sBin ixD (sVar 0) (sC (.int 0)))) (aCons (sVar 1) (aNil))))) (sNil))

def N_measuring : List Str := ["machine", "tolerance", "least", "most", "steps"]
noncomputable def sem_measuring (G_need_tolerance : Fn) (G_choices : Fn) : SemS :=
  sSeq (sDrop (sCall 2 G_need_tolerance (aCons (sVar 0) (aCons (sVar 1) (aNil))))) (sSeq (sSetT [2, 3] (sVar 0)) (sSeq (sSet 4 (sCall 3 G_choices (aCons (sVar 2) (aCons (sVar 3) (aCons (sVar 1) (aNil)))))) (sSeq (sRet (sIte (sTb (sBin eqD (sVar 4) (sTup (aNil)))) (sTup (aNil)) (sBin addD (sTup (aCons (sTup (aCons (sC (.str "by")) (aCons (sUn negD (sVar 3)) (aNil)))) (aCons (sTup (aCons (sC (.str "by")) (aCons (sVar 3) (aNil)))) (aNil)))) (sVar 4)))) (sNil))))

def N_law_drum : List Str := ["script", "k", "cell"]
noncomputable def sem_law_drum  : SemS :=
  sSeq (sSet 2 (sBin addD (sBin mulD (sC (.int 66643)) (sVar 1)) (sC (.int 53)))) (sSeq (sIf (sTb (sBin ltD (sVar 1) (sBif lenD (aCons (sVar 0) (aNil))))) (sSeq (sSet 2 (sBin modD (sBif absD (aCons (sBif intD (aCons (sBin ixD (sVar 0) (sVar 1)) (aNil))) (aNil))) (sBin mulD (sBin mulD (sBin mulD (sBin powD (sC (.int 10)) (sC (.int 60))) (sBin powD (sC (.int 10)) (sC (.int 60)))) (sBin powD (sC (.int 10)) (sC (.int 60)))) (sBin powD (sC (.int 10)) (sC (.int 60)))))) (sNil)) (sSeq (sIf (sTb (sBin gtD (sBif lenD (aCons (sVar 0) (aNil))) (sC (.int 0)))) (sSeq (sSet 2 (sBin addD (sVar 2) (sBin modD (sBif absD (aCons (sBif intD (aCons (sBin ixD (sVar 0) (sC (.int 0))) (aNil))) (aNil))) (sC (.int 1000249))))) (sNil)) (sNil)) (sNil))) (sSeq (sRet (sLstO (aCons (sIte (sTb (sBin geD (sVar 2) (sBin powD (sC (.int 10)) (sC (.int 18))))) (sVar 2) (sC (.int 0))) (aCons (sBin addD (sBin modD (sBif intD (aCons (sBin addD (sBin addD (sBin mulD (sBin modD (sVar 2) (sC (.int 2147483299))) (sC (.int 7))) (sBin mulD (sC (.int 47)) (sVar 1))) (sC (.int 11))) (aNil))) (sC (.int 2147483299))) (sC (.int 1))) (aNil))))) (sNil)))

def N_law_spin : List Str := ["drum", "many", "found", "wide"]
noncomputable def sem_law_spin  : SemS :=
  sSeq (sIf (sTb (sBin gtD (sBin ixD (sVar 0) (sC (.int 0))) (sC (.int 0)))) (sSeq (sSet 2 (sBin modD (sBif intD (aCons (sBin ixD (sVar 0) (sC (.int 0))) (aNil))) (sVar 1))) (sSeq (sSetIx 0 (sC (.int 0)) (sBin fdivD (sBin ixD (sVar 0) (sC (.int 0))) (sVar 1))) (sSeq (sRet (sVar 2)) (sNil)))) (sNil)) (sSeq (sSetT [2, 3] (sTup (aCons (sC (.int 0)) (aCons (sC (.int 1)) (aNil))))) (sSeq (sWhile (fuI 1) (tOr' (sTb (sBin ltD (sVar 3) (sVar 1))) (sTb (sBin eqD (sVar 3) (sC (.int 1))))) (sSeq (sSetIx 0 (sC (.int 1)) (sBin modD (sBif intD (aCons (sBin addD (sBin mulD (sBin ixD (sVar 0) (sC (.int 1))) (sC (.int 29989))) (sC (.int 59))) (aNil))) (sC (.int 2147483299)))) (sSeq (sSet 2 (sBin addD (sBin mulD (sVar 2) (sC (.int 8192))) (sBin modD (sBif intD (aCons (sBin fdivD (sBin ixD (sVar 0) (sC (.int 1))) (sC (.int 65567))) (aNil))) (sC (.int 8192))))) (sSeq (sSet 3 (sBin mulD (sVar 3) (sC (.int 8192)))) (sNil))))) (sSeq (sRet (sBin modD (sBif intD (aCons (sVar 2) (aNil))) (sVar 1))) (sNil))))

def N_law_pick : List Str := ["drum", "things"]
noncomputable def sem_law_pick (G_law_spin : Fn) : SemS :=
  sSeq (sRet (sBin ixD (sVar 1) (sCall 2 G_law_spin (aCons (sVar 0) (aCons (sBif lenD (aCons (sVar 1) (aNil))) (aNil)))))) (sNil)

def N_law_machine : List Str := ["drum", "most", "high"]
noncomputable def sem_law_machine (G_law_spin : Fn) (G_law_pick : Fn) : SemS :=
  sSeq (sSet 2 (sCall 2 G_law_spin (aCons (sVar 0) (aCons (sBin addD (sVar 1) (sC (.int 1))) (aNil))))) (sSeq (sRet (sTup (aCons (sCall 2 G_law_pick (aCons (sVar 0) (aCons (sLst (aCons (sC (.int 0)) (aCons (sC (.int 0)) (aCons (sVar 2) (aCons (sCall 2 G_law_spin (aCons (sVar 0) (aCons (sBin addD (sVar 2) (sC (.int 1))) (aNil)))) (aNil)))))) (aNil)))) (aCons (sVar 2) (aNil))))) (sNil))

def N_law_sign : List Str := ["number"]
noncomputable def sem_law_sign  : SemS :=
  sSeq (sRet (sBin subD (sBif intD (aCons (sBin gtD (sVar 0) (sC (.int 0))) (aNil))) (sBif intD (aCons (sBin ltD (sVar 0) (sC (.int 0))) (aNil))))) (sNil)

def N_law_regions : List Str := ["machine", "found", "whole", "broken", "rest", "region"]
noncomputable def sem_law_regions (G_law_some_regions : Fn) : SemS :=
  sSeq (sSet 1 (sLst (aNil))) (sSeq (sFor (.one 2) (sRng2 (sBin ixD (sVar 0) (sC (.int 0))) (sBin addD (sBin ixD (sVar 0) (sC (.int 1))) (sC (.int 1)))) (sSeq (sFor (.one 3) (sIter (sLst (aCons (sC (.bl false)) (aCons (sC (.bl true)) (aNil))))) (sSeq (sFor (.one 4) (sRng1 (sBin addD (sVar 2) (sC (.int 1)))) (sSeq (sSet 1 (sBin addD (sVar 1) (sCall 3 G_law_some_regions (aCons (sVar 2) (aCons (sVar 3) (aCons (sVar 4) (aNil))))))) (sNil))) (sNil))) (sNil))) (sSeq (sRet (sBif sortedD (aCons (sLc (sIter (sVar 1)) [5] (.one 5) (sTb (sBin leD (sBin addD (sBin ixD (sVar 5) (sC (.int 0))) (sBif intD (aCons (sBin ixD (sVar 5) (sC (.int 1))) (aNil)))) (sBin ixD (sVar 0) (sC (.int 1))))) (sVar 5)) (aNil)))) (sNil)))

def N_law_orders : List Str := ["broken", "split"]
noncomputable def sem_law_orders  : SemS :=
  sSeq (sIf (tAn (sTb (sVar 0)) (sTb (sVar 1))) (sSeq (sRet (sLst (aCons (sUn negD (sC (.int 1))) (aCons (sC (.int 0)) (aCons (sC (.int 1)) (aNil)))))) (sNil)) (sNil)) (sSeq (sRet (sLst (aCons (sBin subD (sBif intD (aCons (sVar 1) (aNil))) (sBif intD (aCons (sVar 0) (aNil)))) (aNil)))) (sNil))

def N_law_form_sign : List Str := ["form", "region", "whole", "broken", "rest", "split", "order", "number", "rests", "plays", "size"]
noncomputable def sem_law_form_sign (G_law_sign : Fn) : SemS :=
  sSeq (sSetT [2, 3, 4, 5, 6] (sVar 1)) (sSeq (sSetT [7, 8, 9] (sVar 0)) (sSeq (sSet 10 (sBin addD (sBin addD (sVar 7) (sBin mulD (sVar 8) (sVar 4))) (sBin mulD (sVar 9) (sVar 2)))) (sSeq (sIf (sTb (sBin neD (sVar 10) (sC (.int 0)))) (sSeq (sRet (sCall 1 G_law_sign (aCons (sVar 10) (aNil)))) (sNil)) (sNil)) (sSeq (sIf (tAn (sTb (sBin eqD (sVar 8) (sC (.int 1)))) (sTb (sBin eqD (sVar 9) (sUn negD (sC (.int 1)))))) (sSeq (sRet (sVar 6)) (sNil)) (sNil)) (sSeq (sRet (sBin addD (sBin mulD (sVar 8) (sBif intD (aCons (sVar 5) (aNil)))) (sBin mulD (sVar 9) (sBif intD (aCons (sVar 3) (aNil)))))) (sNil))))))

def N_law_less_form : List Str := ["one", "other"]
noncomputable def sem_law_less_form  : SemS :=
  sSeq (sRet (sTup (aCons (sBin subD (sBin ixD (sVar 0) (sC (.int 0))) (sBin ixD (sVar 1) (sC (.int 0)))) (aCons (sBin subD (sBin ixD (sVar 0) (sC (.int 1))) (sBin ixD (sVar 1) (sC (.int 1)))) (aCons (sBin subD (sBin ixD (sVar 0) (sC (.int 2))) (sBin ixD (sVar 1) (sC (.int 2)))) (aNil)))))) (sNil)

def N_law_lag : List Str := ["lag", "number", "region", "there"]
noncomputable def sem_law_lag (G_law_form_sign : Fn) (G_law_less_form : Fn) : SemS :=
  sSeq (sSet 3 (sTup (aCons (sBin addD (sBin ixD (sVar 0) (sC (.int 0))) (sVar 1)) (aCons (sBin ixD (sVar 0) (sC (.int 1))) (aCons (sBin ixD (sVar 0) (sC (.int 2))) (aNil)))))) (sSeq (sIf (tAn (sTb (sBin gtD (sVar 1) (sC (.int 0)))) (sTb (sBin geD (sCall 2 G_law_form_sign (aCons (sCall 2 G_law_less_form (aCons (sVar 3) (aCons (sTup (aCons (sC (.int 0)) (aCons (sC (.int 0)) (aCons (sC (.int 1)) (aNil))))) (aNil)))) (aCons (sVar 2) (aNil)))) (sC (.int 0))))) (sSeq (sRet (sTup (aCons (sC (.int 0)) (aCons (sC (.int 0)) (aCons (sC (.int 1)) (aNil)))))) (sNil)) (sNil)) (sSeq (sIf (tAn (sTb (sBin ltD (sVar 1) (sC (.int 0)))) (sTb (sBin leD (sCall 2 G_law_form_sign (aCons (sVar 3) (aCons (sVar 2) (aNil)))) (sC (.int 0))))) (sSeq (sRet (sTup (aCons (sC (.int 0)) (aCons (sC (.int 0)) (aCons (sC (.int 0)) (aNil)))))) (sNil)) (sNil)) (sSeq (sRet (sVar 3)) (sNil))))

def N_law_turned : List Str := ["state", "number", "region", "dial", "lag", "told", "looks_so", "spots"]
noncomputable def sem_law_turned (G_law_lag : Fn) : SemS :=
  sSeq (sSetT [3, 4, 5, 6, 7] (sVar 0)) (sSeq (sPar2 3 4 (aCons (sBin addD (sVar 3) (sVar 1)) (aCons (sCall 3 G_law_lag (aCons (sVar 4) (aCons (sVar 1) (aCons (sVar 2) (aNil))))) (aNil)))) (sSeq (sRet (sTup (aCons (sVar 3) (aCons (sVar 4) (aCons (sVar 5) (aCons (sVar 6) (aCons (sBin addD (sVar 7) (sLst (aCons (sTup (aCons (sVar 3) (aCons (sVar 4) (aNil)))) (aNil)))) (aNil)))))))) (sNil)))

def N_law_seen : List Str := ["state", "mark", "region", "dial", "lag", "sign"]
noncomputable def sem_law_seen (G_law_form_sign : Fn) : SemS :=
  sSeq (sSetT [3, 4] (sSl (sVar 0) (oNone) (oSome (sC (.int 2))))) (sSeq (sSet 5 (sCall 2 G_law_form_sign (aCons (sTup (aCons (sBin subD (sBin addD (sBin ixD (sVar 4) (sC (.int 0))) (sVar 1)) (sVar 3)) (aCons (sBin ixD (sVar 4) (sC (.int 1))) (aCons (sBin ixD (sVar 4) (sC (.int 2))) (aNil))))) (aCons (sVar 2) (aNil))))) (sSeq (sRet (sMapG [.inl 1, .inl 0, .inl (-1)] (aCons (sC (.str "below")) (aCons (sC (.str "at")) (aCons (sC (.str "above")) (aNil)))) (sVar 5) (sC (.str "")))) (sNil)))

def N_law_looked : List Str := ["state", "more", "answer"]
noncomputable def sem_law_looked  : SemS :=
  sSeq (sRet (sBin addD (sSl (sVar 0) (oNone) (oSome (sC (.int 2)))) (sTup (aCons (sBin addD (sBin ixD (sVar 0) (sC (.int 2))) (sVar 2)) (aCons (sBin addD (sBin ixD (sVar 0) (sC (.int 3))) (sVar 1)) (aCons (sBin ixD (sVar 0) (sC (.int 4))) (aNil))))))) (sNil)

def N_law_repeat : List Str := ["state", "many", "turns_so", "region", "time", "number"]
noncomputable def sem_law_repeat (G_law_turned : Fn) : SemS :=
  sSeq (sFor (.one 4) (sRng1 (sBif min2D (aCons (sVar 1) (aCons (sC (.int 20)) (aNil))))) (sSeq (sFor (.one 5) (sIter (sVar 2)) (sSeq (sSet 0 (sCall 3 G_law_turned (aCons (sVar 0) (aCons (sVar 5) (aCons (sVar 3) (aNil)))))) (sNil))) (sNil))) (sSeq (sIf (sTb (sBin gtD (sVar 1) (sC (.int 20)))) (sSeq (sSet 0 (sBin addD (sTup (aCons (sBin addD (sBin ixD (sVar 0) (sC (.int 0))) (sBin mulD (sBin subD (sVar 1) (sC (.int 21))) (sBif sumD (aCons (sVar 2) (aNil))))) (aNil))) (sSl (sVar 0) (oSome (sC (.int 1))) (oNone)))) (sSeq (sFor (.one 5) (sIter (sVar 2)) (sSeq (sSet 0 (sCall 3 G_law_turned (aCons (sVar 0) (aCons (sVar 5) (aCons (sVar 3) (aNil)))))) (sNil))) (sNil))) (sNil)) (sSeq (sRet (sVar 0)) (sNil)))

def N_law_until : List Str := ["state", "step", "region", "kind", "word", "mark", "number", "most", "done"]
noncomputable def sem_law_until (G_law_seen : Fn) (G_law_turned : Fn) (G_law_looked : Fn) : SemS :=
  sSeq (sSetT [3, 4, 5, 6, 7] (sVar 1)) (sSeq (sSet 8 (sC (.int 0))) (sSeq (sWhile (fuK 25) (tAn (sTb (sBin neD (sCall 3 G_law_seen (aCons (sVar 0) (aCons (sVar 5) (aCons (sVar 2) (aNil))))) (sVar 4))) (sTb (sBin ltD (sVar 8) (sVar 7)))) (sSeq (sPar2 0 8 (aCons (sCall 3 G_law_turned (aCons (sVar 0) (aCons (sVar 6) (aCons (sVar 2) (aNil))))) (aCons (sBin addD (sVar 8) (sC (.int 1))) (aNil)))) (sNil))) (sSeq (sRet (sCall 3 G_law_looked (aCons (sVar 0) (aCons (sBin addD (sVar 8) (sC (.int 1))) (aCons (sTup (aCons (sVar 8) (aNil))) (aNil)))))) (sNil))))

def N_law_done : List Str := ["state", "step", "region", "mark", "seen"]
noncomputable def sem_law_done (G_law_turned : Fn) (G_law_repeat : Fn) (G_law_until : Fn) (G_law_seen : Fn) (G_law_looked : Fn) (G_law_all_done : Fn) : SemS :=
  sSeq (sIf (sTb (sBin eqD (sBin ixD (sVar 1) (sC (.int 0))) (sC (.str "by")))) (sSeq (sRet (sCall 3 G_law_turned (aCons (sVar 0) (aCons (sBin ixD (sVar 1) (sC (.int 1))) (aCons (sVar 2) (aNil)))))) (sNil)) (sNil)) (sSeq (sIf (sTb (sBin eqD (sBin ixD (sVar 1) (sC (.int 0))) (sC (.str "to")))) (sSeq (sRet (sCall 3 G_law_turned (aCons (sVar 0) (aCons (sBin subD (sBin ixD (sVar 1) (sC (.int 1))) (sBin ixD (sVar 0) (sC (.int 0)))) (aCons (sVar 2) (aNil)))))) (sNil)) (sNil)) (sSeq (sIf (sTb (sBin eqD (sBin ixD (sVar 1) (sC (.int 0))) (sC (.str "repeat")))) (sSeq (sRet (sCall 4 G_law_repeat (aCons (sVar 0) (aCons (sBin ixD (sVar 1) (sC (.int 1))) (aCons (sBin ixD (sVar 1) (sC (.int 2))) (aCons (sVar 2) (aNil))))))) (sNil)) (sNil)) (sSeq (sIf (sTb (sBin eqD (sBin ixD (sVar 1) (sC (.int 0))) (sC (.str "until")))) (sSeq (sRet (sCall 3 G_law_until (aCons (sVar 0) (aCons (sVar 1) (aCons (sVar 2) (aNil)))))) (sNil)) (sNil)) (sSeq (sSet 3 (sIte (sTb (sBin eqD (sBin ixD (sVar 1) (sC (.int 0))) (sC (.str "look")))) (sBin ixD (sVar 1) (sC (.int 1))) (sBin ixD (sVar 1) (sC (.int 2))))) (sSeq (sSet 4 (sCall 3 G_law_seen (aCons (sVar 0) (aCons (sVar 3) (aCons (sVar 2) (aNil)))))) (sSeq (sSet 0 (sCall 3 G_law_looked (aCons (sVar 0) (aCons (sC (.int 1)) (aCons (sTup (aCons (sVar 4) (aNil))) (aNil)))))) (sSeq (sIf (sTb (sBin eqD (sBin ixD (sVar 1) (sC (.int 0))) (sC (.str "if")))) (sSeq (sSet 0 (sCall 3 G_law_all_done (aCons (sVar 0) (aCons (sIte (sTb (sBin eqD (sVar 4) (sBin ixD (sVar 1) (sC (.int 1))))) (sBin ixD (sVar 1) (sC (.int 3))) (sBin ixD (sVar 1) (sC (.int 4)))) (aCons (sVar 2) (aNil)))))) (sNil)) (sNil)) (sSeq (sRet (sVar 0)) (sNil)))))))))

def N_law_all_done : List Str := ["state", "steps", "region", "step"]
noncomputable def sem_law_all_done (G_law_done : Fn) : SemS :=
  sSeq (sFor (.one 3) (sIter (sVar 1)) (sSeq (sSet 0 (sCall 3 G_law_done (aCons (sVar 0) (aCons (sVar 3) (aCons (sVar 2) (aNil)))))) (sNil))) (sSeq (sRet (sVar 0)) (sNil))

def N_law_fate : List Str := ["script", "region"]
noncomputable def sem_law_fate (G_law_all_done : Fn) : SemS :=
  sSeq (sRet (sCall 3 G_law_all_done (aCons (sTup (aCons (sC (.int 0)) (aCons (sTup (aCons (sC (.int 0)) (aCons (sC (.int 1)) (aCons (sC (.int 0)) (aNil))))) (aCons (sTup (aNil)) (aCons (sC (.int 0)) (aCons (sLst (aCons (sTup (aCons (sC (.int 0)) (aCons (sTup (aCons (sC (.int 0)) (aCons (sC (.int 1)) (aCons (sC (.int 0)) (aNil))))) (aNil)))) (aNil))) (aNil))))))) (aCons (sVar 0) (aCons (sVar 1) (aNil)))))) (sNil)

def N_law_is_whole : List Str := ["thing", "low", "high"]
noncomputable def sem_law_is_whole  : SemS :=
  sSeq (sRet (sAnd (sBif (isiD [.int]) (aCons (sVar 0) aNil)) (sAnd (sNot (sBif (isiD [.bool]) (aCons (sVar 0) aNil))) (sChain leD leD (sVar 1) (sVar 0) (sVar 2))))) (sNil)

def N_law_is_turn : List Str := ["thing"]
noncomputable def sem_law_is_turn (G_law_is_whole : Fn) : SemS :=
  sSeq (sRet (sCall 3 G_law_is_whole (aCons (sVar 0) (aCons (sUn negD (sC (.int 12))) (aCons (sC (.int 12)) (aNil)))))) (sNil)

def N_law_is_word : List Str := ["thing"]
noncomputable def sem_law_is_word  : SemS :=
  sSeq (sRet (sAnd (sBif (isiD [.str]) (aCons (sVar 0) aNil)) (sBin inD (sVar 0) (sTup (aCons (sC (.str "below")) (aCons (sC (.str "at")) (aCons (sC (.str "above")) (aNil)))))))) (sNil)

def N_law_is_inner : List Str := ["thing", "deep", "step"]
noncomputable def sem_law_is_inner (G_law_is_step : Fn) : SemS :=
  sSeq (sIf (tOr' (tNo (sTb (sBif (isiD [.tuple]) (aCons (sVar 0) aNil)))) (sTb (sBin gtD (sBif lenD (aCons (sVar 0) (aNil))) (sC (.int 4))))) (sSeq (sRet (sC (.bl false))) (sNil)) (sNil)) (sSeq (sRet (sBin eqD (sLc (sIter (sVar 0)) [2] (.one 2) (tNo (sTb (sCall 2 G_law_is_step (aCons (sVar 2) (aCons (sVar 1) (aNil)))))) (sVar 2)) (sLst (aNil)))) (sNil))

def N_law_is_long : List Str := ["thing", "deep"]
noncomputable def sem_law_is_long (G_law_is_word : Fn) (G_law_is_whole : Fn) (G_law_is_turn : Fn) (G_law_is_inner : Fn) : SemS :=
  sSeq (sIf (tOr' (tNo (sTb (sCall 1 G_law_is_word (aCons (sBin ixD (sVar 0) (sC (.int 1))) (aNil))))) (tNo (sTb (sCall 3 G_law_is_whole (aCons (sBin ixD (sVar 0) (sC (.int 2))) (aCons (sUn negD (sC (.int 40))) (aCons (sC (.int 40)) (aNil)))))))) (sSeq (sRet (sC (.bl false))) (sNil)) (sNil)) (sSeq (sIf (sTb (sBin eqD (sBin ixD (sVar 0) (sC (.int 0))) (sC (.str "until")))) (sSeq (sRet (sAnd (sCall 1 G_law_is_turn (aCons (sBin ixD (sVar 0) (sC (.int 3))) (aNil))) (sAnd (sBin neD (sBin ixD (sVar 0) (sC (.int 3))) (sC (.int 0))) (sCall 3 G_law_is_whole (aCons (sBin ixD (sVar 0) (sC (.int 4))) (aCons (sC (.int 1)) (aCons (sC (.int 20)) (aNil)))))))) (sNil)) (sNil)) (sSeq (sIf (tOr' (sTb (sBin neD (sBin ixD (sVar 0) (sC (.int 0))) (sC (.str "if")))) (sTb (sBin eqD (sVar 1) (sC (.int 0))))) (sSeq (sRet (sC (.bl false))) (sNil)) (sNil)) (sSeq (sRet (sAnd (sCall 2 G_law_is_inner (aCons (sBin ixD (sVar 0) (sC (.int 3))) (aCons (sBin subD (sVar 1) (sC (.int 1))) (aNil)))) (sCall 2 G_law_is_inner (aCons (sBin ixD (sVar 0) (sC (.int 4))) (aCons (sBin subD (sVar 1) (sC (.int 1))) (aNil)))))) (sNil))))

def N_law_is_step : List Str := ["thing", "deep", "turn"]
noncomputable def sem_law_is_step (G_law_is_long : Fn) (G_law_is_whole : Fn) (G_law_is_turn : Fn) : SemS :=
  sSeq (sIf (tOr' (tNo (sTb (sBif (isiD [.tuple]) (aCons (sVar 0) aNil)))) (tOr' (sTb (sBin notInD (sBif lenD (aCons (sVar 0) (aNil))) (sTup (aCons (sC (.int 2)) (aCons (sC (.int 3)) (aCons (sC (.int 5)) (aNil))))))) (tNo (sTb (sBif (isiD [.str]) (aCons (sBin ixD (sVar 0) (sC (.int 0))) aNil)))))) (sSeq (sRet (sC (.bl false))) (sNil)) (sNil)) (sSeq (sIf (sTb (sBin eqD (sBif lenD (aCons (sVar 0) (aNil))) (sC (.int 5)))) (sSeq (sRet (sCall 2 G_law_is_long (aCons (sVar 0) (aCons (sVar 1) (aNil))))) (sNil)) (sNil)) (sSeq (sIf (sTb (sBin eqD (sBif lenD (aCons (sVar 0) (aNil))) (sC (.int 3)))) (sSeq (sIf (tOr' (sTb (sBin neD (sBin ixD (sVar 0) (sC (.int 0))) (sC (.str "repeat")))) (tNo (sTb (sCall 3 G_law_is_whole (aCons (sBin ixD (sVar 0) (sC (.int 1))) (aCons (sC (.int 0)) (aCons (sBin subD (sBin mulD (sBin powD (sC (.int 10)) (sC (.int 20))) (sBin powD (sC (.int 10)) (sC (.int 20)))) (sC (.int 1))) (aNil)))))))) (sSeq (sRet (sC (.bl false))) (sNil)) (sNil)) (sSeq (sIf (tOr' (tNo (sTb (sBif (isiD [.tuple]) (aCons (sBin ixD (sVar 0) (sC (.int 2))) aNil)))) (tNo (sTb (sChain leD leD (sC (.int 1)) (sBif lenD (aCons (sBin ixD (sVar 0) (sC (.int 2))) (aNil))) (sC (.int 6)))))) (sSeq (sRet (sC (.bl false))) (sNil)) (sNil)) (sSeq (sRet (sBin eqD (sLc (sIter (sBin ixD (sVar 0) (sC (.int 2)))) [2] (.one 2) (tNo (sTb (sCall 1 G_law_is_turn (aCons (sVar 2) (aNil))))) (sVar 2)) (sLst (aNil)))) (sNil)))) (sNil)) (sSeq (sIf (sTb (sBin eqD (sBin ixD (sVar 0) (sC (.int 0))) (sC (.str "by")))) (sSeq (sRet (sCall 1 G_law_is_turn (aCons (sBin ixD (sVar 0) (sC (.int 1))) (aNil)))) (sNil)) (sNil)) (sSeq (sRet (sAnd (sBin inD (sBin ixD (sVar 0) (sC (.int 0))) (sTup (aCons (sC (.str "to")) (aCons (sC (.str "look")) (aNil))))) (sCall 3 G_law_is_whole (aCons (sBin ixD (sVar 0) (sC (.int 1))) (aCons (sUn negD (sC (.int 40))) (aCons (sC (.int 40)) (aNil))))))) (sNil)))))

def N_law_is_script : List Str := ["thing", "step"]
noncomputable def sem_law_is_script (G_law_is_step : Fn) : SemS :=
  sSeq (sIf (tOr' (tNo (sTb (sBif (isiD [.tuple]) (aCons (sVar 0) aNil)))) (sTb (sBin gtD (sBif lenD (aCons (sVar 0) (aNil))) (sC (.int 8))))) (sSeq (sRet (sC (.bl false))) (sNil)) (sNil)) (sSeq (sRet (sBin eqD (sLc (sIter (sVar 0)) [1] (.one 1) (tNo (sTb (sCall 2 G_law_is_step (aCons (sVar 1) (aCons (sC (.int 3)) (aNil)))))) (sVar 1)) (sLst (aNil)))) (sNil))

def N_law_some_regions : List Str := ["whole", "broken", "rest", "found", "split", "order"]
noncomputable def sem_law_some_regions (G_law_orders : Fn) : SemS :=
  sSeq (sSet 3 (sLstO (aNil))) (sSeq (sFor (.one 4) (sIter (sLst (aCons (sC (.bl false)) (aCons (sC (.bl true)) (aNil))))) (sSeq (sFor (.one 5) (sIter (sCall 2 G_law_orders (aCons (sVar 1) (aCons (sVar 4) (aNil))))) (sSeq (sIf (tOr' (sTb (sBin ltD (sVar 2) (sVar 0))) (tAn (sTb (sBin ltD (sVar 5) (sC (.int 1)))) (tOr' (sTb (sVar 1)) (tNo (sTb (sVar 4)))))) (sSeq (sApp 3 (sTup (aCons (sVar 0) (aCons (sVar 1) (aCons (sVar 2) (aCons (sVar 4) (aCons (sVar 5) (aNil)))))))) (sNil)) (sNil)) (sNil))) (sNil))) (sSeq (sRet (sVar 3)) (sNil)))

def N_law_needed : List Str := ["width", "tolerance", "known", "size", "part"]
noncomputable def sem_law_needed  : SemS :=
  sSeq (sSet 2 (sLstO (aCons (sC (.int 0)) (aNil)))) (sSeq (sFor (.one 3) (sRng2 (sC (.int 1)) (sBin addD (sVar 0) (sC (.int 1)))) (sSeq (sIf (sTb (sBin leD (sVar 3) (sVar 1))) (sSeq (sApp 2 (sC (.int 0))) (sNil)) (sSeq (sApp 2 (sBin addD (sC (.int 1)) (sBif minLD (aCons (sLc (sRng2 (sC (.int 1)) (sVar 3)) [4] (.one 4) (tYes) (sBif max2D (aCons (sBin ixD (sVar 2) (sVar 4)) (aCons (sBin ixD (sVar 2) (sBin subD (sVar 3) (sVar 4))) (aNil))))) (aNil))))) (sNil))) (sNil))) (sSeq (sRet (sBin ixD (sVar 2) (sVar 0))) (sNil)))

def N_law_measures : List Str := ["machine", "steps", "tolerance", "many", "last_so", "region", "state", "low", "high", "told"]
noncomputable def sem_law_measures (G_law_is_script : Fn) (G_law_regions : Fn) (G_law_fate : Fn) : SemS :=
  sSeq (sIf (tNo (sTb (sCall 1 G_law_is_script (aCons (sVar 1) (aNil))))) (sSeq (sRet (sC (.bl false))) (sNil)) (sNil)) (sSeq (sSet 4 (sDctO)) (sSeq (sFor (.one 5) (sIter (sCall 1 G_law_regions (aCons (sVar 0) (aNil)))) (sSeq (sSet 6 (sCall 2 G_law_fate (aCons (sVar 1) (aCons (sVar 5) (aNil))))) (sSeq (sIf (sTb (sBin gtD (sBin ixD (sVar 6) (sC (.int 3))) (sVar 3))) (sSeq (sRet (sC (.bl false))) (sNil)) (sNil)) (sSeq (sSetT [7, 8] (sDGet2 4 (sBin ixD (sVar 6) (sC (.int 2))) (sTup (aCons (sBin ixD (sVar 5) (sC (.int 0))) (aCons (sBin ixD (sVar 5) (sC (.int 0))) (aNil)))))) (sSeq (sDPut 4 (sBin ixD (sVar 6) (sC (.int 2))) (sTup (aCons (sBif min2D (aCons (sVar 7) (aCons (sBin ixD (sVar 5) (sC (.int 0))) (aNil)))) (aCons (sBif max2D (aCons (sVar 8) (aCons (sBin addD (sBin ixD (sVar 5) (sC (.int 0))) (sBif intD (aCons (sBin ixD (sVar 5) (sC (.int 1))) (aNil)))) (aNil)))) (aNil))))) (sNil)))))) (sFrzD 4 (sSeq (sRet (sBin eqD (sLc (sKeys (sVar 4)) [9] (.one 9) (sTb (sBin gtD (sBin subD (sBin ixD (sDIxF (sVar 4) (sVar 9)) (sC (.int 1))) (sBin ixD (sDIxF (sVar 4) (sVar 9)) (sC (.int 0)))) (sVar 2))) (sVar 9)) (sLst (aNil)))) (sNil)))))

def N_law : List Str := ["script", "k", "drum", "turn", "machine", "tolerance", "many", "found", "call_so", "bad", "low", "high"]
noncomputable def sem_law (G_law_drum : Fn) (G_law_machine : Fn) (G_law_spin : Fn) (G_law_needed : Fn) (G_looks_needed : Fn) (G_law_measures : Fn) (G_measuring : Fn) : SemS :=
  sSeq (sFor (.one 1) (sRng1 (sBif max2D (aCons (sC (.int 1)) (aCons (sBif min2D (aCons (sC (.int 5)) (aCons (sBif lenD (aCons (sVar 0) (aNil))) (aNil)))) (aNil))))) (sSeq (sSet 2 (sCall 2 G_law_drum (aCons (sVar 0) (aCons (sVar 1) (aNil))))) (sSeq (sFor (.one 3) (sRng1 (sC (.int 3))) (sSeq (sSetT [4, 5] (sTup (aCons (sCall 2 G_law_machine (aCons (sVar 2) (aCons (sC (.int 6)) (aNil)))) (aCons (sBin addD (sC (.int 1)) (sCall 2 G_law_spin (aCons (sVar 2) (aCons (sC (.int 6)) (aNil))))) (aNil))))) (sSeq (sSet 6 (sCall 2 G_law_needed (aCons (sBin subD (sBin ixD (sVar 4) (sC (.int 1))) (sBin ixD (sVar 4) (sC (.int 0)))) (aCons (sVar 5) (aNil))))) (sSeq (sSet 7 (sCall 2 G_looks_needed (aCons (sVar 4) (aCons (sVar 5) (aNil))))) (sSeq (sIf (tOr' (sTb (sBin neD (sVar 7) (sVar 6))) (sTb (sBif (isiD [.bool]) (aCons (sVar 7) aNil)))) (sSeq (sRet (sC (.bl false))) (sNil)) (sNil)) (sSeq (sIf (tNo (sTb (sCall 4 G_law_measures (aCons (sVar 4) (aCons (sCall 2 G_measuring (aCons (sVar 4) (aCons (sVar 5) (aNil)))) (aCons (sVar 5) (aCons (sVar 6) (aNil)))))))) (sSeq (sRet (sC (.bl false))) (sNil)) (sNil)) (sNil))))))) (sSeq (sFor (.one 8) (sIter (sTup (aCons (sC (.fn 7)) (aCons (sC (.fn 8)) (aNil))))) (sSeq (sFor (.one 9) (sIter (sLst (aCons (sC .non) (aCons (sC (.int 0)) (aCons (sC (.int 7)) (aCons (sC (.bl true)) (aCons (sC (.str "1")) (aNil)))))))) (sSeq (sIf (sTb (sBin neD (sLam 0 53 (lamQ "law") eb es (sCallL 8 [(7, 2, G_looks_needed), (8, 2, G_measuring)] (aCons (sVar 4) (aCons (sVar 9) (aNil))))) (sTup (aCons (sC (.str "InvalidNumber +")) (aNil))))) (sSeq (sRet (sC (.bl false))) (sNil)) (sNil)) (sNil))) (sSeq (sIf (sTb (sBin neD (sLam 0 53 (lamQ "law") eb es (sCallL 8 [(7, 2, G_looks_needed), (8, 2, G_measuring)] (aCons (sLst (aCons (sC (.int 0)) (aCons (sC (.int 3)) (aNil)))) (aCons (sC .non) (aNil))))) (sTup (aCons (sC (.str "InvalidMachine +")) (aNil))))) (sSeq (sRet (sC (.bl false))) (sNil)) (sNil)) (sNil)))) (sNil))))) (sSeq (sFor (.one 10) (sRng1 (sC (.int 7))) (sSeq (sFor (.one 11) (sRng2 (sVar 10) (sC (.int 7))) (sSeq (sIf (sTb (sBin neD (sCall 2 G_looks_needed (aCons (sTup (aCons (sVar 10) (aCons (sVar 11) (aNil)))) (aCons (sC (.int 1)) (aNil)))) (sCall 2 G_law_needed (aCons (sBin subD (sVar 11) (sVar 10)) (aCons (sC (.int 1)) (aNil)))))) (sSeq (sRet (sC (.bl false))) (sNil)) (sNil)) (sNil))) (sNil))) (sSeq (sRet (sCall 4 G_law_measures (aCons (sTup (aCons (sC (.int 0)) (aCons (sC (.int 6)) (aNil)))) (aCons (sCall 2 G_measuring (aCons (sTup (aCons (sC (.int 0)) (aCons (sC (.int 6)) (aNil)))) (aCons (sC (.int 1)) (aNil)))) (aCons (sC (.int 1)) (aCons (sC (.int 3)) (aNil))))))) (sNil)))

def topS (i : Nat) : Stmt := PySem.Challenge.pw_screwplay_k18_looks_that_measure_the_pla.main.body.getD i (.Pass ⟨0, 0, 0, 0⟩)
def clS (i j : Nat) : Stmt := match topS i with | .ClassDef (body := b) .. => b.getD j (.Pass ⟨0, 0, 0, 0⟩) | s => s
structure MB (mg : Str → Option Value) : Prop where
  ValueError : mg "ValueError" = none
  abs : mg "abs" = none
  all : mg "all" = none
  bool : mg "bool" = none
  int : mg "int" = none
  isinstance : mg "isinstance" = none
  len : mg "len" = none
  max : mg "max" = none
  min : mg "min" = none
  range : mg "range" = none
  sorted : mg "sorted" = none
  str : mg "str" = none
  sum : mg "sum" = none
  tuple : mg "tuple" = none
  zip : mg "zip" = none
structure CC (z : Z) (mg : Str → Option Value) : Prop where
  c_MOST_PLAY : ∃ t, mg "MOST_PLAY" = some (.int 6 t)
  e0 : mg "InvalidAnswers" = some (.ref (z.fa 40))
  e1 : mg "InvalidFact" = some (.ref (z.fa 41))
  e2 : mg "InvalidIndex" = some (.ref (z.fa 42))
  e3 : mg "InvalidMachine" = some (.ref (z.fa 43))
  e4 : mg "InvalidNumber" = some (.ref (z.fa 44))
  e5 : mg "InvalidPlay" = some (.ref (z.fa 45))
  e6 : mg "InvalidRegion" = some (.ref (z.fa 46))
  e7 : mg "InvalidRow" = some (.ref (z.fa 47))
  e8 : mg "InvalidScript" = some (.ref (z.fa 48))
  e9 : mg "InvalidSlack" = some (.ref (z.fa 49))
  e10 : mg "InvalidText" = some (.ref (z.fa 50))
  e11 : mg "NothingToUndo" = some (.ref (z.fa 51))
  e12 : mg "PlayError" = some (.ref (z.fa 52))
  rz_InvalidMachine : Rz z.K mg "InvalidMachine" (z.fa 43)
  rz_InvalidNumber : Rz z.K mg "InvalidNumber" (z.fa 44)

section
variable {P : Program} {w : World} {K : PySem.W.Frag} {mg : Str → Option Value} {base : Heap} {z : Z}
abbrev s_law_kinds : Stmt := topS 52
abbrev s_law_call : Stmt := topS 53
theorem sc_law_kinds : FnScope ["e", "some", "words", "word", "good"] ["e"] (defScope s_law_kinds) := ⟨rfl, rfl, rfl, by decide +kernel, rfl, by decide +kernel, by decide +kernel⟩
theorem sc_law_call : FnScope ["call_so", "found", "e"] ["call_so"] (defScope s_law_call) := ⟨rfl, rfl, rfl, by decide +kernel, rfl, by decide +kernel, by decide +kernel⟩
theorem ts_law_call : TryScope (defScope s_law_call) := ⟨rfl, rfl, rfl, rfl, rfl, rfl⟩
theorem ok_law_kinds {k : Nat} {f : Addr} {fd : FuncData} (M : MB mg) (C : CC z mg) (hK : K = z.K) (F : L2.Fun K "_law_kinds" "_law_kinds" s_law_kinds f fd) : Kinds z.P z.w K mg base (fun j => z.fa (40 + j)) (k + 1) f fd :=
  kinds_ok F sc_law_kinds M.isinstance fun cdv A outer s H p z1 c hK1 hE hot hd => by
    subst hK1
    exact css_cons (cs_setN 1 sc_law_kinds.nd (c_lstO (ca_cons (c_isO hd C.e0 (hE.isi 0 (by decide))) (ca_cons (c_isO hd C.e1 (hE.isi 1 (by decide))) (ca_cons (c_isO hd C.e2 (hE.isi 2 (by decide))) ca_nil))))) (css_cons (cs_setN 1 sc_law_kinds.nd (c_catO (c_var 1) (c_lst (ca_cons (c_isO hd C.e3 (hE.isi 3 (by decide))) (ca_cons (c_isO hd C.e4 (hE.isi 4 (by decide))) (ca_cons (c_isO hd C.e5 (hE.isi 5 (by decide))) ca_nil)))))) (css_cons (cs_setN 1 sc_law_kinds.nd (c_catO (c_var 1) (c_lst (ca_cons (c_isO hd C.e6 (hE.isi 6 (by decide))) (ca_cons (c_isO hd C.e7 (hE.isi 7 (by decide))) (ca_cons (c_isO hd C.e8 (hE.isi 8 (by decide))) ca_nil)))))) (css_cons (cs_setN 1 sc_law_kinds.nd (c_catO (c_var 1) (c_lst (ca_cons (c_isO hd C.e9 (hE.isi 9 (by decide))) (ca_cons (c_isO hd C.e10 (hE.isi 10 (by decide))) (ca_cons (c_isO hd C.e11 (hE.isi 11 (by decide))) ca_nil)))))) (css_cons (cs_app 1 (c_isV hd M.ValueError hE.val)) (css_frz 1 (css_cons (cs_setN 2 sc_law_kinds.nd (c_lst (ca_cons c_str (ca_cons c_str (ca_cons c_str (ca_cons c_str (ca_cons c_str (ca_cons c_str ca_nil)))))))) (css_cons (cs_setN 2 sc_law_kinds.nd (c_binG (og_add rfl) (c_var 2) (c_lst (ca_cons c_str (ca_cons c_str (ca_cons c_str (ca_cons c_str (ca_cons c_str ca_nil)))))))) (css_cons (cs_ret (c_join rfl c_str (c_lcZ rfl hot sc_law_kinds.nd M.zip (ca_cons (c_binG (og_add rfl) (c_var 2) (c_lst (ca_cons c_str (ca_cons c_str ca_nil)))) (ca_cons (c_var 1) ca_nil)) (blkOk_by (own := [("word", 3), ("good", 4)]) (N := ["e", "some", "words", "word", "good"]) (sc := defScope s_law_kinds) (by decide +kernel)) (fun _ _ _ _ _ hB => pg_tupH hB (pgs_cons (pgnN 3 sc_law_kinds.nd) (pgs_cons (pgnN 4 sc_law_kinds.nd) pgs_nil))) (fun _ _ _ _ _ => cts_one (ct_val (c_var 4))) (fun _ _ _ _ _ => c_var 3)))) (css_nil)))))))))

abbrev s_is_int : Stmt := topS 16
theorem sc_is_int : FnScope N_is_int ["value", "low", "high"] (defScope s_is_int) := ⟨rfl, rfl, rfl, by decide +kernel, rfl, by decide +kernel, by decide +kernel⟩
theorem ok_is_int {k : Nat} {f : Addr} {fd : FuncData} {G  : Fn} (M : MB mg) (C : CC z mg) (hK : K = z.K) (F : L2.Fun K "is_int" "is_int" s_is_int f fd)
    (run : ∀ args m, args.length = 3 → G args m = .no ∨ runDef false 3 (sem_is_int ) args m = G args m) :
    FnOk z.P z.w K mg base (L2N.CX z.P z.w) (k + 1) f fd ["value", "low", "high"] (spG z 3 G) :=
  def_ok F sc_is_int hK rfl false (sem_is_int ) run fun cdv A outer s H E hr gc =>
    css_cons (cs_ret (c_and (c_isi .int (gc).hK M.isinstance M.int (c_var 0)) (c_and (c_not (c_isi .bool (gc).hK M.isinstance M.bool (c_var 0))) (c_one (c_chainG (og_le) (og_le) (c_var 1) (c_var 0) (c_var 2)))))) (css_nil)

abbrev s_is_machine : Stmt := topS 17
theorem sc_is_machine : FnScope N_is_machine ["value"] (defScope s_is_machine) := ⟨rfl, rfl, rfl, by decide +kernel, rfl, by decide +kernel, by decide +kernel⟩
theorem ok_is_machine {k : Nat} {f : Addr} {fd : FuncData} {G G_is_int : Fn} (M : MB mg) (C : CC z mg) (hK : K = z.K) (F : L2.Fun K "is_machine" "is_machine" s_is_machine f fd)
    (D_is_int : Df z.P z.w K mg base z 0 "is_int" k 3 G_is_int)
    (run : ∀ args m, args.length = 1 → G args m = .no ∨ runDef false 2 (sem_is_machine G_is_int) args m = G args m) :
    FnOk z.P z.w K mg base (L2N.CX z.P z.w) (k + 1) f fd ["value"] (spG z 1 G) :=
  def_ok F sc_is_machine hK rfl false (sem_is_machine G_is_int) run fun cdv A outer s H E hr gc =>
    css_cons (cs_if (ct_w (cw_or (ct_not (ct_val (c_isi .tuple (gc).hK M.isinstance M.tuple (c_var 0)))) (cw_or (ct_cmpG (og_ne (gc).hK (gc).hu1) (c_bif (cg_len (gc).hK) M.len PySem.boot_len (ca_cons (c_var 0) (ca_nil))) (c_int)) (cw_or1 (ct_not (ct_val (c_bif (cg_all (gc).calm) M.all (by decide +kernel) (ca_cons (c_lc (T := .one 1) (gc).hK (gc).calm (gc).nd (ci_seq (gc).hK (c_var 0)) (blkOk_by (own := [("part", 1)]) (N := N_is_machine) (sc := defScope s_is_machine) (by decide +kernel)) (fun s1 H1 C1 cl1 fp1 => pgn 1 ((gc).blk s1 H1 _ _ fp1)) (fun s1 H1 C1 cl1 fp1 => cts_nil) (fun s1 H1 C1 cl1 fp1 => c_call D_is_int ((gc).blk s1 H1 _ _ fp1) hr (ca_cons (c_var 1) (ca_cons (c_int) (ca_cons (c_gint C.c_MOST_PLAY) (ca_nil)))) (Nat.le_refl _))) (ca_nil))))))))) (css_cons (cs_ret (c_bl)) (css_nil)) (css_nil)) (css_cons (cs_ret (c_cmpG (og_le) (c_ix (gc).hK (c_var 0) (c_int)) (c_ix (gc).hK (c_var 0) (c_int)))) (css_nil))

abbrev s_need_machine : Stmt := topS 18
theorem sc_need_machine : FnScope N_need_machine ["machine"] (defScope s_need_machine) := ⟨rfl, rfl, rfl, by decide +kernel, rfl, by decide +kernel, by decide +kernel⟩
theorem ok_need_machine {k : Nat} {f : Addr} {fd : FuncData} {G G_is_machine : Fn} (M : MB mg) (C : CC z mg) (hK : K = z.K) (F : L2.Fun K "need_machine" "need_machine" s_need_machine f fd)
    (D_is_machine : Df z.P z.w K mg base z 1 "is_machine" k 1 G_is_machine)
    (run : ∀ args m, args.length = 1 → G args m = .no ∨ runDef false 1 (sem_need_machine G_is_machine) args m = G args m) :
    FnOk z.P z.w K mg base (L2N.CX z.P z.w) (k + 1) f fd ["machine"] (spG z 1 G) :=
  def_ok F sc_need_machine hK rfl false (sem_need_machine G_is_machine) run fun cdv A outer s H E hr gc =>
    css_cons (cs_if (ct_not (ct_val (c_call D_is_machine (gc) hr (ca_cons (c_var 0) (ca_nil)) (Nat.le_refl _)))) (css_cons (cs_raise gc C.rz_InvalidMachine) (css_nil)) (css_nil)) (css_nil)

abbrev s_need_number : Stmt := topS 19
theorem sc_need_number : FnScope N_need_number ["number", "low", "high"] (defScope s_need_number) := ⟨rfl, rfl, rfl, by decide +kernel, rfl, by decide +kernel, by decide +kernel⟩
theorem ok_need_number {k : Nat} {f : Addr} {fd : FuncData} {G G_is_int : Fn} (M : MB mg) (C : CC z mg) (hK : K = z.K) (F : L2.Fun K "need_number" "need_number" s_need_number f fd)
    (D_is_int : Df z.P z.w K mg base z 0 "is_int" k 3 G_is_int)
    (run : ∀ args m, args.length = 3 → G args m = .no ∨ runDef false 3 (sem_need_number G_is_int) args m = G args m) :
    FnOk z.P z.w K mg base (L2N.CX z.P z.w) (k + 1) f fd ["number", "low", "high"] (spG z 3 G) :=
  def_ok F sc_need_number hK rfl false (sem_need_number G_is_int) run fun cdv A outer s H E hr gc =>
    css_cons (cs_if (ct_not (ct_val (c_call D_is_int (gc) hr (ca_cons (c_var 0) (ca_cons (c_var 1) (ca_cons (c_var 2) (ca_nil)))) (Nat.le_refl _)))) (css_cons (cs_raise gc C.rz_InvalidNumber) (css_nil)) (css_nil)) (css_nil)

abbrev s_looks_for : Stmt := topS 21
theorem sc_looks_for : FnScope N_looks_for ["width", "tolerance"] (defScope s_looks_for) := ⟨rfl, rfl, rfl, by decide +kernel, rfl, by decide +kernel, by decide +kernel⟩
theorem ok_looks_for {k : Nat} {f : Addr} {fd : FuncData} {G  : Fn} (M : MB mg) (C : CC z mg) (hK : K = z.K) (F : L2.Fun K "looks_for" "looks_for" s_looks_for f fd)
    (run : ∀ args m, args.length = 2 → G args m = .no ∨ runDef false 3 (sem_looks_for ) args m = G args m) :
    FnOk z.P z.w K mg base (L2N.CX z.P z.w) (k + 1) f fd ["width", "tolerance"] (spG z 2 G) :=
  def_ok F sc_looks_for hK rfl false (sem_looks_for ) run fun cdv A outer s H E hr gc =>
    css_cons (cs_set 2 gc (c_int)) (css_cons (cs_while (fuK 25) gc (ct_cmpG (og_gt) (c_var 0) (c_var 1)) (css_cons (cs_par2 0 2 gc (ca_cons (c_binG (og_fdiv) (c_binG (og_add (gc).hK) (c_var 0) (c_int)) (c_int)) (ca_cons (c_binG (og_add (gc).hK) (c_var 2) (c_int)) (ca_nil)))) (css_nil))) (css_cons (cs_ret (c_var 2)) (css_nil)))

abbrev s_choices : Stmt := topS 22
theorem sc_choices : FnScope N_choices ["low", "high", "tolerance"] (defScope s_choices) := ⟨rfl, rfl, rfl, by decide +kernel, rfl, by decide +kernel, by decide +kernel⟩
theorem ok_choices {k : Nat} {f : Addr} {fd : FuncData} {G G_choices : Fn} (M : MB mg) (C : CC z mg) (hK : K = z.K) (F : L2.Fun K "choices" "choices" s_choices f fd)
    (D_choices : Df z.P z.w K mg base z 5 "choices" k 3 G_choices)
    (run : ∀ args m, args.length = 3 → G args m = .no ∨ runDef false 4 (sem_choices G_choices) args m = G args m) :
    FnOk z.P z.w K mg base (L2N.CX z.P z.w) (k + 1) f fd ["low", "high", "tolerance"] (spG z 3 G) :=
  def_ok F sc_choices hK rfl false (sem_choices G_choices) run fun cdv A outer s H E hr gc =>
    css_cons (cs_if (ct_cmpG (og_le) (c_binG (og_sub) (c_var 1) (c_var 0)) (c_var 2)) (css_cons (cs_ret (c_tup (ca_nil))) (css_nil)) (css_nil)) (css_cons (cs_set 3 gc (c_binG (og_fdiv) (c_binG (og_add (gc).hK) (c_var 0) (c_var 1)) (c_int))) (css_cons (cs_ret (c_tup (ca_cons (c_tup (ca_cons (c_str) (ca_cons (c_str) (ca_cons (c_un un_neg neg_S (c_var 3)) (ca_cons (c_call D_choices (gc) hr (ca_cons (c_var 3) (ca_cons (c_var 1) (ca_cons (c_var 2) (ca_nil)))) (Nat.le_refl _)) (ca_cons (c_call D_choices (gc) hr (ca_cons (c_var 0) (ca_cons (c_var 3) (ca_cons (c_var 2) (ca_nil)))) (Nat.le_refl _)) (ca_nil))))))) (ca_nil)))) (css_nil)))

abbrev s_need_tolerance : Stmt := topS 23
theorem sc_need_tolerance : FnScope N_need_tolerance ["machine", "tolerance"] (defScope s_need_tolerance) := ⟨rfl, rfl, rfl, by decide +kernel, rfl, by decide +kernel, by decide +kernel⟩
theorem ok_need_tolerance {k : Nat} {f : Addr} {fd : FuncData} {G G_need_machine G_need_number : Fn} (M : MB mg) (C : CC z mg) (hK : K = z.K) (F : L2.Fun K "need_tolerance" "need_tolerance" s_need_tolerance f fd)
    (D_need_machine : Df z.P z.w K mg base z 2 "need_machine" k 1 G_need_machine)
    (D_need_number : Df z.P z.w K mg base z 3 "need_number" k 3 G_need_number)
    (run : ∀ args m, args.length = 2 → G args m = .no ∨ runDef false 2 (sem_need_tolerance G_need_machine G_need_number) args m = G args m) :
    FnOk z.P z.w K mg base (L2N.CX z.P z.w) (k + 1) f fd ["machine", "tolerance"] (spG z 2 G) :=
  def_ok F sc_need_tolerance hK rfl false (sem_need_tolerance G_need_machine G_need_number) run fun cdv A outer s H E hr gc =>
    css_cons (cs_expr (c_call D_need_machine (gc) hr (ca_cons (c_var 0) (ca_nil)) (Nat.le_refl _))) (css_cons (cs_expr (c_call D_need_number (gc) hr (ca_cons (c_var 1) (ca_cons (c_int) (ca_cons (c_gint C.c_MOST_PLAY) (ca_nil)))) (Nat.le_refl _))) (css_nil))

abbrev s_looks_needed : Stmt := topS 24
theorem sc_looks_needed : FnScope N_looks_needed ["machine", "tolerance"] (defScope s_looks_needed) := ⟨rfl, rfl, rfl, by decide +kernel, rfl, by decide +kernel, by decide +kernel⟩
theorem ok_looks_needed {k : Nat} {f : Addr} {fd : FuncData} {G G_need_tolerance G_looks_for : Fn} (M : MB mg) (C : CC z mg) (hK : K = z.K) (F : L2.Fun K "looks_needed" "looks_needed" s_looks_needed f fd)
    (D_need_tolerance : Df z.P z.w K mg base z 6 "need_tolerance" k 2 G_need_tolerance)
    (D_looks_for : Df z.P z.w K mg base z 4 "looks_for" k 2 G_looks_for)
    (run : ∀ args m, args.length = 2 → G args m = .no ∨ runDef false 2 (sem_looks_needed G_need_tolerance G_looks_for) args m = G args m) :
    FnOk z.P z.w K mg base (L2N.CX z.P z.w) (k + 1) f fd ["machine", "tolerance"] (spG z 2 G) :=
  def_ok F sc_looks_needed hK rfl false (sem_looks_needed G_need_tolerance G_looks_for) run fun cdv A outer s H E hr gc =>
    css_cons (cs_expr (c_call D_need_tolerance (gc) hr (ca_cons (c_var 0) (ca_cons (c_var 1) (ca_nil))) (Nat.le_refl _))) (css_cons (cs_ret (c_call D_looks_for (gc) hr (ca_cons (c_binG (og_sub) (c_ix (gc).hK (c_var 0) (c_int)) (c_ix (gc).hK (c_var 0) (c_int))) (ca_cons (c_var 1) (ca_nil))) (Nat.le_refl _))) (css_nil))

abbrev s_measuring : Stmt := topS 25
theorem sc_measuring : FnScope N_measuring ["machine", "tolerance"] (defScope s_measuring) := ⟨rfl, rfl, rfl, by decide +kernel, rfl, by decide +kernel, by decide +kernel⟩
theorem ok_measuring {k : Nat} {f : Addr} {fd : FuncData} {G G_need_tolerance G_choices : Fn} (M : MB mg) (C : CC z mg) (hK : K = z.K) (F : L2.Fun K "measuring" "measuring" s_measuring f fd)
    (D_need_tolerance : Df z.P z.w K mg base z 6 "need_tolerance" k 2 G_need_tolerance)
    (D_choices : Df z.P z.w K mg base z 5 "choices" k 3 G_choices)
    (run : ∀ args m, args.length = 2 → G args m = .no ∨ runDef false 5 (sem_measuring G_need_tolerance G_choices) args m = G args m) :
    FnOk z.P z.w K mg base (L2N.CX z.P z.w) (k + 1) f fd ["machine", "tolerance"] (spG z 2 G) :=
  def_ok F sc_measuring hK rfl false (sem_measuring G_need_tolerance G_choices) run fun cdv A outer s H E hr gc =>
    css_cons (cs_expr (c_call D_need_tolerance (gc) hr (ca_cons (c_var 0) (ca_cons (c_var 1) (ca_nil))) (Nat.le_refl _))) (css_cons (cs_setT [2, 3] gc (c_var 0) (pg_tup (gc).calm (pgs_cons (pgn 2 (gc)) (pgs_cons (pgn 3 (gc)) (pgs_nil))))) (css_cons (cs_set 4 gc (c_call D_choices (gc) hr (ca_cons (c_var 2) (ca_cons (c_var 3) (ca_cons (c_var 1) (ca_nil)))) (Nat.le_refl _))) (css_cons (cs_ret (c_ite (ct_cmpG (og_eq (gc).hK (gc).hu1) (c_var 4) (c_tup (ca_nil))) (c_tup (ca_nil)) (c_binG (og_add (gc).hK) (c_tup (ca_cons (c_tup (ca_cons (c_str) (ca_cons (c_un un_neg neg_S (c_var 3)) (ca_nil)))) (ca_cons (c_tup (ca_cons (c_str) (ca_cons (c_var 3) (ca_nil)))) (ca_nil)))) (c_var 4)))) (css_nil))))

abbrev s_law_drum : Stmt := topS 27
theorem sc_law_drum : FnScope N_law_drum ["script", "k"] (defScope s_law_drum) := ⟨rfl, rfl, rfl, by decide +kernel, rfl, by decide +kernel, by decide +kernel⟩
theorem ok_law_drum {k : Nat} {f : Addr} {fd : FuncData} {G  : Fn} (M : MB mg) (C : CC z mg) (hK : K = z.K) (F : L2.Fun K "_law_drum" "_law_drum" s_law_drum f fd)
    (run : ∀ args m, args.length = 2 → G args m = .no ∨ runDef true 3 (sem_law_drum ) args m = G args m) :
    FnOk z.P z.w K mg base (L2N.CX z.P z.w) (k + 1) f fd ["script", "k"] (spG z 2 G) :=
  def_ok F sc_law_drum hK rfl true (sem_law_drum ) run fun cdv A outer s H E hr gc =>
    css_cons (cs_set 2 gc (c_binG (og_add (gc).hK) (c_binG (og_mul (gc).hK) (c_int) (c_var 1)) (c_int))) (css_cons (cs_if (ct_cmpG (og_lt) (c_var 1) (c_bif (cg_len (gc).hK) M.len PySem.boot_len (ca_cons (c_var 0) (ca_nil)))) (css_cons (cs_set 2 gc (c_binG (og_mod) (c_bif (cg_abs) M.abs (by decide +kernel) (ca_cons (c_bity (cg_int) M.int PyProof.Rows.boot_int (ca_cons (c_ix (gc).hK (c_var 0) (c_var 1)) (ca_nil))) (ca_nil))) (c_binG (og_mul (gc).hK) (c_binG (og_mul (gc).hK) (c_binG (og_mul (gc).hK) (c_binG (og_pow) (c_int) (c_int)) (c_binG (og_pow) (c_int) (c_int))) (c_binG (og_pow) (c_int) (c_int))) (c_binG (og_pow) (c_int) (c_int))))) (css_nil)) (css_cons (cs_if (ct_cmpG (og_gt) (c_bif (cg_len (gc).hK) M.len PySem.boot_len (ca_cons (c_var 0) (ca_nil))) (c_int)) (css_cons (cs_set 2 gc (c_binG (og_add (gc).hK) (c_var 2) (c_binG (og_mod) (c_bif (cg_abs) M.abs (by decide +kernel) (ca_cons (c_bity (cg_int) M.int PyProof.Rows.boot_int (ca_cons (c_ix (gc).hK (c_var 0) (c_int)) (ca_nil))) (ca_nil))) (c_int)))) (css_nil)) (css_nil)) (css_nil))) (css_cons (cs_ret (c_lstO (ca_cons (c_ite (ct_cmpG (og_ge) (c_var 2) (c_binG (og_pow) (c_int) (c_int))) (c_var 2) (c_int)) (ca_cons (c_binG (og_add (gc).hK) (c_binG (og_mod) (c_bity (cg_int) M.int PyProof.Rows.boot_int (ca_cons (c_binG (og_add (gc).hK) (c_binG (og_add (gc).hK) (c_binG (og_mul (gc).hK) (c_binG (og_mod) (c_var 2) (c_int)) (c_int)) (c_binG (og_mul (gc).hK) (c_int) (c_var 1))) (c_int)) (ca_nil))) (c_int)) (c_int)) (ca_nil))))) (css_nil)))

abbrev s_law_spin : Stmt := topS 28
theorem sc_law_spin : FnScope N_law_spin ["drum", "many"] (defScope s_law_spin) := ⟨rfl, rfl, rfl, by decide +kernel, rfl, by decide +kernel, by decide +kernel⟩
theorem ok_law_spin {k : Nat} {f : Addr} {fd : FuncData} {G  : Fn} (M : MB mg) (C : CC z mg) (hK : K = z.K) (F : L2.Fun K "_law_spin" "_law_spin" s_law_spin f fd)
    (run : ∀ args m, args.length = 2 → G args m = .no ∨ runDef false 4 (sem_law_spin ) args m = G args m) :
    FnOk z.P z.w K mg base (L2N.CX z.P z.w) (k + 1) f fd ["drum", "many"] (spG z 2 G) :=
  def_ok F sc_law_spin hK rfl false (sem_law_spin ) run fun cdv A outer s H E hr gc =>
    css_cons (cs_if (ct_cmpG (og_gt) (c_ix (gc).hK (c_var 0) (c_int)) (c_int)) (css_cons (cs_set 2 gc (c_binG (og_mod) (c_bity (cg_int) M.int PyProof.Rows.boot_int (ca_cons (c_ix (gc).hK (c_var 0) (c_int)) (ca_nil))) (c_var 1))) (css_cons (cs_setIx 0 (c_binG (og_fdiv) (c_ix (gc).hK (c_var 0) (c_int)) (c_var 1)) (c_int)) (css_cons (cs_ret (c_var 2)) (css_nil)))) (css_nil)) (css_cons (cs_setT [2, 3] gc (c_tup (ca_cons (c_int) (ca_cons (c_int) (ca_nil)))) (pg_tup (gc).calm (pgs_cons (pgn 2 (gc)) (pgs_cons (pgn 3 (gc)) (pgs_nil))))) (css_cons (cs_while (fuI 1) gc (ct_w (cw_or (ct_cmpG (og_lt) (c_var 3) (c_var 1)) (cw_or1 (ct_cmpG (og_eq (gc).hK (gc).hu1) (c_var 3) (c_int))))) (css_cons (cs_setIx 0 (c_binG (og_mod) (c_bity (cg_int) M.int PyProof.Rows.boot_int (ca_cons (c_binG (og_add (gc).hK) (c_binG (og_mul (gc).hK) (c_ix (gc).hK (c_var 0) (c_int)) (c_int)) (c_int)) (ca_nil))) (c_int)) (c_int)) (css_cons (cs_set 2 gc (c_binG (og_add (gc).hK) (c_binG (og_mul (gc).hK) (c_var 2) (c_int)) (c_binG (og_mod) (c_bity (cg_int) M.int PyProof.Rows.boot_int (ca_cons (c_binG (og_fdiv) (c_ix (gc).hK (c_var 0) (c_int)) (c_int)) (ca_nil))) (c_int)))) (css_cons (cs_set 3 gc (c_binG (og_mul (gc).hK) (c_var 3) (c_int))) (css_nil))))) (css_cons (cs_ret (c_binG (og_mod) (c_bity (cg_int) M.int PyProof.Rows.boot_int (ca_cons (c_var 2) (ca_nil))) (c_var 1))) (css_nil))))

abbrev s_law_pick : Stmt := topS 29
theorem sc_law_pick : FnScope N_law_pick ["drum", "things"] (defScope s_law_pick) := ⟨rfl, rfl, rfl, by decide +kernel, rfl, by decide +kernel, by decide +kernel⟩
theorem ok_law_pick {k : Nat} {f : Addr} {fd : FuncData} {G G_law_spin : Fn} (M : MB mg) (C : CC z mg) (hK : K = z.K) (F : L2.Fun K "_law_pick" "_law_pick" s_law_pick f fd)
    (D_law_spin : Df z.P z.w K mg base z 10 "_law_spin" k 2 G_law_spin)
    (run : ∀ args m, args.length = 2 → G args m = .no ∨ runDef false 2 (sem_law_pick G_law_spin) args m = G args m) :
    FnOk z.P z.w K mg base (L2N.CX z.P z.w) (k + 1) f fd ["drum", "things"] (spG z 2 G) :=
  def_ok F sc_law_pick hK rfl false (sem_law_pick G_law_spin) run fun cdv A outer s H E hr gc =>
    css_cons (cs_ret (c_ix (gc).hK (c_var 1) (c_call D_law_spin (gc) hr (ca_cons (c_var 0) (ca_cons (c_bif (cg_len (gc).hK) M.len PySem.boot_len (ca_cons (c_var 1) (ca_nil))) (ca_nil))) (Nat.le_refl _)))) (css_nil)

abbrev s_law_machine : Stmt := topS 30
theorem sc_law_machine : FnScope N_law_machine ["drum", "most"] (defScope s_law_machine) := ⟨rfl, rfl, rfl, by decide +kernel, rfl, by decide +kernel, by decide +kernel⟩
theorem ok_law_machine {k : Nat} {f : Addr} {fd : FuncData} {G G_law_spin G_law_pick : Fn} (M : MB mg) (C : CC z mg) (hK : K = z.K) (F : L2.Fun K "_law_machine" "_law_machine" s_law_machine f fd)
    (D_law_spin : Df z.P z.w K mg base z 10 "_law_spin" k 2 G_law_spin)
    (D_law_pick : Df z.P z.w K mg base z 11 "_law_pick" k 2 G_law_pick)
    (run : ∀ args m, args.length = 2 → G args m = .no ∨ runDef false 3 (sem_law_machine G_law_spin G_law_pick) args m = G args m) :
    FnOk z.P z.w K mg base (L2N.CX z.P z.w) (k + 1) f fd ["drum", "most"] (spG z 2 G) :=
  def_ok F sc_law_machine hK rfl false (sem_law_machine G_law_spin G_law_pick) run fun cdv A outer s H E hr gc =>
    css_cons (cs_set 2 gc (c_call D_law_spin (gc) hr (ca_cons (c_var 0) (ca_cons (c_binG (og_add (gc).hK) (c_var 1) (c_int)) (ca_nil))) (Nat.le_refl _))) (css_cons (cs_ret (c_tup (ca_cons (c_call D_law_pick (gc) hr (ca_cons (c_var 0) (ca_cons (c_lst (ca_cons (c_int) (ca_cons (c_int) (ca_cons (c_var 2) (ca_cons (c_call D_law_spin (gc) hr (ca_cons (c_var 0) (ca_cons (c_binG (og_add (gc).hK) (c_var 2) (c_int)) (ca_nil))) (Nat.le_refl _)) (ca_nil)))))) (ca_nil))) (Nat.le_refl _)) (ca_cons (c_var 2) (ca_nil))))) (css_nil))

abbrev s_law_sign : Stmt := topS 31
theorem sc_law_sign : FnScope N_law_sign ["number"] (defScope s_law_sign) := ⟨rfl, rfl, rfl, by decide +kernel, rfl, by decide +kernel, by decide +kernel⟩
theorem ok_law_sign {k : Nat} {f : Addr} {fd : FuncData} {G  : Fn} (M : MB mg) (C : CC z mg) (hK : K = z.K) (F : L2.Fun K "_law_sign" "_law_sign" s_law_sign f fd)
    (run : ∀ args m, args.length = 1 → G args m = .no ∨ runDef false 1 (sem_law_sign ) args m = G args m) :
    FnOk z.P z.w K mg base (L2N.CX z.P z.w) (k + 1) f fd ["number"] (spG z 1 G) :=
  def_ok F sc_law_sign hK rfl false (sem_law_sign ) run fun cdv A outer s H E hr gc =>
    css_cons (cs_ret (c_binG (og_sub) (c_bity (cg_int) M.int PyProof.Rows.boot_int (ca_cons (c_cmpG (og_gt) (c_var 0) (c_int)) (ca_nil))) (c_bity (cg_int) M.int PyProof.Rows.boot_int (ca_cons (c_cmpG (og_lt) (c_var 0) (c_int)) (ca_nil))))) (css_nil)

abbrev s_law_regions : Stmt := topS 32
theorem sc_law_regions : FnScope N_law_regions ["machine"] (defScope s_law_regions) := ⟨rfl, rfl, rfl, by decide +kernel, rfl, by decide +kernel, by decide +kernel⟩
theorem ok_law_regions {k : Nat} {f : Addr} {fd : FuncData} {G G_law_some_regions : Fn} (M : MB mg) (C : CC z mg) (hK : K = z.K) (F : L2.Fun K "_law_regions" "_law_regions" s_law_regions f fd)
    (D_law_some_regions : Df z.P z.w K mg base z 34 "_law_some_regions" k 3 G_law_some_regions)
    (run : ∀ args m, args.length = 1 → G args m = .no ∨ runDef false 6 (sem_law_regions G_law_some_regions) args m = G args m) :
    FnOk z.P z.w K mg base (L2N.CX z.P z.w) (k + 1) f fd ["machine"] (spG z 1 G) :=
  def_ok F sc_law_regions hK rfl false (sem_law_regions G_law_some_regions) run fun cdv A outer s H E hr gc =>
    css_cons (cs_set 1 gc (c_lst (ca_nil))) (css_cons (cs_for (T := .one 2) gc (ci_rng2 M.range (c_ix (gc).hK (c_var 0) (c_int)) (c_binG (og_add (gc).hK) (c_ix (gc).hK (c_var 0) (c_int)) (c_int))) (pgn 2 (gc)) (css_cons (cs_for (T := .one 3) gc (ci_seq (gc).hK (c_lst (ca_cons (c_bl) (ca_cons (c_bl) (ca_nil))))) (pgn 3 (gc)) (css_cons (cs_for (T := .one 4) gc (ci_rng1 M.range (c_binG (og_add (gc).hK) (c_var 2) (c_int))) (pgn 4 (gc)) (css_cons (cs_set 1 gc (c_binG (og_add (gc).hK) (c_var 1) (c_call D_law_some_regions (gc) hr (ca_cons (c_var 2) (ca_cons (c_var 3) (ca_cons (c_var 4) (ca_nil)))) (Nat.le_refl _)))) (css_nil))) (css_nil))) (css_nil))) (css_cons (cs_ret (c_bif (cg_sorted ((gc)).hK ((gc)).hu) M.sorted (by decide +kernel) (ca_cons (c_lc (T := .one 5) (gc).hK (gc).calm (gc).nd (ci_seq (gc).hK (c_var 1)) (blkOk_by (own := [("region", 5)]) (N := N_law_regions) (sc := defScope s_law_regions) (by decide +kernel)) (fun s1 H1 C1 cl1 fp1 => pgn 5 ((gc).blk s1 H1 _ _ fp1)) (fun s1 H1 C1 cl1 fp1 => cts_one (ct_cmpG (og_le) (c_binG (og_add ((gc).blk s1 H1 _ _ fp1).hK) (c_ix ((gc).blk s1 H1 _ _ fp1).hK (c_var 5) (c_int)) (c_bity (cg_int) M.int PyProof.Rows.boot_int (ca_cons (c_ix ((gc).blk s1 H1 _ _ fp1).hK (c_var 5) (c_int)) (ca_nil)))) (c_ix ((gc).blk s1 H1 _ _ fp1).hK (c_var 0) (c_int)))) (fun s1 H1 C1 cl1 fp1 => c_var 5)) (ca_nil)))) (css_nil)))

abbrev s_law_orders : Stmt := topS 33
theorem sc_law_orders : FnScope N_law_orders ["broken", "split"] (defScope s_law_orders) := ⟨rfl, rfl, rfl, by decide +kernel, rfl, by decide +kernel, by decide +kernel⟩
theorem ok_law_orders {k : Nat} {f : Addr} {fd : FuncData} {G  : Fn} (M : MB mg) (C : CC z mg) (hK : K = z.K) (F : L2.Fun K "_law_orders" "_law_orders" s_law_orders f fd)
    (run : ∀ args m, args.length = 2 → G args m = .no ∨ runDef false 2 (sem_law_orders ) args m = G args m) :
    FnOk z.P z.w K mg base (L2N.CX z.P z.w) (k + 1) f fd ["broken", "split"] (spG z 2 G) :=
  def_ok F sc_law_orders hK rfl false (sem_law_orders ) run fun cdv A outer s H E hr gc =>
    css_cons (cs_if (ct_w (cw_and (ct_val (c_var 0)) (cw_and1 (ct_val (c_var 1))))) (css_cons (cs_ret (c_lst (ca_cons (c_un un_neg neg_S (c_int)) (ca_cons (c_int) (ca_cons (c_int) (ca_nil)))))) (css_nil)) (css_nil)) (css_cons (cs_ret (c_lst (ca_cons (c_binG (og_sub) (c_bity (cg_int) M.int PyProof.Rows.boot_int (ca_cons (c_var 1) (ca_nil))) (c_bity (cg_int) M.int PyProof.Rows.boot_int (ca_cons (c_var 0) (ca_nil)))) (ca_nil)))) (css_nil))

abbrev s_law_form_sign : Stmt := topS 34
theorem sc_law_form_sign : FnScope N_law_form_sign ["form", "region"] (defScope s_law_form_sign) := ⟨rfl, rfl, rfl, by decide +kernel, rfl, by decide +kernel, by decide +kernel⟩
theorem ok_law_form_sign {k : Nat} {f : Addr} {fd : FuncData} {G G_law_sign : Fn} (M : MB mg) (C : CC z mg) (hK : K = z.K) (F : L2.Fun K "_law_form_sign" "_law_form_sign" s_law_form_sign f fd)
    (D_law_sign : Df z.P z.w K mg base z 13 "_law_sign" k 1 G_law_sign)
    (run : ∀ args m, args.length = 2 → G args m = .no ∨ runDef false 11 (sem_law_form_sign G_law_sign) args m = G args m) :
    FnOk z.P z.w K mg base (L2N.CX z.P z.w) (k + 1) f fd ["form", "region"] (spG z 2 G) :=
  def_ok F sc_law_form_sign hK rfl false (sem_law_form_sign G_law_sign) run fun cdv A outer s H E hr gc =>
    css_cons (cs_setT [2, 3, 4, 5, 6] gc (c_var 1) (pg_tup (gc).calm (pgs_cons (pgn 2 (gc)) (pgs_cons (pgn 3 (gc)) (pgs_cons (pgn 4 (gc)) (pgs_cons (pgn 5 (gc)) (pgs_cons (pgn 6 (gc)) (pgs_nil)))))))) (css_cons (cs_setT [7, 8, 9] gc (c_var 0) (pg_tup (gc).calm (pgs_cons (pgn 7 (gc)) (pgs_cons (pgn 8 (gc)) (pgs_cons (pgn 9 (gc)) (pgs_nil)))))) (css_cons (cs_set 10 gc (c_binG (og_add (gc).hK) (c_binG (og_add (gc).hK) (c_var 7) (c_binG (og_mul (gc).hK) (c_var 8) (c_var 4))) (c_binG (og_mul (gc).hK) (c_var 9) (c_var 2)))) (css_cons (cs_if (ct_cmpG (og_ne (gc).hK (gc).hu1) (c_var 10) (c_int)) (css_cons (cs_ret (c_call D_law_sign (gc) hr (ca_cons (c_var 10) (ca_nil)) (Nat.le_refl _))) (css_nil)) (css_nil)) (css_cons (cs_if (ct_w (cw_and (ct_cmpG (og_eq (gc).hK (gc).hu1) (c_var 8) (c_int)) (cw_and1 (ct_cmpG (og_eq (gc).hK (gc).hu1) (c_var 9) (c_un un_neg neg_S (c_int)))))) (css_cons (cs_ret (c_var 6)) (css_nil)) (css_nil)) (css_cons (cs_ret (c_binG (og_add (gc).hK) (c_binG (og_mul (gc).hK) (c_var 8) (c_bity (cg_int) M.int PyProof.Rows.boot_int (ca_cons (c_var 5) (ca_nil)))) (c_binG (og_mul (gc).hK) (c_var 9) (c_bity (cg_int) M.int PyProof.Rows.boot_int (ca_cons (c_var 3) (ca_nil)))))) (css_nil))))))

abbrev s_law_less_form : Stmt := topS 35
theorem sc_law_less_form : FnScope N_law_less_form ["one", "other"] (defScope s_law_less_form) := ⟨rfl, rfl, rfl, by decide +kernel, rfl, by decide +kernel, by decide +kernel⟩
theorem ok_law_less_form {k : Nat} {f : Addr} {fd : FuncData} {G  : Fn} (M : MB mg) (C : CC z mg) (hK : K = z.K) (F : L2.Fun K "_law_less_form" "_law_less_form" s_law_less_form f fd)
    (run : ∀ args m, args.length = 2 → G args m = .no ∨ runDef false 2 (sem_law_less_form ) args m = G args m) :
    FnOk z.P z.w K mg base (L2N.CX z.P z.w) (k + 1) f fd ["one", "other"] (spG z 2 G) :=
  def_ok F sc_law_less_form hK rfl false (sem_law_less_form ) run fun cdv A outer s H E hr gc =>
    css_cons (cs_ret (c_tup (ca_cons (c_binG (og_sub) (c_ix (gc).hK (c_var 0) (c_int)) (c_ix (gc).hK (c_var 1) (c_int))) (ca_cons (c_binG (og_sub) (c_ix (gc).hK (c_var 0) (c_int)) (c_ix (gc).hK (c_var 1) (c_int))) (ca_cons (c_binG (og_sub) (c_ix (gc).hK (c_var 0) (c_int)) (c_ix (gc).hK (c_var 1) (c_int))) (ca_nil)))))) (css_nil)

abbrev s_law_lag : Stmt := topS 36
theorem sc_law_lag : FnScope N_law_lag ["lag", "number", "region"] (defScope s_law_lag) := ⟨rfl, rfl, rfl, by decide +kernel, rfl, by decide +kernel, by decide +kernel⟩
theorem ok_law_lag {k : Nat} {f : Addr} {fd : FuncData} {G G_law_form_sign G_law_less_form : Fn} (M : MB mg) (C : CC z mg) (hK : K = z.K) (F : L2.Fun K "_law_lag" "_law_lag" s_law_lag f fd)
    (D_law_form_sign : Df z.P z.w K mg base z 16 "_law_form_sign" k 2 G_law_form_sign)
    (D_law_less_form : Df z.P z.w K mg base z 17 "_law_less_form" k 2 G_law_less_form)
    (run : ∀ args m, args.length = 3 → G args m = .no ∨ runDef false 4 (sem_law_lag G_law_form_sign G_law_less_form) args m = G args m) :
    FnOk z.P z.w K mg base (L2N.CX z.P z.w) (k + 1) f fd ["lag", "number", "region"] (spG z 3 G) :=
  def_ok F sc_law_lag hK rfl false (sem_law_lag G_law_form_sign G_law_less_form) run fun cdv A outer s H E hr gc =>
    css_cons (cs_set 3 gc (c_tup (ca_cons (c_binG (og_add (gc).hK) (c_ix (gc).hK (c_var 0) (c_int)) (c_var 1)) (ca_cons (c_ix (gc).hK (c_var 0) (c_int)) (ca_cons (c_ix (gc).hK (c_var 0) (c_int)) (ca_nil)))))) (css_cons (cs_if (ct_w (cw_and (ct_cmpG (og_gt) (c_var 1) (c_int)) (cw_and1 (ct_cmpG (og_ge) (c_call D_law_form_sign (gc) hr (ca_cons (c_call D_law_less_form (gc) hr (ca_cons (c_var 3) (ca_cons (c_tup (ca_cons (c_int) (ca_cons (c_int) (ca_cons (c_int) (ca_nil))))) (ca_nil))) (Nat.le_refl _)) (ca_cons (c_var 2) (ca_nil))) (Nat.le_refl _)) (c_int))))) (css_cons (cs_ret (c_tup (ca_cons (c_int) (ca_cons (c_int) (ca_cons (c_int) (ca_nil)))))) (css_nil)) (css_nil)) (css_cons (cs_if (ct_w (cw_and (ct_cmpG (og_lt) (c_var 1) (c_int)) (cw_and1 (ct_cmpG (og_le) (c_call D_law_form_sign (gc) hr (ca_cons (c_var 3) (ca_cons (c_var 2) (ca_nil))) (Nat.le_refl _)) (c_int))))) (css_cons (cs_ret (c_tup (ca_cons (c_int) (ca_cons (c_int) (ca_cons (c_int) (ca_nil)))))) (css_nil)) (css_nil)) (css_cons (cs_ret (c_var 3)) (css_nil))))

abbrev s_law_turned : Stmt := topS 37
theorem sc_law_turned : FnScope N_law_turned ["state", "number", "region"] (defScope s_law_turned) := ⟨rfl, rfl, rfl, by decide +kernel, rfl, by decide +kernel, by decide +kernel⟩
theorem ok_law_turned {k : Nat} {f : Addr} {fd : FuncData} {G G_law_lag : Fn} (M : MB mg) (C : CC z mg) (hK : K = z.K) (F : L2.Fun K "_law_turned" "_law_turned" s_law_turned f fd)
    (D_law_lag : Df z.P z.w K mg base z 18 "_law_lag" k 3 G_law_lag)
    (run : ∀ args m, args.length = 3 → G args m = .no ∨ runDef false 8 (sem_law_turned G_law_lag) args m = G args m) :
    FnOk z.P z.w K mg base (L2N.CX z.P z.w) (k + 1) f fd ["state", "number", "region"] (spG z 3 G) :=
  def_ok F sc_law_turned hK rfl false (sem_law_turned G_law_lag) run fun cdv A outer s H E hr gc =>
    css_cons (cs_setT [3, 4, 5, 6, 7] gc (c_var 0) (pg_tup (gc).calm (pgs_cons (pgn 3 (gc)) (pgs_cons (pgn 4 (gc)) (pgs_cons (pgn 5 (gc)) (pgs_cons (pgn 6 (gc)) (pgs_cons (pgn 7 (gc)) (pgs_nil)))))))) (css_cons (cs_par2 3 4 gc (ca_cons (c_binG (og_add (gc).hK) (c_var 3) (c_var 1)) (ca_cons (c_call D_law_lag (gc) hr (ca_cons (c_var 4) (ca_cons (c_var 1) (ca_cons (c_var 2) (ca_nil)))) (Nat.le_refl _)) (ca_nil)))) (css_cons (cs_ret (c_tup (ca_cons (c_var 3) (ca_cons (c_var 4) (ca_cons (c_var 5) (ca_cons (c_var 6) (ca_cons (c_binG (og_add (gc).hK) (c_var 7) (c_lst (ca_cons (c_tup (ca_cons (c_var 3) (ca_cons (c_var 4) (ca_nil)))) (ca_nil)))) (ca_nil)))))))) (css_nil)))

abbrev s_law_seen : Stmt := topS 38
theorem sc_law_seen : FnScope N_law_seen ["state", "mark", "region"] (defScope s_law_seen) := ⟨rfl, rfl, rfl, by decide +kernel, rfl, by decide +kernel, by decide +kernel⟩
theorem ok_law_seen {k : Nat} {f : Addr} {fd : FuncData} {G G_law_form_sign : Fn} (M : MB mg) (C : CC z mg) (hK : K = z.K) (F : L2.Fun K "_law_seen" "_law_seen" s_law_seen f fd)
    (D_law_form_sign : Df z.P z.w K mg base z 16 "_law_form_sign" k 2 G_law_form_sign)
    (run : ∀ args m, args.length = 3 → G args m = .no ∨ runDef false 6 (sem_law_seen G_law_form_sign) args m = G args m) :
    FnOk z.P z.w K mg base (L2N.CX z.P z.w) (k + 1) f fd ["state", "mark", "region"] (spG z 3 G) :=
  def_ok F sc_law_seen hK rfl false (sem_law_seen G_law_form_sign) run fun cdv A outer s H E hr gc =>
    css_cons (cs_setT [3, 4] gc (c_sl (gc).hK (c_var 0) (co_none) (co_some (c_int))) (pg_tup (gc).calm (pgs_cons (pgn 3 (gc)) (pgs_cons (pgn 4 (gc)) (pgs_nil))))) (css_cons (cs_set 5 gc (c_call D_law_form_sign (gc) hr (ca_cons (c_tup (ca_cons (c_binG (og_sub) (c_binG (og_add (gc).hK) (c_ix (gc).hK (c_var 4) (c_int)) (c_var 1)) (c_var 3)) (ca_cons (c_ix (gc).hK (c_var 4) (c_int)) (ca_cons (c_ix (gc).hK (c_var 4) (c_int)) (ca_nil))))) (ca_cons (c_var 2) (ca_nil))) (Nat.le_refl _))) (css_cons (cs_ret (c_mapget (.cons key_int (c_str) (.cons key_int (c_str) (.cons key_neg (c_str) (.nil)))) (gc) (c_var 5) (c_str) ⟨rfl, rfl, rfl, rfl⟩)) (css_nil)))

abbrev s_law_looked : Stmt := topS 39
theorem sc_law_looked : FnScope N_law_looked ["state", "more", "answer"] (defScope s_law_looked) := ⟨rfl, rfl, rfl, by decide +kernel, rfl, by decide +kernel, by decide +kernel⟩
theorem ok_law_looked {k : Nat} {f : Addr} {fd : FuncData} {G  : Fn} (M : MB mg) (C : CC z mg) (hK : K = z.K) (F : L2.Fun K "_law_looked" "_law_looked" s_law_looked f fd)
    (run : ∀ args m, args.length = 3 → G args m = .no ∨ runDef false 3 (sem_law_looked ) args m = G args m) :
    FnOk z.P z.w K mg base (L2N.CX z.P z.w) (k + 1) f fd ["state", "more", "answer"] (spG z 3 G) :=
  def_ok F sc_law_looked hK rfl false (sem_law_looked ) run fun cdv A outer s H E hr gc =>
    css_cons (cs_ret (c_binG (og_add (gc).hK) (c_sl (gc).hK (c_var 0) (co_none) (co_some (c_int))) (c_tup (ca_cons (c_binG (og_add (gc).hK) (c_ix (gc).hK (c_var 0) (c_int)) (c_var 2)) (ca_cons (c_binG (og_add (gc).hK) (c_ix (gc).hK (c_var 0) (c_int)) (c_var 1)) (ca_cons (c_ix (gc).hK (c_var 0) (c_int)) (ca_nil))))))) (css_nil)

abbrev s_law_repeat : Stmt := topS 40
theorem sc_law_repeat : FnScope N_law_repeat ["state", "many", "turns_so", "region"] (defScope s_law_repeat) := ⟨rfl, rfl, rfl, by decide +kernel, rfl, by decide +kernel, by decide +kernel⟩
theorem ok_law_repeat {k : Nat} {f : Addr} {fd : FuncData} {G G_law_turned : Fn} (M : MB mg) (C : CC z mg) (hK : K = z.K) (F : L2.Fun K "_law_repeat" "_law_repeat" s_law_repeat f fd)
    (D_law_turned : Df z.P z.w K mg base z 19 "_law_turned" k 3 G_law_turned)
    (run : ∀ args m, args.length = 4 → G args m = .no ∨ runDef false 6 (sem_law_repeat G_law_turned) args m = G args m) :
    FnOk z.P z.w K mg base (L2N.CX z.P z.w) (k + 1) f fd ["state", "many", "turns_so", "region"] (spG z 4 G) :=
  def_ok F sc_law_repeat hK rfl false (sem_law_repeat G_law_turned) run fun cdv A outer s H E hr gc =>
    css_cons (cs_for (T := .one 4) gc (ci_rng1 M.range (c_bif (cg_min2 (gc).calm) M.min (by decide +kernel) (ca_cons (c_var 1) (ca_cons (c_int) (ca_nil))))) (pgn 4 (gc)) (css_cons (cs_for (T := .one 5) gc (ci_seq (gc).hK (c_var 2)) (pgn 5 (gc)) (css_cons (cs_set 0 gc (c_call D_law_turned (gc) hr (ca_cons (c_var 0) (ca_cons (c_var 5) (ca_cons (c_var 3) (ca_nil)))) (Nat.le_refl _))) (css_nil))) (css_nil))) (css_cons (cs_if (ct_cmpG (og_gt) (c_var 1) (c_int)) (css_cons (cs_set 0 gc (c_binG (og_add (gc).hK) (c_tup (ca_cons (c_binG (og_add (gc).hK) (c_ix (gc).hK (c_var 0) (c_int)) (c_binG (og_mul (gc).hK) (c_binG (og_sub) (c_var 1) (c_int)) (c_bif (cg_sum ((gc)).hK ((gc)).calm) M.sum (by decide +kernel) (ca_cons (c_var 2) (ca_nil))))) (ca_nil))) (c_sl (gc).hK (c_var 0) (co_some (c_int)) (co_none)))) (css_cons (cs_for (T := .one 5) gc (ci_seq (gc).hK (c_var 2)) (pgn 5 (gc)) (css_cons (cs_set 0 gc (c_call D_law_turned (gc) hr (ca_cons (c_var 0) (ca_cons (c_var 5) (ca_cons (c_var 3) (ca_nil)))) (Nat.le_refl _))) (css_nil))) (css_nil))) (css_nil)) (css_cons (cs_ret (c_var 0)) (css_nil)))

abbrev s_law_until : Stmt := topS 41
theorem sc_law_until : FnScope N_law_until ["state", "step", "region"] (defScope s_law_until) := ⟨rfl, rfl, rfl, by decide +kernel, rfl, by decide +kernel, by decide +kernel⟩
theorem ok_law_until {k : Nat} {f : Addr} {fd : FuncData} {G G_law_seen G_law_turned G_law_looked : Fn} (M : MB mg) (C : CC z mg) (hK : K = z.K) (F : L2.Fun K "_law_until" "_law_until" s_law_until f fd)
    (D_law_seen : Df z.P z.w K mg base z 20 "_law_seen" k 3 G_law_seen)
    (D_law_turned : Df z.P z.w K mg base z 19 "_law_turned" k 3 G_law_turned)
    (D_law_looked : Df z.P z.w K mg base z 21 "_law_looked" k 3 G_law_looked)
    (run : ∀ args m, args.length = 3 → G args m = .no ∨ runDef false 9 (sem_law_until G_law_seen G_law_turned G_law_looked) args m = G args m) :
    FnOk z.P z.w K mg base (L2N.CX z.P z.w) (k + 1) f fd ["state", "step", "region"] (spG z 3 G) :=
  def_ok F sc_law_until hK rfl false (sem_law_until G_law_seen G_law_turned G_law_looked) run fun cdv A outer s H E hr gc =>
    css_cons (cs_setT [3, 4, 5, 6, 7] gc (c_var 1) (pg_tup (gc).calm (pgs_cons (pgn 3 (gc)) (pgs_cons (pgn 4 (gc)) (pgs_cons (pgn 5 (gc)) (pgs_cons (pgn 6 (gc)) (pgs_cons (pgn 7 (gc)) (pgs_nil)))))))) (css_cons (cs_set 8 gc (c_int)) (css_cons (cs_while (fuK 25) gc (ct_w (cw_and (ct_cmpG (og_ne (gc).hK (gc).hu1) (c_call D_law_seen (gc) hr (ca_cons (c_var 0) (ca_cons (c_var 5) (ca_cons (c_var 2) (ca_nil)))) (Nat.le_refl _)) (c_var 4)) (cw_and1 (ct_cmpG (og_lt) (c_var 8) (c_var 7))))) (css_cons (cs_par2 0 8 gc (ca_cons (c_call D_law_turned (gc) hr (ca_cons (c_var 0) (ca_cons (c_var 6) (ca_cons (c_var 2) (ca_nil)))) (Nat.le_refl _)) (ca_cons (c_binG (og_add (gc).hK) (c_var 8) (c_int)) (ca_nil)))) (css_nil))) (css_cons (cs_ret (c_call D_law_looked (gc) hr (ca_cons (c_var 0) (ca_cons (c_binG (og_add (gc).hK) (c_var 8) (c_int)) (ca_cons (c_tup (ca_cons (c_var 8) (ca_nil))) (ca_nil)))) (Nat.le_refl _))) (css_nil))))

abbrev s_law_done : Stmt := topS 42
theorem sc_law_done : FnScope N_law_done ["state", "step", "region"] (defScope s_law_done) := ⟨rfl, rfl, rfl, by decide +kernel, rfl, by decide +kernel, by decide +kernel⟩
theorem ok_law_done {k : Nat} {f : Addr} {fd : FuncData} {G G_law_turned G_law_repeat G_law_until G_law_seen G_law_looked G_law_all_done : Fn} (M : MB mg) (C : CC z mg) (hK : K = z.K) (F : L2.Fun K "_law_done" "_law_done" s_law_done f fd)
    (D_law_turned : Df z.P z.w K mg base z 19 "_law_turned" k 3 G_law_turned)
    (D_law_repeat : Df z.P z.w K mg base z 22 "_law_repeat" k 4 G_law_repeat)
    (D_law_until : Df z.P z.w K mg base z 23 "_law_until" k 3 G_law_until)
    (D_law_seen : Df z.P z.w K mg base z 20 "_law_seen" k 3 G_law_seen)
    (D_law_looked : Df z.P z.w K mg base z 21 "_law_looked" k 3 G_law_looked)
    (D_law_all_done : Df z.P z.w K mg base z 25 "_law_all_done" k 3 G_law_all_done)
    (run : ∀ args m, args.length = 3 → G args m = .no ∨ runDef false 5 (sem_law_done G_law_turned G_law_repeat G_law_until G_law_seen G_law_looked G_law_all_done) args m = G args m) :
    FnOk z.P z.w K mg base (L2N.CX z.P z.w) (k + 1) f fd ["state", "step", "region"] (spG z 3 G) :=
  def_ok F sc_law_done hK rfl false (sem_law_done G_law_turned G_law_repeat G_law_until G_law_seen G_law_looked G_law_all_done) run fun cdv A outer s H E hr gc =>
    css_cons (cs_if (ct_cmpG (og_eq (gc).hK (gc).hu1) (c_ix (gc).hK (c_var 1) (c_int)) (c_str)) (css_cons (cs_ret (c_call D_law_turned (gc) hr (ca_cons (c_var 0) (ca_cons (c_ix (gc).hK (c_var 1) (c_int)) (ca_cons (c_var 2) (ca_nil)))) (Nat.le_refl _))) (css_nil)) (css_nil)) (css_cons (cs_if (ct_cmpG (og_eq (gc).hK (gc).hu1) (c_ix (gc).hK (c_var 1) (c_int)) (c_str)) (css_cons (cs_ret (c_call D_law_turned (gc) hr (ca_cons (c_var 0) (ca_cons (c_binG (og_sub) (c_ix (gc).hK (c_var 1) (c_int)) (c_ix (gc).hK (c_var 0) (c_int))) (ca_cons (c_var 2) (ca_nil)))) (Nat.le_refl _))) (css_nil)) (css_nil)) (css_cons (cs_if (ct_cmpG (og_eq (gc).hK (gc).hu1) (c_ix (gc).hK (c_var 1) (c_int)) (c_str)) (css_cons (cs_ret (c_call D_law_repeat (gc) hr (ca_cons (c_var 0) (ca_cons (c_ix (gc).hK (c_var 1) (c_int)) (ca_cons (c_ix (gc).hK (c_var 1) (c_int)) (ca_cons (c_var 2) (ca_nil))))) (Nat.le_refl _))) (css_nil)) (css_nil)) (css_cons (cs_if (ct_cmpG (og_eq (gc).hK (gc).hu1) (c_ix (gc).hK (c_var 1) (c_int)) (c_str)) (css_cons (cs_ret (c_call D_law_until (gc) hr (ca_cons (c_var 0) (ca_cons (c_var 1) (ca_cons (c_var 2) (ca_nil)))) (Nat.le_refl _))) (css_nil)) (css_nil)) (css_cons (cs_set 3 gc (c_ite (ct_cmpG (og_eq (gc).hK (gc).hu1) (c_ix (gc).hK (c_var 1) (c_int)) (c_str)) (c_ix (gc).hK (c_var 1) (c_int)) (c_ix (gc).hK (c_var 1) (c_int)))) (css_cons (cs_set 4 gc (c_call D_law_seen (gc) hr (ca_cons (c_var 0) (ca_cons (c_var 3) (ca_cons (c_var 2) (ca_nil)))) (Nat.le_refl _))) (css_cons (cs_set 0 gc (c_call D_law_looked (gc) hr (ca_cons (c_var 0) (ca_cons (c_int) (ca_cons (c_tup (ca_cons (c_var 4) (ca_nil))) (ca_nil)))) (Nat.le_refl _))) (css_cons (cs_if (ct_cmpG (og_eq (gc).hK (gc).hu1) (c_ix (gc).hK (c_var 1) (c_int)) (c_str)) (css_cons (cs_set 0 gc (c_call D_law_all_done (gc) hr (ca_cons (c_var 0) (ca_cons (c_ite (ct_cmpG (og_eq (gc).hK (gc).hu1) (c_var 4) (c_ix (gc).hK (c_var 1) (c_int))) (c_ix (gc).hK (c_var 1) (c_int)) (c_ix (gc).hK (c_var 1) (c_int))) (ca_cons (c_var 2) (ca_nil)))) (Nat.le_refl _))) (css_nil)) (css_nil)) (css_cons (cs_ret (c_var 0)) (css_nil)))))))))

abbrev s_law_all_done : Stmt := topS 43
theorem sc_law_all_done : FnScope N_law_all_done ["state", "steps", "region"] (defScope s_law_all_done) := ⟨rfl, rfl, rfl, by decide +kernel, rfl, by decide +kernel, by decide +kernel⟩
theorem ok_law_all_done {k : Nat} {f : Addr} {fd : FuncData} {G G_law_done : Fn} (M : MB mg) (C : CC z mg) (hK : K = z.K) (F : L2.Fun K "_law_all_done" "_law_all_done" s_law_all_done f fd)
    (D_law_done : Df z.P z.w K mg base z 24 "_law_done" k 3 G_law_done)
    (run : ∀ args m, args.length = 3 → G args m = .no ∨ runDef false 4 (sem_law_all_done G_law_done) args m = G args m) :
    FnOk z.P z.w K mg base (L2N.CX z.P z.w) (k + 1) f fd ["state", "steps", "region"] (spG z 3 G) :=
  def_ok F sc_law_all_done hK rfl false (sem_law_all_done G_law_done) run fun cdv A outer s H E hr gc =>
    css_cons (cs_for (T := .one 3) gc (ci_seq (gc).hK (c_var 1)) (pgn 3 (gc)) (css_cons (cs_set 0 gc (c_call D_law_done (gc) hr (ca_cons (c_var 0) (ca_cons (c_var 3) (ca_cons (c_var 2) (ca_nil)))) (Nat.le_refl _))) (css_nil))) (css_cons (cs_ret (c_var 0)) (css_nil))

abbrev s_law_fate : Stmt := topS 44
theorem sc_law_fate : FnScope N_law_fate ["script", "region"] (defScope s_law_fate) := ⟨rfl, rfl, rfl, by decide +kernel, rfl, by decide +kernel, by decide +kernel⟩
theorem ok_law_fate {k : Nat} {f : Addr} {fd : FuncData} {G G_law_all_done : Fn} (M : MB mg) (C : CC z mg) (hK : K = z.K) (F : L2.Fun K "_law_fate" "_law_fate" s_law_fate f fd)
    (D_law_all_done : Df z.P z.w K mg base z 25 "_law_all_done" k 3 G_law_all_done)
    (run : ∀ args m, args.length = 2 → G args m = .no ∨ runDef false 2 (sem_law_fate G_law_all_done) args m = G args m) :
    FnOk z.P z.w K mg base (L2N.CX z.P z.w) (k + 1) f fd ["script", "region"] (spG z 2 G) :=
  def_ok F sc_law_fate hK rfl false (sem_law_fate G_law_all_done) run fun cdv A outer s H E hr gc =>
    css_cons (cs_ret (c_call D_law_all_done (gc) hr (ca_cons (c_tup (ca_cons (c_int) (ca_cons (c_tup (ca_cons (c_int) (ca_cons (c_int) (ca_cons (c_int) (ca_nil))))) (ca_cons (c_tup (ca_nil)) (ca_cons (c_int) (ca_cons (c_lst (ca_cons (c_tup (ca_cons (c_int) (ca_cons (c_tup (ca_cons (c_int) (ca_cons (c_int) (ca_cons (c_int) (ca_nil))))) (ca_nil)))) (ca_nil))) (ca_nil))))))) (ca_cons (c_var 0) (ca_cons (c_var 1) (ca_nil)))) (Nat.le_refl _))) (css_nil)

abbrev s_law_is_whole : Stmt := topS 45
theorem sc_law_is_whole : FnScope N_law_is_whole ["thing", "low", "high"] (defScope s_law_is_whole) := ⟨rfl, rfl, rfl, by decide +kernel, rfl, by decide +kernel, by decide +kernel⟩
theorem ok_law_is_whole {k : Nat} {f : Addr} {fd : FuncData} {G  : Fn} (M : MB mg) (C : CC z mg) (hK : K = z.K) (F : L2.Fun K "_law_is_whole" "_law_is_whole" s_law_is_whole f fd)
    (run : ∀ args m, args.length = 3 → G args m = .no ∨ runDef false 3 (sem_law_is_whole ) args m = G args m) :
    FnOk z.P z.w K mg base (L2N.CX z.P z.w) (k + 1) f fd ["thing", "low", "high"] (spG z 3 G) :=
  def_ok F sc_law_is_whole hK rfl false (sem_law_is_whole ) run fun cdv A outer s H E hr gc =>
    css_cons (cs_ret (c_and (c_isi .int (gc).hK M.isinstance M.int (c_var 0)) (c_and (c_not (c_isi .bool (gc).hK M.isinstance M.bool (c_var 0))) (c_one (c_chainG (og_le) (og_le) (c_var 1) (c_var 0) (c_var 2)))))) (css_nil)

abbrev s_law_is_turn : Stmt := topS 46
theorem sc_law_is_turn : FnScope N_law_is_turn ["thing"] (defScope s_law_is_turn) := ⟨rfl, rfl, rfl, by decide +kernel, rfl, by decide +kernel, by decide +kernel⟩
theorem ok_law_is_turn {k : Nat} {f : Addr} {fd : FuncData} {G G_law_is_whole : Fn} (M : MB mg) (C : CC z mg) (hK : K = z.K) (F : L2.Fun K "_law_is_turn" "_law_is_turn" s_law_is_turn f fd)
    (D_law_is_whole : Df z.P z.w K mg base z 27 "_law_is_whole" k 3 G_law_is_whole)
    (run : ∀ args m, args.length = 1 → G args m = .no ∨ runDef false 1 (sem_law_is_turn G_law_is_whole) args m = G args m) :
    FnOk z.P z.w K mg base (L2N.CX z.P z.w) (k + 1) f fd ["thing"] (spG z 1 G) :=
  def_ok F sc_law_is_turn hK rfl false (sem_law_is_turn G_law_is_whole) run fun cdv A outer s H E hr gc =>
    css_cons (cs_ret (c_call D_law_is_whole (gc) hr (ca_cons (c_var 0) (ca_cons (c_un un_neg neg_S (c_int)) (ca_cons (c_int) (ca_nil)))) (Nat.le_refl _))) (css_nil)

abbrev s_law_is_word : Stmt := topS 47
theorem sc_law_is_word : FnScope N_law_is_word ["thing"] (defScope s_law_is_word) := ⟨rfl, rfl, rfl, by decide +kernel, rfl, by decide +kernel, by decide +kernel⟩
theorem ok_law_is_word {k : Nat} {f : Addr} {fd : FuncData} {G  : Fn} (M : MB mg) (C : CC z mg) (hK : K = z.K) (F : L2.Fun K "_law_is_word" "_law_is_word" s_law_is_word f fd)
    (run : ∀ args m, args.length = 1 → G args m = .no ∨ runDef false 1 (sem_law_is_word ) args m = G args m) :
    FnOk z.P z.w K mg base (L2N.CX z.P z.w) (k + 1) f fd ["thing"] (spG z 1 G) :=
  def_ok F sc_law_is_word hK rfl false (sem_law_is_word ) run fun cdv A outer s H E hr gc =>
    css_cons (cs_ret (c_and (c_isi .str (gc).hK M.isinstance M.str (c_var 0)) (c_one (c_cmpG (og_in (gc).hK (gc).hu1) (c_var 0) (c_tup (ca_cons (c_str) (ca_cons (c_str) (ca_cons (c_str) (ca_nil))))))))) (css_nil)

abbrev s_law_is_inner : Stmt := topS 48
theorem sc_law_is_inner : FnScope N_law_is_inner ["thing", "deep"] (defScope s_law_is_inner) := ⟨rfl, rfl, rfl, by decide +kernel, rfl, by decide +kernel, by decide +kernel⟩
theorem ok_law_is_inner {k : Nat} {f : Addr} {fd : FuncData} {G G_law_is_step : Fn} (M : MB mg) (C : CC z mg) (hK : K = z.K) (F : L2.Fun K "_law_is_inner" "_law_is_inner" s_law_is_inner f fd)
    (D_law_is_step : Df z.P z.w K mg base z 32 "_law_is_step" k 2 G_law_is_step)
    (run : ∀ args m, args.length = 2 → G args m = .no ∨ runDef false 3 (sem_law_is_inner G_law_is_step) args m = G args m) :
    FnOk z.P z.w K mg base (L2N.CX z.P z.w) (k + 1) f fd ["thing", "deep"] (spG z 2 G) :=
  def_ok F sc_law_is_inner hK rfl false (sem_law_is_inner G_law_is_step) run fun cdv A outer s H E hr gc =>
    css_cons (cs_if (ct_w (cw_or (ct_not (ct_val (c_isi .tuple (gc).hK M.isinstance M.tuple (c_var 0)))) (cw_or1 (ct_cmpG (og_gt) (c_bif (cg_len (gc).hK) M.len PySem.boot_len (ca_cons (c_var 0) (ca_nil))) (c_int))))) (css_cons (cs_ret (c_bl)) (css_nil)) (css_nil)) (css_cons (cs_ret (c_cmpG (og_eq (gc).hK (gc).hu1) (c_lc (T := .one 2) (gc).hK (gc).calm (gc).nd (ci_seq (gc).hK (c_var 0)) (blkOk_by (own := [("step", 2)]) (N := N_law_is_inner) (sc := defScope s_law_is_inner) (by decide +kernel)) (fun s1 H1 C1 cl1 fp1 => pgn 2 ((gc).blk s1 H1 _ _ fp1)) (fun s1 H1 C1 cl1 fp1 => cts_one (ct_not (ct_val (c_call D_law_is_step ((gc).blk s1 H1 _ _ fp1) hr (ca_cons (c_var 2) (ca_cons (c_var 1) (ca_nil))) (Nat.le_refl _))))) (fun s1 H1 C1 cl1 fp1 => c_var 2)) (c_lst (ca_nil)))) (css_nil))

abbrev s_law_is_long : Stmt := topS 49
theorem sc_law_is_long : FnScope N_law_is_long ["thing", "deep"] (defScope s_law_is_long) := ⟨rfl, rfl, rfl, by decide +kernel, rfl, by decide +kernel, by decide +kernel⟩
theorem ok_law_is_long {k : Nat} {f : Addr} {fd : FuncData} {G G_law_is_word G_law_is_whole G_law_is_turn G_law_is_inner : Fn} (M : MB mg) (C : CC z mg) (hK : K = z.K) (F : L2.Fun K "_law_is_long" "_law_is_long" s_law_is_long f fd)
    (D_law_is_word : Df z.P z.w K mg base z 29 "_law_is_word" k 1 G_law_is_word)
    (D_law_is_whole : Df z.P z.w K mg base z 27 "_law_is_whole" k 3 G_law_is_whole)
    (D_law_is_turn : Df z.P z.w K mg base z 28 "_law_is_turn" k 1 G_law_is_turn)
    (D_law_is_inner : Df z.P z.w K mg base z 30 "_law_is_inner" k 2 G_law_is_inner)
    (run : ∀ args m, args.length = 2 → G args m = .no ∨ runDef false 2 (sem_law_is_long G_law_is_word G_law_is_whole G_law_is_turn G_law_is_inner) args m = G args m) :
    FnOk z.P z.w K mg base (L2N.CX z.P z.w) (k + 1) f fd ["thing", "deep"] (spG z 2 G) :=
  def_ok F sc_law_is_long hK rfl false (sem_law_is_long G_law_is_word G_law_is_whole G_law_is_turn G_law_is_inner) run fun cdv A outer s H E hr gc =>
    css_cons (cs_if (ct_w (cw_or (ct_not (ct_val (c_call D_law_is_word (gc) hr (ca_cons (c_ix (gc).hK (c_var 0) (c_int)) (ca_nil)) (Nat.le_refl _)))) (cw_or1 (ct_not (ct_val (c_call D_law_is_whole (gc) hr (ca_cons (c_ix (gc).hK (c_var 0) (c_int)) (ca_cons (c_un un_neg neg_S (c_int)) (ca_cons (c_int) (ca_nil)))) (Nat.le_refl _))))))) (css_cons (cs_ret (c_bl)) (css_nil)) (css_nil)) (css_cons (cs_if (ct_cmpG (og_eq (gc).hK (gc).hu1) (c_ix (gc).hK (c_var 0) (c_int)) (c_str)) (css_cons (cs_ret (c_and (c_call D_law_is_turn (gc) hr (ca_cons (c_ix (gc).hK (c_var 0) (c_int)) (ca_nil)) (Nat.le_refl _)) (c_and (c_cmpG (og_ne (gc).hK (gc).hu1) (c_ix (gc).hK (c_var 0) (c_int)) (c_int)) (c_one (c_call D_law_is_whole (gc) hr (ca_cons (c_ix (gc).hK (c_var 0) (c_int)) (ca_cons (c_int) (ca_cons (c_int) (ca_nil)))) (Nat.le_refl _)))))) (css_nil)) (css_nil)) (css_cons (cs_if (ct_w (cw_or (ct_cmpG (og_ne (gc).hK (gc).hu1) (c_ix (gc).hK (c_var 0) (c_int)) (c_str)) (cw_or1 (ct_cmpG (og_eq (gc).hK (gc).hu1) (c_var 1) (c_int))))) (css_cons (cs_ret (c_bl)) (css_nil)) (css_nil)) (css_cons (cs_ret (c_and (c_call D_law_is_inner (gc) hr (ca_cons (c_ix (gc).hK (c_var 0) (c_int)) (ca_cons (c_binG (og_sub) (c_var 1) (c_int)) (ca_nil))) (Nat.le_refl _)) (c_one (c_call D_law_is_inner (gc) hr (ca_cons (c_ix (gc).hK (c_var 0) (c_int)) (ca_cons (c_binG (og_sub) (c_var 1) (c_int)) (ca_nil))) (Nat.le_refl _))))) (css_nil))))

abbrev s_law_is_step : Stmt := topS 50
theorem sc_law_is_step : FnScope N_law_is_step ["thing", "deep"] (defScope s_law_is_step) := ⟨rfl, rfl, rfl, by decide +kernel, rfl, by decide +kernel, by decide +kernel⟩
theorem ok_law_is_step {k : Nat} {f : Addr} {fd : FuncData} {G G_law_is_long G_law_is_whole G_law_is_turn : Fn} (M : MB mg) (C : CC z mg) (hK : K = z.K) (F : L2.Fun K "_law_is_step" "_law_is_step" s_law_is_step f fd)
    (D_law_is_long : Df z.P z.w K mg base z 31 "_law_is_long" k 2 G_law_is_long)
    (D_law_is_whole : Df z.P z.w K mg base z 27 "_law_is_whole" k 3 G_law_is_whole)
    (D_law_is_turn : Df z.P z.w K mg base z 28 "_law_is_turn" k 1 G_law_is_turn)
    (run : ∀ args m, args.length = 2 → G args m = .no ∨ runDef false 3 (sem_law_is_step G_law_is_long G_law_is_whole G_law_is_turn) args m = G args m) :
    FnOk z.P z.w K mg base (L2N.CX z.P z.w) (k + 1) f fd ["thing", "deep"] (spG z 2 G) :=
  def_ok F sc_law_is_step hK rfl false (sem_law_is_step G_law_is_long G_law_is_whole G_law_is_turn) run fun cdv A outer s H E hr gc =>
    css_cons (cs_if (ct_w (cw_or (ct_not (ct_val (c_isi .tuple (gc).hK M.isinstance M.tuple (c_var 0)))) (cw_or (ct_cmpG (og_notIn (gc).hK (gc).hu1) (c_bif (cg_len (gc).hK) M.len PySem.boot_len (ca_cons (c_var 0) (ca_nil))) (c_tup (ca_cons (c_int) (ca_cons (c_int) (ca_cons (c_int) (ca_nil)))))) (cw_or1 (ct_not (ct_val (c_isi .str (gc).hK M.isinstance M.str (c_ix (gc).hK (c_var 0) (c_int))))))))) (css_cons (cs_ret (c_bl)) (css_nil)) (css_nil)) (css_cons (cs_if (ct_cmpG (og_eq (gc).hK (gc).hu1) (c_bif (cg_len (gc).hK) M.len PySem.boot_len (ca_cons (c_var 0) (ca_nil))) (c_int)) (css_cons (cs_ret (c_call D_law_is_long (gc) hr (ca_cons (c_var 0) (ca_cons (c_var 1) (ca_nil))) (Nat.le_refl _))) (css_nil)) (css_nil)) (css_cons (cs_if (ct_cmpG (og_eq (gc).hK (gc).hu1) (c_bif (cg_len (gc).hK) M.len PySem.boot_len (ca_cons (c_var 0) (ca_nil))) (c_int)) (css_cons (cs_if (ct_w (cw_or (ct_cmpG (og_ne (gc).hK (gc).hu1) (c_ix (gc).hK (c_var 0) (c_int)) (c_str)) (cw_or1 (ct_not (ct_val (c_call D_law_is_whole (gc) hr (ca_cons (c_ix (gc).hK (c_var 0) (c_int)) (ca_cons (c_int) (ca_cons (c_binG (og_sub) (c_binG (og_mul (gc).hK) (c_binG (og_pow) (c_int) (c_int)) (c_binG (og_pow) (c_int) (c_int))) (c_int)) (ca_nil)))) (Nat.le_refl _))))))) (css_cons (cs_ret (c_bl)) (css_nil)) (css_nil)) (css_cons (cs_if (ct_w (cw_or (ct_not (ct_val (c_isi .tuple (gc).hK M.isinstance M.tuple (c_ix (gc).hK (c_var 0) (c_int))))) (cw_or1 (ct_not (ct_chainG (og_le) (og_le) (c_int) (c_bif (cg_len (gc).hK) M.len PySem.boot_len (ca_cons (c_ix (gc).hK (c_var 0) (c_int)) (ca_nil))) (c_int)))))) (css_cons (cs_ret (c_bl)) (css_nil)) (css_nil)) (css_cons (cs_ret (c_cmpG (og_eq (gc).hK (gc).hu1) (c_lc (T := .one 2) (gc).hK (gc).calm (gc).nd (ci_seq (gc).hK (c_ix (gc).hK (c_var 0) (c_int))) (blkOk_by (own := [("turn", 2)]) (N := N_law_is_step) (sc := defScope s_law_is_step) (by decide +kernel)) (fun s1 H1 C1 cl1 fp1 => pgn 2 ((gc).blk s1 H1 _ _ fp1)) (fun s1 H1 C1 cl1 fp1 => cts_one (ct_not (ct_val (c_call D_law_is_turn ((gc).blk s1 H1 _ _ fp1) hr (ca_cons (c_var 2) (ca_nil)) (Nat.le_refl _))))) (fun s1 H1 C1 cl1 fp1 => c_var 2)) (c_lst (ca_nil)))) (css_nil)))) (css_nil)) (css_cons (cs_if (ct_cmpG (og_eq (gc).hK (gc).hu1) (c_ix (gc).hK (c_var 0) (c_int)) (c_str)) (css_cons (cs_ret (c_call D_law_is_turn (gc) hr (ca_cons (c_ix (gc).hK (c_var 0) (c_int)) (ca_nil)) (Nat.le_refl _))) (css_nil)) (css_nil)) (css_cons (cs_ret (c_and (c_cmpG (og_in (gc).hK (gc).hu1) (c_ix (gc).hK (c_var 0) (c_int)) (c_tup (ca_cons (c_str) (ca_cons (c_str) (ca_nil))))) (c_one (c_call D_law_is_whole (gc) hr (ca_cons (c_ix (gc).hK (c_var 0) (c_int)) (ca_cons (c_un un_neg neg_S (c_int)) (ca_cons (c_int) (ca_nil)))) (Nat.le_refl _))))) (css_nil)))))

abbrev s_law_is_script : Stmt := topS 51
theorem sc_law_is_script : FnScope N_law_is_script ["thing"] (defScope s_law_is_script) := ⟨rfl, rfl, rfl, by decide +kernel, rfl, by decide +kernel, by decide +kernel⟩
theorem ok_law_is_script {k : Nat} {f : Addr} {fd : FuncData} {G G_law_is_step : Fn} (M : MB mg) (C : CC z mg) (hK : K = z.K) (F : L2.Fun K "_law_is_script" "_law_is_script" s_law_is_script f fd)
    (D_law_is_step : Df z.P z.w K mg base z 32 "_law_is_step" k 2 G_law_is_step)
    (run : ∀ args m, args.length = 1 → G args m = .no ∨ runDef false 2 (sem_law_is_script G_law_is_step) args m = G args m) :
    FnOk z.P z.w K mg base (L2N.CX z.P z.w) (k + 1) f fd ["thing"] (spG z 1 G) :=
  def_ok F sc_law_is_script hK rfl false (sem_law_is_script G_law_is_step) run fun cdv A outer s H E hr gc =>
    css_cons (cs_if (ct_w (cw_or (ct_not (ct_val (c_isi .tuple (gc).hK M.isinstance M.tuple (c_var 0)))) (cw_or1 (ct_cmpG (og_gt) (c_bif (cg_len (gc).hK) M.len PySem.boot_len (ca_cons (c_var 0) (ca_nil))) (c_int))))) (css_cons (cs_ret (c_bl)) (css_nil)) (css_nil)) (css_cons (cs_ret (c_cmpG (og_eq (gc).hK (gc).hu1) (c_lc (T := .one 1) (gc).hK (gc).calm (gc).nd (ci_seq (gc).hK (c_var 0)) (blkOk_by (own := [("step", 1)]) (N := N_law_is_script) (sc := defScope s_law_is_script) (by decide +kernel)) (fun s1 H1 C1 cl1 fp1 => pgn 1 ((gc).blk s1 H1 _ _ fp1)) (fun s1 H1 C1 cl1 fp1 => cts_one (ct_not (ct_val (c_call D_law_is_step ((gc).blk s1 H1 _ _ fp1) hr (ca_cons (c_var 1) (ca_cons (c_int) (ca_nil))) (Nat.le_refl _))))) (fun s1 H1 C1 cl1 fp1 => c_var 1)) (c_lst (ca_nil)))) (css_nil))

abbrev s_law_some_regions : Stmt := topS 54
theorem sc_law_some_regions : FnScope N_law_some_regions ["whole", "broken", "rest"] (defScope s_law_some_regions) := ⟨rfl, rfl, rfl, by decide +kernel, rfl, by decide +kernel, by decide +kernel⟩
theorem ok_law_some_regions {k : Nat} {f : Addr} {fd : FuncData} {G G_law_orders : Fn} (M : MB mg) (C : CC z mg) (hK : K = z.K) (F : L2.Fun K "_law_some_regions" "_law_some_regions" s_law_some_regions f fd)
    (D_law_orders : Df z.P z.w K mg base z 15 "_law_orders" k 2 G_law_orders)
    (run : ∀ args m, args.length = 3 → G args m = .no ∨ runDef false 6 (sem_law_some_regions G_law_orders) args m = G args m) :
    FnOk z.P z.w K mg base (L2N.CX z.P z.w) (k + 1) f fd ["whole", "broken", "rest"] (spG z 3 G) :=
  def_ok F sc_law_some_regions hK rfl false (sem_law_some_regions G_law_orders) run fun cdv A outer s H E hr gc =>
    css_cons (cs_set 3 gc (c_lstO (ca_nil))) (css_cons (cs_for (T := .one 4) gc (ci_seq (gc).hK (c_lst (ca_cons (c_bl) (ca_cons (c_bl) (ca_nil))))) (pgn 4 (gc)) (css_cons (cs_for (T := .one 5) gc (ci_seq (gc).hK (c_call D_law_orders (gc) hr (ca_cons (c_var 1) (ca_cons (c_var 4) (ca_nil))) (Nat.le_refl _))) (pgn 5 (gc)) (css_cons (cs_if (ct_w (cw_or (ct_cmpG (og_lt) (c_var 2) (c_var 0)) (cw_or1 (ct_w (cw_and (ct_cmpG (og_lt) (c_var 5) (c_int)) (cw_and1 (ct_w (cw_or (ct_val (c_var 1)) (cw_or1 (ct_not (ct_val (c_var 4)))))))))))) (css_cons (cs_app 3 (c_tup (ca_cons (c_var 0) (ca_cons (c_var 1) (ca_cons (c_var 2) (ca_cons (c_var 4) (ca_cons (c_var 5) (ca_nil)))))))) (css_nil)) (css_nil)) (css_nil))) (css_nil))) (css_cons (cs_ret (c_var 3)) (css_nil)))

abbrev s_law_needed : Stmt := topS 55
theorem sc_law_needed : FnScope N_law_needed ["width", "tolerance"] (defScope s_law_needed) := ⟨rfl, rfl, rfl, by decide +kernel, rfl, by decide +kernel, by decide +kernel⟩
theorem ok_law_needed {k : Nat} {f : Addr} {fd : FuncData} {G  : Fn} (M : MB mg) (C : CC z mg) (hK : K = z.K) (F : L2.Fun K "_law_needed" "_law_needed" s_law_needed f fd)
    (run : ∀ args m, args.length = 2 → G args m = .no ∨ runDef false 5 (sem_law_needed ) args m = G args m) :
    FnOk z.P z.w K mg base (L2N.CX z.P z.w) (k + 1) f fd ["width", "tolerance"] (spG z 2 G) :=
  def_ok F sc_law_needed hK rfl false (sem_law_needed ) run fun cdv A outer s H E hr gc =>
    css_cons (cs_set 2 gc (c_lstO (ca_cons (c_int) (ca_nil)))) (css_cons (cs_for (T := .one 3) gc (ci_rng2 M.range (c_int) (c_binG (og_add (gc).hK) (c_var 0) (c_int))) (pgn 3 (gc)) (css_cons (cs_if (ct_cmpG (og_le) (c_var 3) (c_var 1)) (css_cons (cs_app 2 (c_int)) (css_nil)) (css_cons (cs_app 2 (c_binG (og_add (gc).hK) (c_int) (c_bif (cg_minL (gc).calm) M.min (by decide +kernel) (ca_cons (c_lc (T := .one 4) (gc).hK (gc).calm (gc).nd (ci_rng2 M.range (c_int) (c_var 3)) (blkOk_by (own := [("part", 4)]) (N := N_law_needed) (sc := defScope s_law_needed) (by decide +kernel)) (fun s1 H1 C1 cl1 fp1 => pgn 4 ((gc).blk s1 H1 _ _ fp1)) (fun s1 H1 C1 cl1 fp1 => cts_nil) (fun s1 H1 C1 cl1 fp1 => c_bif (cg_max2 ((gc).blk s1 H1 _ _ fp1).calm) M.max (by decide +kernel) (ca_cons (c_ix ((gc).blk s1 H1 _ _ fp1).hK (c_var 2) (c_var 4)) (ca_cons (c_ix ((gc).blk s1 H1 _ _ fp1).hK (c_var 2) (c_binG (og_sub) (c_var 3) (c_var 4))) (ca_nil))))) (ca_nil))))) (css_nil))) (css_nil))) (css_cons (cs_ret (c_ix (gc).hK (c_var 2) (c_var 0))) (css_nil)))

abbrev s_law_measures : Stmt := topS 56
theorem sc_law_measures : FnScope N_law_measures ["machine", "steps", "tolerance", "many"] (defScope s_law_measures) := ⟨rfl, rfl, rfl, by decide +kernel, rfl, by decide +kernel, by decide +kernel⟩
theorem ok_law_measures {k : Nat} {f : Addr} {fd : FuncData} {G G_law_is_script G_law_regions G_law_fate : Fn} (M : MB mg) (C : CC z mg) (hK : K = z.K) (F : L2.Fun K "_law_measures" "_law_measures" s_law_measures f fd)
    (D_law_is_script : Df z.P z.w K mg base z 33 "_law_is_script" k 1 G_law_is_script)
    (D_law_regions : Df z.P z.w K mg base z 14 "_law_regions" k 1 G_law_regions)
    (D_law_fate : Df z.P z.w K mg base z 26 "_law_fate" k 2 G_law_fate)
    (run : ∀ args m, args.length = 4 → G args m = .no ∨ runDef false 10 (sem_law_measures G_law_is_script G_law_regions G_law_fate) args m = G args m) :
    FnOk z.P z.w K mg base (L2N.CX z.P z.w) (k + 1) f fd ["machine", "steps", "tolerance", "many"] (spG z 4 G) :=
  def_ok F sc_law_measures hK rfl false (sem_law_measures G_law_is_script G_law_regions G_law_fate) run fun cdv A outer s H E hr gc =>
    css_cons (cs_if (ct_not (ct_val (c_call D_law_is_script (gc) hr (ca_cons (c_var 1) (ca_nil)) (Nat.le_refl _)))) (css_cons (cs_ret (c_bl)) (css_nil)) (css_nil)) (css_cons (cs_set 4 gc (c_dctO (gc))) (css_cons (cs_for (T := .one 5) gc (ci_seq (gc).hK (c_call D_law_regions (gc) hr (ca_cons (c_var 0) (ca_nil)) (Nat.le_refl _))) (pgn 5 (gc)) (css_cons (cs_set 6 gc (c_call D_law_fate (gc) hr (ca_cons (c_var 1) (ca_cons (c_var 5) (ca_nil))) (Nat.le_refl _))) (css_cons (cs_if (ct_cmpG (og_gt) (c_ix (gc).hK (c_var 6) (c_int)) (c_var 3)) (css_cons (cs_ret (c_bl)) (css_nil)) (css_nil)) (css_cons (cs_setT [7, 8] gc (c_dget2 4 (gc) (c_ix (gc).hK (c_var 6) (c_int)) (c_tup (ca_cons (c_ix (gc).hK (c_var 5) (c_int)) (ca_cons (c_ix (gc).hK (c_var 5) (c_int)) (ca_nil)))) ⟨rfl, rfl, rfl, rfl⟩) (pg_tup (gc).calm (pgs_cons (pgn 7 (gc)) (pgs_cons (pgn 8 (gc)) (pgs_nil))))) (css_cons (cs_dput 4 gc (c_tup (ca_cons (c_bif (cg_min2 (gc).calm) M.min (by decide +kernel) (ca_cons (c_var 7) (ca_cons (c_ix (gc).hK (c_var 5) (c_int)) (ca_nil)))) (ca_cons (c_bif (cg_max2 (gc).calm) M.max (by decide +kernel) (ca_cons (c_var 8) (ca_cons (c_binG (og_add (gc).hK) (c_ix (gc).hK (c_var 5) (c_int)) (c_bity (cg_int) M.int PyProof.Rows.boot_int (ca_cons (c_ix (gc).hK (c_var 5) (c_int)) (ca_nil)))) (ca_nil)))) (ca_nil)))) (c_ix (gc).hK (c_var 6) (c_int))) (css_nil)))))) (css_frzD 4 (css_cons (cs_ret (c_cmpG (og_eq (gc).hK (gc).hu1) (c_lc (T := .one 9) (gc).hK (gc).calm (gc).nd (ci_keys (gc) (c_var 4)) (blkOk_by (own := [("told", 9)]) (N := N_law_measures) (sc := defScope s_law_measures) (by decide +kernel)) (fun s1 H1 C1 cl1 fp1 => pgn 9 ((gc).blk s1 H1 _ _ fp1)) (fun s1 H1 C1 cl1 fp1 => cts_one (ct_cmpG (og_gt) (c_binG (og_sub) (c_ix ((gc).blk s1 H1 _ _ fp1).hK (c_dixF ((gc).blk s1 H1 _ _ fp1) (c_var 4) (c_var 9)) (c_int)) (c_ix ((gc).blk s1 H1 _ _ fp1).hK (c_dixF ((gc).blk s1 H1 _ _ fp1) (c_var 4) (c_var 9)) (c_int))) (c_var 2))) (fun s1 H1 C1 cl1 fp1 => c_var 9)) (c_lst (ca_nil)))) (css_nil)))))

abbrev s_law : Stmt := topS 57
theorem sc_law : FnScope N_law ["script"] (defScope s_law) := ⟨rfl, rfl, rfl, by decide +kernel, rfl, by decide +kernel, by decide +kernel⟩
theorem ok_law {k : Nat} {f : Addr} {fd : FuncData} {G G_law_drum G_law_machine G_law_spin G_law_needed G_looks_needed G_law_measures G_measuring : Fn} (M : MB mg) (C : CC z mg) (hK : K = z.K) (F : L2.Fun K "law" "law" s_law f fd)
    (D_law_drum : Df z.P z.w K mg base z 9 "_law_drum" k 2 G_law_drum)
    (D_law_machine : Df z.P z.w K mg base z 12 "_law_machine" k 2 G_law_machine)
    (D_law_spin : Df z.P z.w K mg base z 10 "_law_spin" k 2 G_law_spin)
    (D_law_needed : Df z.P z.w K mg base z 35 "_law_needed" k 2 G_law_needed)
    (D_looks_needed : Df z.P z.w K mg base z 7 "looks_needed" k 2 G_looks_needed)
    (D_law_measures : Df z.P z.w K mg base z 36 "_law_measures" k 4 G_law_measures)
    (D_measuring : Df z.P z.w K mg base z 8 "measuring" k 2 G_measuring)
    {c : Addr} (hcd : fd.code = .ref c) (TB : TabB base mg c (z.fa 53)) {gl : Addr} (TF : TryFns z.P z.w K mg base (fun j => z.fa (40 + j)) es s_law_call gl k)
    (run : ∀ args m, args.length = 1 → G args m = .no ∨ runDef false 12 (sem_law G_law_drum G_law_machine G_law_spin G_law_needed G_looks_needed G_law_measures G_measuring) args m = G args m) :
    FnOk z.P z.w K mg base (L2N.CX z.P z.w) (k + 3) f fd ["script"] (spG z 1 G) :=
  def_ok' F sc_law hK rfl false (sem_law G_law_drum G_law_machine G_law_spin G_law_needed G_looks_needed G_law_measures G_measuring) run fun cdv hcv A outer s H E hr gc => have hcode : cdv = .ref c := hcv.symm.trans hcd;
    css_cons (cs_for (T := .one 1) gc (ci_rng1 M.range (c_bif (cg_max2 (gc).calm) M.max (by decide +kernel) (ca_cons (c_int) (ca_cons (c_bif (cg_min2 (gc).calm) M.min (by decide +kernel) (ca_cons (c_int) (ca_cons (c_bif (cg_len (gc).hK) M.len PySem.boot_len (ca_cons (c_var 0) (ca_nil))) (ca_nil)))) (ca_nil))))) (pgn 1 (gc)) (css_cons (cs_set 2 gc (c_call D_law_drum (gc) hr (ca_cons (c_var 0) (ca_cons (c_var 1) (ca_nil))) (by omega))) (css_cons (cs_for (T := .one 3) gc (ci_rng1 M.range (c_int)) (pgn 3 (gc)) (css_cons (cs_setT [4, 5] gc (c_tup (ca_cons (c_call D_law_machine (gc) hr (ca_cons (c_var 2) (ca_cons (c_int) (ca_nil))) (by omega)) (ca_cons (c_binG (og_add (gc).hK) (c_int) (c_call D_law_spin (gc) hr (ca_cons (c_var 2) (ca_cons (c_int) (ca_nil))) (by omega))) (ca_nil)))) (pg_tup (gc).calm (pgs_cons (pgn 4 (gc)) (pgs_cons (pgn 5 (gc)) (pgs_nil))))) (css_cons (cs_set 6 gc (c_call D_law_needed (gc) hr (ca_cons (c_binG (og_sub) (c_ix (gc).hK (c_var 4) (c_int)) (c_ix (gc).hK (c_var 4) (c_int))) (ca_cons (c_var 5) (ca_nil))) (by omega))) (css_cons (cs_set 7 gc (c_call D_looks_needed (gc) hr (ca_cons (c_var 4) (ca_cons (c_var 5) (ca_nil))) (by omega))) (css_cons (cs_if (ct_w (cw_or (ct_cmpG (og_ne (gc).hK (gc).hu1) (c_var 7) (c_var 6)) (cw_or1 (ct_val (c_isi .bool (gc).hK M.isinstance M.bool (c_var 7)))))) (css_cons (cs_ret (c_bl)) (css_nil)) (css_nil)) (css_cons (cs_if (ct_not (ct_val (c_call D_law_measures (gc) hr (ca_cons (c_var 4) (ca_cons (c_call D_measuring (gc) hr (ca_cons (c_var 4) (ca_cons (c_var 5) (ca_nil))) (by omega)) (ca_cons (c_var 5) (ca_cons (c_var 6) (ca_nil))))) (by omega)))) (css_cons (cs_ret (c_bl)) (css_nil)) (css_nil)) (css_nil))))))) (css_cons (cs_for (T := .one 8) gc (ci_seq (gc).hK (c_tup (ca_cons (c_fn 7 D_looks_needed.mg) (ca_cons (c_fn 8 D_measuring.mg) (ca_nil))))) (pgn 8 (gc)) (css_cons (cs_for (T := .one 9) gc (ci_seq (gc).hK (c_lst (ca_cons (c_non) (ca_cons (c_int) (ca_cons (c_int) (ca_cons (c_bl) (ca_cons (c_str) (ca_nil)))))))) (pgn 9 (gc)) (css_cons (cs_if (ct_cmpG (og_ne (gc).hK (gc).hu1) (c_lawcall TF (by rfl) (gc) TB hcode hr (lamS_by (sc := defScope s_law) (by decide +kernel)) rfl (fun _ _ _ _ _ => rfl) (fun A outer s H E f c hr gl => c_callL 8 (dn_cons D_looks_needed.dn (dn_cons D_measuring.dn (dn_nil))) (gl) hr (ca_cons (c_var 4) (ca_cons (c_var 9) (ca_nil))) (Nat.le_refl _))) (c_tup (ca_cons (c_str) (ca_nil)))) (css_cons (cs_ret (c_bl)) (css_nil)) (css_nil)) (css_nil))) (css_cons (cs_if (ct_cmpG (og_ne (gc).hK (gc).hu1) (c_lawcall TF (by rfl) (gc) TB hcode hr (lamS_by (sc := defScope s_law) (by decide +kernel)) rfl (fun _ _ _ _ _ => rfl) (fun A outer s H E f c hr gl => c_callL 8 (dn_cons D_looks_needed.dn (dn_cons D_measuring.dn (dn_nil))) (gl) hr (ca_cons (c_lst (ca_cons (c_int) (ca_cons (c_int) (ca_nil)))) (ca_cons (c_non) (ca_nil))) (Nat.le_refl _))) (c_tup (ca_cons (c_str) (ca_nil)))) (css_cons (cs_ret (c_bl)) (css_nil)) (css_nil)) (css_nil)))) (css_nil))))) (css_cons (cs_for (T := .one 10) gc (ci_rng1 M.range (c_int)) (pgn 10 (gc)) (css_cons (cs_for (T := .one 11) gc (ci_rng2 M.range (c_var 10) (c_int)) (pgn 11 (gc)) (css_cons (cs_if (ct_cmpG (og_ne (gc).hK (gc).hu1) (c_call D_looks_needed (gc) hr (ca_cons (c_tup (ca_cons (c_var 10) (ca_cons (c_var 11) (ca_nil)))) (ca_cons (c_int) (ca_nil))) (by omega)) (c_call D_law_needed (gc) hr (ca_cons (c_binG (og_sub) (c_var 11) (c_var 10)) (ca_cons (c_int) (ca_nil))) (by omega))) (css_cons (cs_ret (c_bl)) (css_nil)) (css_nil)) (css_nil))) (css_nil))) (css_cons (cs_ret (c_call D_law_measures (gc) hr (ca_cons (c_tup (ca_cons (c_int) (ca_cons (c_int) (ca_nil)))) (ca_cons (c_call D_measuring (gc) hr (ca_cons (c_tup (ca_cons (c_int) (ca_cons (c_int) (ca_nil)))) (ca_cons (c_int) (ca_nil))) (by omega)) (ca_cons (c_int) (ca_cons (c_int) (ca_nil))))) (by omega))) (css_nil)))

end
noncomputable def G_is_int : Fn := runDef false 3 (sem_is_int )
noncomputable def G_is_machine : Fn := runDef false 2 (sem_is_machine G_is_int)
noncomputable def G_need_machine : Fn := runDef false 1 (sem_need_machine G_is_machine)
noncomputable def G_need_number : Fn := runDef false 3 (sem_need_number G_is_int)
noncomputable def G_looks_for : Fn := runDef false 3 (sem_looks_for )
noncomputable def G_choices : Nat → Fn
  | 0 => fun _ _ => .no
  | n + 1 => runDef false 4 (sem_choices (G_choices n))
noncomputable def G_need_tolerance : Fn := runDef false 2 (sem_need_tolerance G_need_machine G_need_number)
noncomputable def G_looks_needed : Fn := runDef false 2 (sem_looks_needed G_need_tolerance G_looks_for)
noncomputable def G_measuring : Fn := runDef false 5 (sem_measuring G_need_tolerance (G_choices 12))
noncomputable def G_law_drum : Fn := runDef true 3 (sem_law_drum )
noncomputable def G_law_spin : Fn := runDef false 4 (sem_law_spin )
noncomputable def G_law_pick : Fn := runDef false 2 (sem_law_pick G_law_spin)
noncomputable def G_law_machine : Fn := runDef false 3 (sem_law_machine G_law_spin G_law_pick)
noncomputable def G_law_sign : Fn := runDef false 1 (sem_law_sign )
noncomputable def G_law_orders : Fn := runDef false 2 (sem_law_orders )
noncomputable def G_law_some_regions : Fn := runDef false 6 (sem_law_some_regions G_law_orders)
noncomputable def G_law_regions : Fn := runDef false 6 (sem_law_regions G_law_some_regions)
noncomputable def G_law_form_sign : Fn := runDef false 11 (sem_law_form_sign G_law_sign)
noncomputable def G_law_less_form : Fn := runDef false 2 (sem_law_less_form )
noncomputable def G_law_lag : Fn := runDef false 4 (sem_law_lag G_law_form_sign G_law_less_form)
noncomputable def G_law_turned : Fn := runDef false 8 (sem_law_turned G_law_lag)
noncomputable def G_law_seen : Fn := runDef false 6 (sem_law_seen G_law_form_sign)
noncomputable def G_law_looked : Fn := runDef false 3 (sem_law_looked )
noncomputable def G_law_repeat : Fn := runDef false 6 (sem_law_repeat G_law_turned)
noncomputable def G_law_until : Fn := runDef false 9 (sem_law_until G_law_seen G_law_turned G_law_looked)
mutual
noncomputable def G_law_done : Nat → Fn
  | 0 => fun _ _ => .no
  | n + 1 => runDef false 5 (sem_law_done G_law_turned G_law_repeat G_law_until G_law_seen G_law_looked (G_law_all_done n))
noncomputable def G_law_all_done : Nat → Fn
  | 0 => fun _ _ => .no
  | n + 1 => runDef false 4 (sem_law_all_done (G_law_done n))
end
noncomputable def G_law_fate : Fn := runDef false 2 (sem_law_fate (G_law_all_done 12))
noncomputable def G_law_is_whole : Fn := runDef false 3 (sem_law_is_whole )
noncomputable def G_law_is_turn : Fn := runDef false 1 (sem_law_is_turn G_law_is_whole)
noncomputable def G_law_is_word : Fn := runDef false 1 (sem_law_is_word )
mutual
noncomputable def G_law_is_inner : Nat → Fn
  | 0 => fun _ _ => .no
  | n + 1 => runDef false 3 (sem_law_is_inner (G_law_is_step n))
noncomputable def G_law_is_long : Nat → Fn
  | 0 => fun _ _ => .no
  | n + 1 => runDef false 2 (sem_law_is_long G_law_is_word G_law_is_whole G_law_is_turn (G_law_is_inner n))
noncomputable def G_law_is_step : Nat → Fn
  | 0 => fun _ _ => .no
  | n + 1 => runDef false 3 (sem_law_is_step (G_law_is_long n) G_law_is_whole G_law_is_turn)
end
noncomputable def G_law_is_script : Fn := runDef false 2 (sem_law_is_script (G_law_is_step 12))
noncomputable def G_law_needed : Fn := runDef false 5 (sem_law_needed )
noncomputable def G_law_measures : Fn := runDef false 10 (sem_law_measures G_law_is_script G_law_regions G_law_fate)
noncomputable def G_law : Fn := runDef false 12 (sem_law G_law_drum G_law_machine G_law_spin G_law_needed G_looks_needed G_law_measures G_measuring)

structure FS (K : PySem.W.Frag) (mg : Str → Option Value) (z : Z) : Prop where
  hK : K = z.K
  M : MB mg
  C : CC z mg
  f_is_int : FF K mg "is_int" s_is_int ["value", "low", "high"] (z.fa 0)
  f_is_machine : FF K mg "is_machine" s_is_machine ["value"] (z.fa 1)
  f_need_machine : FF K mg "need_machine" s_need_machine ["machine"] (z.fa 2)
  f_need_number : FF K mg "need_number" s_need_number ["number", "low", "high"] (z.fa 3)
  f_looks_for : FF K mg "looks_for" s_looks_for ["width", "tolerance"] (z.fa 4)
  f_choices : FF K mg "choices" s_choices ["low", "high", "tolerance"] (z.fa 5)
  f_need_tolerance : FF K mg "need_tolerance" s_need_tolerance ["machine", "tolerance"] (z.fa 6)
  f_looks_needed : FF K mg "looks_needed" s_looks_needed ["machine", "tolerance"] (z.fa 7)
  f_measuring : FF K mg "measuring" s_measuring ["machine", "tolerance"] (z.fa 8)
  f_law_drum : FF K mg "_law_drum" s_law_drum ["script", "k"] (z.fa 9)
  f_law_spin : FF K mg "_law_spin" s_law_spin ["drum", "many"] (z.fa 10)
  f_law_pick : FF K mg "_law_pick" s_law_pick ["drum", "things"] (z.fa 11)
  f_law_machine : FF K mg "_law_machine" s_law_machine ["drum", "most"] (z.fa 12)
  f_law_sign : FF K mg "_law_sign" s_law_sign ["number"] (z.fa 13)
  f_law_regions : FF K mg "_law_regions" s_law_regions ["machine"] (z.fa 14)
  f_law_orders : FF K mg "_law_orders" s_law_orders ["broken", "split"] (z.fa 15)
  f_law_form_sign : FF K mg "_law_form_sign" s_law_form_sign ["form", "region"] (z.fa 16)
  f_law_less_form : FF K mg "_law_less_form" s_law_less_form ["one", "other"] (z.fa 17)
  f_law_lag : FF K mg "_law_lag" s_law_lag ["lag", "number", "region"] (z.fa 18)
  f_law_turned : FF K mg "_law_turned" s_law_turned ["state", "number", "region"] (z.fa 19)
  f_law_seen : FF K mg "_law_seen" s_law_seen ["state", "mark", "region"] (z.fa 20)
  f_law_looked : FF K mg "_law_looked" s_law_looked ["state", "more", "answer"] (z.fa 21)
  f_law_repeat : FF K mg "_law_repeat" s_law_repeat ["state", "many", "turns_so", "region"] (z.fa 22)
  f_law_until : FF K mg "_law_until" s_law_until ["state", "step", "region"] (z.fa 23)
  f_law_done : FF K mg "_law_done" s_law_done ["state", "step", "region"] (z.fa 24)
  f_law_all_done : FF K mg "_law_all_done" s_law_all_done ["state", "steps", "region"] (z.fa 25)
  f_law_fate : FF K mg "_law_fate" s_law_fate ["script", "region"] (z.fa 26)
  f_law_is_whole : FF K mg "_law_is_whole" s_law_is_whole ["thing", "low", "high"] (z.fa 27)
  f_law_is_turn : FF K mg "_law_is_turn" s_law_is_turn ["thing"] (z.fa 28)
  f_law_is_word : FF K mg "_law_is_word" s_law_is_word ["thing"] (z.fa 29)
  f_law_is_inner : FF K mg "_law_is_inner" s_law_is_inner ["thing", "deep"] (z.fa 30)
  f_law_is_long : FF K mg "_law_is_long" s_law_is_long ["thing", "deep"] (z.fa 31)
  f_law_is_step : FF K mg "_law_is_step" s_law_is_step ["thing", "deep"] (z.fa 32)
  f_law_is_script : FF K mg "_law_is_script" s_law_is_script ["thing"] (z.fa 33)
  f_law_some_regions : FF K mg "_law_some_regions" s_law_some_regions ["whole", "broken", "rest"] (z.fa 34)
  f_law_needed : FF K mg "_law_needed" s_law_needed ["width", "tolerance"] (z.fa 35)
  f_law_measures : FF K mg "_law_measures" s_law_measures ["machine", "steps", "tolerance", "many"] (z.fa 36)
  f_law : FF K mg "law" s_law ["script"] (z.fa 37)
  f_law_kinds : FF K mg "_law_kinds" s_law_kinds ["e"] (z.fa 38)
  f_law_call : FF K mg "_law_call" s_law_call ["call_so"] (z.fa 39)
  errs : ∀ c ∈ es, ErrT K (fun j => z.fa (40 + j)) c
section
variable {P : Program} {w : World} {K : PySem.W.Frag} {mg : Str → Option Value} {base : Heap} {z : Z}
theorem TF_of (S : FS K mg z) (k : Nat) : TryFns z.P z.w K mg base (fun j => z.fa (40 + j)) es s_law_call (z.fa 39) (k + 1) := by
  obtain ⟨⟨fd, F, b⟩, m⟩ := S.f_law_kinds
  exact ⟨S.f_law_call, sc_law_call, ts_law_call, ⟨_, fd, ok_law_kinds S.M S.C S.hK F, b, m, F.kp⟩, S.C.e10, S.C.e12, S.errs⟩
theorem D_is_int (S : FS K mg z) : Df z.P z.w K mg base z 0 "is_int" 1 3 G_is_int :=
  (S.f_is_int.df fun fd F => ok_is_int (k := 0) S.M S.C S.hK F  fun _ _ _ => .inr rfl)
theorem D_is_machine (S : FS K mg z) : Df z.P z.w K mg base z 1 "is_machine" 2 1 G_is_machine :=
  (S.f_is_machine.df fun fd F => ok_is_machine (k := 1) S.M S.C S.hK F ((D_is_int S).mono (by omega)) fun _ _ _ => .inr rfl)
theorem D_need_machine (S : FS K mg z) : Df z.P z.w K mg base z 2 "need_machine" 3 1 G_need_machine :=
  (S.f_need_machine.df fun fd F => ok_need_machine (k := 2) S.M S.C S.hK F ((D_is_machine S).mono (by omega)) fun _ _ _ => .inr rfl)
theorem D_need_number (S : FS K mg z) : Df z.P z.w K mg base z 3 "need_number" 2 3 G_need_number :=
  (S.f_need_number.df fun fd F => ok_need_number (k := 1) S.M S.C S.hK F ((D_is_int S).mono (by omega)) fun _ _ _ => .inr rfl)
theorem D_looks_for (S : FS K mg z) : Df z.P z.w K mg base z 4 "looks_for" 1 2 G_looks_for :=
  (S.f_looks_for.df fun fd F => ok_looks_for (k := 0) S.M S.C S.hK F  fun _ _ _ => .inr rfl)
theorem DD_choices (S : FS K mg z) (n : Nat) : Df z.P z.w K mg base z 5 "choices" (0 + n) 3 (G_choices n) := by
  induction n with
  | zero => exact FF.none S.f_choices
  | succ n ih => exact (S.f_choices.df fun fd F => ok_choices (k := 0 + n) S.M S.C S.hK F ih fun _ _ _ => .inr rfl)
theorem D_choices (S : FS K mg z) : Df z.P z.w K mg base z 5 "choices" 12 3 (G_choices 12) := (DD_choices S 12)
theorem D_need_tolerance (S : FS K mg z) : Df z.P z.w K mg base z 6 "need_tolerance" 4 2 G_need_tolerance :=
  (S.f_need_tolerance.df fun fd F => ok_need_tolerance (k := 3) S.M S.C S.hK F ((D_need_machine S).mono (by omega)) ((D_need_number S).mono (by omega)) fun _ _ _ => .inr rfl)
theorem D_looks_needed (S : FS K mg z) : Df z.P z.w K mg base z 7 "looks_needed" 5 2 G_looks_needed :=
  (S.f_looks_needed.df fun fd F => ok_looks_needed (k := 4) S.M S.C S.hK F ((D_need_tolerance S).mono (by omega)) ((D_looks_for S).mono (by omega)) fun _ _ _ => .inr rfl)
theorem D_measuring (S : FS K mg z) : Df z.P z.w K mg base z 8 "measuring" 13 2 G_measuring :=
  (S.f_measuring.df fun fd F => ok_measuring (k := 12) S.M S.C S.hK F ((D_need_tolerance S).mono (by omega)) ((D_choices S).mono (by omega)) fun _ _ _ => .inr rfl)
theorem D_law_drum (S : FS K mg z) : Df z.P z.w K mg base z 9 "_law_drum" 1 2 G_law_drum :=
  (S.f_law_drum.df fun fd F => ok_law_drum (k := 0) S.M S.C S.hK F  fun _ _ _ => .inr rfl)
theorem D_law_spin (S : FS K mg z) : Df z.P z.w K mg base z 10 "_law_spin" 1 2 G_law_spin :=
  (S.f_law_spin.df fun fd F => ok_law_spin (k := 0) S.M S.C S.hK F  fun _ _ _ => .inr rfl)
theorem D_law_pick (S : FS K mg z) : Df z.P z.w K mg base z 11 "_law_pick" 2 2 G_law_pick :=
  (S.f_law_pick.df fun fd F => ok_law_pick (k := 1) S.M S.C S.hK F ((D_law_spin S).mono (by omega)) fun _ _ _ => .inr rfl)
theorem D_law_machine (S : FS K mg z) : Df z.P z.w K mg base z 12 "_law_machine" 3 2 G_law_machine :=
  (S.f_law_machine.df fun fd F => ok_law_machine (k := 2) S.M S.C S.hK F ((D_law_spin S).mono (by omega)) ((D_law_pick S).mono (by omega)) fun _ _ _ => .inr rfl)
theorem D_law_sign (S : FS K mg z) : Df z.P z.w K mg base z 13 "_law_sign" 1 1 G_law_sign :=
  (S.f_law_sign.df fun fd F => ok_law_sign (k := 0) S.M S.C S.hK F  fun _ _ _ => .inr rfl)
theorem D_law_orders (S : FS K mg z) : Df z.P z.w K mg base z 15 "_law_orders" 1 2 G_law_orders :=
  (S.f_law_orders.df fun fd F => ok_law_orders (k := 0) S.M S.C S.hK F  fun _ _ _ => .inr rfl)
theorem D_law_some_regions (S : FS K mg z) : Df z.P z.w K mg base z 34 "_law_some_regions" 2 3 G_law_some_regions :=
  (S.f_law_some_regions.df fun fd F => ok_law_some_regions (k := 1) S.M S.C S.hK F ((D_law_orders S).mono (by omega)) fun _ _ _ => .inr rfl)
theorem D_law_regions (S : FS K mg z) : Df z.P z.w K mg base z 14 "_law_regions" 3 1 G_law_regions :=
  (S.f_law_regions.df fun fd F => ok_law_regions (k := 2) S.M S.C S.hK F ((D_law_some_regions S).mono (by omega)) fun _ _ _ => .inr rfl)
theorem D_law_form_sign (S : FS K mg z) : Df z.P z.w K mg base z 16 "_law_form_sign" 2 2 G_law_form_sign :=
  (S.f_law_form_sign.df fun fd F => ok_law_form_sign (k := 1) S.M S.C S.hK F ((D_law_sign S).mono (by omega)) fun _ _ _ => .inr rfl)
theorem D_law_less_form (S : FS K mg z) : Df z.P z.w K mg base z 17 "_law_less_form" 1 2 G_law_less_form :=
  (S.f_law_less_form.df fun fd F => ok_law_less_form (k := 0) S.M S.C S.hK F  fun _ _ _ => .inr rfl)
theorem D_law_lag (S : FS K mg z) : Df z.P z.w K mg base z 18 "_law_lag" 3 3 G_law_lag :=
  (S.f_law_lag.df fun fd F => ok_law_lag (k := 2) S.M S.C S.hK F ((D_law_form_sign S).mono (by omega)) ((D_law_less_form S).mono (by omega)) fun _ _ _ => .inr rfl)
theorem D_law_turned (S : FS K mg z) : Df z.P z.w K mg base z 19 "_law_turned" 4 3 G_law_turned :=
  (S.f_law_turned.df fun fd F => ok_law_turned (k := 3) S.M S.C S.hK F ((D_law_lag S).mono (by omega)) fun _ _ _ => .inr rfl)
theorem D_law_seen (S : FS K mg z) : Df z.P z.w K mg base z 20 "_law_seen" 3 3 G_law_seen :=
  (S.f_law_seen.df fun fd F => ok_law_seen (k := 2) S.M S.C S.hK F ((D_law_form_sign S).mono (by omega)) fun _ _ _ => .inr rfl)
theorem D_law_looked (S : FS K mg z) : Df z.P z.w K mg base z 21 "_law_looked" 1 3 G_law_looked :=
  (S.f_law_looked.df fun fd F => ok_law_looked (k := 0) S.M S.C S.hK F  fun _ _ _ => .inr rfl)
theorem D_law_repeat (S : FS K mg z) : Df z.P z.w K mg base z 22 "_law_repeat" 5 4 G_law_repeat :=
  (S.f_law_repeat.df fun fd F => ok_law_repeat (k := 4) S.M S.C S.hK F ((D_law_turned S).mono (by omega)) fun _ _ _ => .inr rfl)
theorem D_law_until (S : FS K mg z) : Df z.P z.w K mg base z 23 "_law_until" 5 3 G_law_until :=
  (S.f_law_until.df fun fd F => ok_law_until (k := 4) S.M S.C S.hK F ((D_law_seen S).mono (by omega)) ((D_law_turned S).mono (by omega)) ((D_law_looked S).mono (by omega)) fun _ _ _ => .inr rfl)
theorem DD_law_done (S : FS K mg z) (n : Nat) : Df z.P z.w K mg base z 24 "_law_done" (5 + n) 3 (G_law_done n) ∧ Df z.P z.w K mg base z 25 "_law_all_done" (5 + n) 3 (G_law_all_done n) := by
  induction n with
  | zero => exact ⟨FF.none S.f_law_done, FF.none S.f_law_all_done⟩
  | succ n ih => exact ⟨(S.f_law_done.df fun fd F => ok_law_done (k := 5 + n) S.M S.C S.hK F ((D_law_turned S).mono (by omega)) ((D_law_repeat S).mono (by omega)) ((D_law_until S).mono (by omega)) ((D_law_seen S).mono (by omega)) ((D_law_looked S).mono (by omega)) ih.2 fun _ _ _ => .inr rfl), (S.f_law_all_done.df fun fd F => ok_law_all_done (k := 5 + n) S.M S.C S.hK F ih.1 fun _ _ _ => .inr rfl)⟩
theorem D_law_done (S : FS K mg z) : Df z.P z.w K mg base z 24 "_law_done" 17 3 (G_law_done 12) := (DD_law_done S 12).1
theorem D_law_all_done (S : FS K mg z) : Df z.P z.w K mg base z 25 "_law_all_done" 17 3 (G_law_all_done 12) := (DD_law_done S 12).2
theorem D_law_fate (S : FS K mg z) : Df z.P z.w K mg base z 26 "_law_fate" 18 2 G_law_fate :=
  (S.f_law_fate.df fun fd F => ok_law_fate (k := 17) S.M S.C S.hK F ((D_law_all_done S).mono (by omega)) fun _ _ _ => .inr rfl)
theorem D_law_is_whole (S : FS K mg z) : Df z.P z.w K mg base z 27 "_law_is_whole" 1 3 G_law_is_whole :=
  (S.f_law_is_whole.df fun fd F => ok_law_is_whole (k := 0) S.M S.C S.hK F  fun _ _ _ => .inr rfl)
theorem D_law_is_turn (S : FS K mg z) : Df z.P z.w K mg base z 28 "_law_is_turn" 2 1 G_law_is_turn :=
  (S.f_law_is_turn.df fun fd F => ok_law_is_turn (k := 1) S.M S.C S.hK F ((D_law_is_whole S).mono (by omega)) fun _ _ _ => .inr rfl)
theorem D_law_is_word (S : FS K mg z) : Df z.P z.w K mg base z 29 "_law_is_word" 1 1 G_law_is_word :=
  (S.f_law_is_word.df fun fd F => ok_law_is_word (k := 0) S.M S.C S.hK F  fun _ _ _ => .inr rfl)
theorem DD_law_is_inner (S : FS K mg z) (n : Nat) : Df z.P z.w K mg base z 30 "_law_is_inner" (2 + n) 2 (G_law_is_inner n) ∧ Df z.P z.w K mg base z 31 "_law_is_long" (2 + n) 2 (G_law_is_long n) ∧ Df z.P z.w K mg base z 32 "_law_is_step" (2 + n) 2 (G_law_is_step n) := by
  induction n with
  | zero => exact ⟨FF.none S.f_law_is_inner, FF.none S.f_law_is_long, FF.none S.f_law_is_step⟩
  | succ n ih => exact ⟨(S.f_law_is_inner.df fun fd F => ok_law_is_inner (k := 2 + n) S.M S.C S.hK F ih.2.2 fun _ _ _ => .inr rfl), (S.f_law_is_long.df fun fd F => ok_law_is_long (k := 2 + n) S.M S.C S.hK F ((D_law_is_word S).mono (by omega)) ((D_law_is_whole S).mono (by omega)) ((D_law_is_turn S).mono (by omega)) ih.1 fun _ _ _ => .inr rfl), (S.f_law_is_step.df fun fd F => ok_law_is_step (k := 2 + n) S.M S.C S.hK F ih.2.1 ((D_law_is_whole S).mono (by omega)) ((D_law_is_turn S).mono (by omega)) fun _ _ _ => .inr rfl)⟩
theorem D_law_is_inner (S : FS K mg z) : Df z.P z.w K mg base z 30 "_law_is_inner" 14 2 (G_law_is_inner 12) := (DD_law_is_inner S 12).1
theorem D_law_is_long (S : FS K mg z) : Df z.P z.w K mg base z 31 "_law_is_long" 14 2 (G_law_is_long 12) := (DD_law_is_inner S 12).2.1
theorem D_law_is_step (S : FS K mg z) : Df z.P z.w K mg base z 32 "_law_is_step" 14 2 (G_law_is_step 12) := (DD_law_is_inner S 12).2.2
theorem D_law_is_script (S : FS K mg z) : Df z.P z.w K mg base z 33 "_law_is_script" 15 1 G_law_is_script :=
  (S.f_law_is_script.df fun fd F => ok_law_is_script (k := 14) S.M S.C S.hK F ((D_law_is_step S).mono (by omega)) fun _ _ _ => .inr rfl)
theorem D_law_needed (S : FS K mg z) : Df z.P z.w K mg base z 35 "_law_needed" 1 2 G_law_needed :=
  (S.f_law_needed.df fun fd F => ok_law_needed (k := 0) S.M S.C S.hK F  fun _ _ _ => .inr rfl)
theorem D_law_measures (S : FS K mg z) : Df z.P z.w K mg base z 36 "_law_measures" 19 4 G_law_measures :=
  (S.f_law_measures.df fun fd F => ok_law_measures (k := 18) S.M S.C S.hK F ((D_law_is_script S).mono (by omega)) ((D_law_regions S).mono (by omega)) ((D_law_fate S).mono (by omega)) fun _ _ _ => .inr rfl)
end

end K18
namespace K18
open PySem PySem.Spec PyProof.Rows L2 DL
/-! PG: what the law draws: numbers. -/
theorem spin_ok {l : Nat} {m0 m : Mem} {n : Int} (h : Dr l m0 m) (n1 : 1 ≤ n) (n2 : n ≤ 2 ^ 50) : (G_law_spin [.p l, .d (.int n)] m).wp (Pd l m0 fun d => ∃ k : Int, d = .int k ∧ 0 ≤ k ∧ k < n) := by
  refine wp_base h ?_
  obtain ⟨g, s, hm, g0, g1, s0, s1⟩ := h.ok
  have hr := Dr.refl h.ok
  refine wp_body ?_
  have hl := (List.getElem?_eq_some_iff.mp hm).1
  have ln : n.natAbs.log2 < 9000 := Nat.lt_of_lt_of_le (lgi_of 51 (by omega) (by omega)) (by omega)
  simp [sem_law_spin, hm]
  by_cases hg : 0 < g
  · simp [hg, hm, hl]
    refine ⟨by omega, ⟨by omega, ln⟩, n1 |> fun _ => ⟨Int.emod_nonneg _ (by omega), Int.emod_lt_of_pos _ (by omega)⟩, ?_⟩
    refine hr.set (Int.ediv_nonneg g0 (by omega)) ?_ s0 s1
    exact Int.lt_of_le_of_lt (Int.ediv_le_self _ g0) g1
  · simp [hg]
    refine wh_inv (fun k ρ m' => ∃ f wd : Int, ρ = [some (.p l), some (.d (.int n)), some (.d (.int f)), some (.d (.int wd))] ∧ 0 ≤ f ∧ f < wd ∧ 1 ≤ wd ∧ wd ≤ 2 ^ 63 ∧ Dr l m m' ∧ (n - wd).toNat + (if wd = 1 then 1 else 0) ≤ k) (n.toNat + 1) ⟨0, 1, rfl, by omega, by omega, by omega, by omega, hr, by simp <;> omega⟩ ?_ (by simp [fuI])
    rintro k ρ m' ⟨f, wd, rfl, f0, f1, w1, w2, hd, hk⟩
    obtain ⟨g', s', hm', g0', g1', s0', s1'⟩ := hd.ok
    have hl' := (List.getElem?_eq_some_iff.mp hm').1
    have lf : f.natAbs.log2 < 65 := lgi_of 64 (by omega) (by omega)
    have lw : wd.natAbs.log2 < 65 := lgi_of 64 (by omega) (by omega)
    have ls : s'.natAbs.log2 < 42 := lgi_of 41 (by omega) (by omega)
    have hk2 : wd < n ∨ wd = 1 → ∃ k', k = k' + 1 := fun _ => by
      cases k with
      | zero => exfalso; revert hk; split <;> omega
      | succ k => exact ⟨k, rfl⟩
    have key : ∀ n' : Nat, k = n' + 1 → wd < n ∨ wd = 1 → (((n - wd * 8192).toNat + (if wd * 8192 = 1 then 1 else 0)) ≤ n') := fun n' e q => by
      subst e; revert hk; split <;> split <;> omega
    have hset : ∀ xs, (m'.set l (.lst xs))[l]? = some (.lst xs) := fun xs => List.getElem?_set_self hl'
    have l1 : Nat.log2 29989 = 14 := by decide
    have l2 : Nat.log2 8192 = 13 := by decide
    have l3 : Nat.log2 65567 = 16 := by decide
    have fin : wd < n ∨ wd = 1 → ∃ k', k = k' + 1 := hk2
    by_cases hc : wd < n ∨ wd = 1
    · obtain ⟨n', rfl⟩ := hk2 hc
      have h8 : 0 ≤ s' / 65567 % 8192 ∧ s' / 65567 % 8192 < 8192 := ⟨Int.emod_nonneg _ (by omega), Int.emod_lt_of_pos _ (by omega)⟩
      have h9 : 0 ≤ (s' * 29989 + 59) % 2147483299 ∧ (s' * 29989 + 59) % 2147483299 < 2147483299 := ⟨Int.emod_nonneg _ (by omega), Int.emod_lt_of_pos _ (by omega)⟩
      have hd2 := hd.set g0' g1' h9.1 (Int.lt_trans h9.2 (by omega))
      have h10 : 0 ≤ (s' * 29989 + 59) % 2147483299 / 65567 % 8192 ∧ (s' * 29989 + 59) % 2147483299 / 65567 % 8192 < 8192 := ⟨Int.emod_nonneg _ (by omega), Int.emod_lt_of_pos _ (by omega)⟩
      have kk := key n' rfl hc
      by_cases hw : wd < n
      all_goals try (have hw1 : wd = 1 := hc.resolve_left hw)
      all_goals simp [hm', hset, hw, l1, l2, l3]
      · exact ⟨by omega, by omega, by omega, _, _, ⟨rfl, rfl⟩, by omega, by omega, by omega, by omega, hd2, kk⟩
      · subst hw1
        exact ⟨by omega, by omega, by decide, _, _, ⟨rfl, rfl⟩, by omega, by omega, by omega, by omega, hd2, by simpa using kk⟩
    · have hw : ¬ wd < n := fun q => hc (.inl q)
      have hw1 : ¬ wd = 1 := fun q => hc (.inr q)
      simp [hw, hw1]
      exact ⟨by omega, ⟨Int.emod_nonneg _ (by omega), Int.emod_lt_of_pos _ (by omega)⟩, hd⟩
theorem pick_ok {l : Nat} {m0 m : Mem} {xs : List D} (h : Dr l m0 m) (n1 : 1 ≤ xs.length) (n2 : xs.length ≤ 2 ^ 40) : (G_law_pick [.p l, .d (.lst xs)] m).wp (Pd l m0 (· ∈ xs)) := by
  refine wp_base h ?_
  refine wp_body ?_
  simp [sem_law_pick]
  refine wp_call (spin_ok (Dr.refl h.ok) (by omega) (by omega)) ?_
  rintro _ m' ⟨k, rfl, k0, k1⟩ hm
  simp [atI_pos k0]
  rw [List.getElem?_eq_getElem (by omega)]
  simp [hm]
def drumTail : Sem := sLstO (aCons (sIte (sTb (sBin geD (sVar 2) (sBin powD (sC (.int 10)) (sC (.int 18))))) (sVar 2) (sC (.int 0))) (aCons (sBin addD (sBin modD (sBif intD (aCons (sBin addD (sBin addD (sBin mulD (sBin modD (sVar 2) (sC (.int 2147483299))) (sC (.int 7))) (sBin mulD (sC (.int 47)) (sVar 1))) (sC (.int 11))) (aNil))) (sC (.int 2147483299))) (sC (.int 1))) (aNil)))
theorem drumTail_ok {s : Vl} {k c : Int} {m : Mem} (k0 : 0 ≤ k) (k1 : k ≤ 1000) (c0 : 0 ≤ c) (c1 : c < 2 ^ 1000) : (drumTail [some s, some (.d (.int k)), some (.d (.int c))] m).wp (kRet (kSeq sNil (kDef true m.length fun v m' => v = .p m.length ∧ ∃ g s : Int, m' = m ++ [.lst [.int g, .int s]] ∧ 0 ≤ g ∧ g < 2 ^ 1000 ∧ 0 ≤ s ∧ s < 2 ^ 40))) := by
  have hm : 0 ≤ c % 2147483299 ∧ c % 2147483299 < 2147483299 := ⟨Int.emod_nonneg _ (by omega), Int.emod_lt_of_pos _ (by omega)⟩
  have l1 : (c % 2147483299).natAbs.log2 < 65 := lgi_of 64 (by omega) (by omega)
  have l2 : k.natAbs.log2 < 65 := lgi_of 64 (by omega) (by omega)
  have l3 : Nat.log2 7 = 2 := by decide
  have l4 : Nat.log2 47 = 5 := by decide
  have hm2 : 0 ≤ (c % 2147483299 * 7 + 47 * k + 11) % 2147483299 ∧ (c % 2147483299 * 7 + 47 * k + 11) % 2147483299 < 2147483299 := ⟨Int.emod_nonneg _ (by omega), Int.emod_lt_of_pos _ (by omega)⟩
  simp [drumTail]
  split
  · rw [k_DefP]
    exact ⟨by omega, by omega, rfl, _, _, rfl, c0, c1, by omega, by omega⟩
  · rw [k_DefP]
    exact ⟨by omega, by omega, rfl, _, _, rfl, by omega, by omega, by omega, by omega⟩
theorem drum_ok {ns : List Int} {k : Int} {m : Mem} (k0 : 0 ≤ k) (k1 : k ≤ 1000) : (G_law_drum [.d (.scr ns), .d (.int k)] m).wp fun v m' => v = .p m.length ∧ ∃ g s : Int, m' = m ++ [.lst [.int g, .int s]] ∧ 0 ≤ g ∧ g < 2 ^ 1000 ∧ 0 ≤ s ∧ s < 2 ^ 40 := by
  unfold G_law_drum
  rw [wp_run]
  have l2 : k.natAbs.log2 < 65 := lgi_of 64 (by omega) (by omega)
  have l3 : Nat.log2 66643 = 16 := by decide
  have l5 : Nat.log2 1000000000000000000000000000000000000000000000000000000000000 = 199 := by decide
  have tl : ∀ c : Int, 0 ≤ c → c < 2 ^ 1000 → _ := fun c => drumTail_ok (s := .d (.scr ns)) (m := m) k0 k1 (c := c)
  simp [sem_law_drum, -w_LstO]
  refine ⟨by omega, ?_⟩
  split
  · rw [atI_pos k0, List.getElem?_eq_getElem (by omega)]
    simp [-w_LstO]
    refine ⟨by decide, by decide, by decide, tl _ (Int.emod_nonneg _ (by decide)) (Int.lt_trans (Int.emod_lt_of_pos _ (by decide)) (by decide))⟩
  split
  · rw [List.getElem?_eq_getElem (by omega)]
    simp [-w_LstO]
    refine tl _ ?_ ?_
    · have := Int.emod_nonneg (if ns[0] < 0 then -ns[0] else ns[0]) (b := 1000249) (by omega)
      omega
    · have := Int.emod_lt_of_pos (if ns[0] < 0 then -ns[0] else ns[0]) (b := 1000249) (by omega)
      omega
  · exact tl _ (by omega) (by omega)
end K18
namespace K18
open PySem PySem.Spec PyProof.Rows L2 DL
/-! PM: a machine that is drawn. -/
section
variable {l : Nat} {m m0 : Mem} {a b : Int}
theorem machine_ok (h : Dr l m0 m) : (G_law_machine [.p l, .d (.int 6)] m).wp (Pd l m0 fun d => ∃ lo hi : Int, d = .tup [.int lo, .int hi] ∧ 0 ≤ lo ∧ lo ≤ hi ∧ hi ≤ 6) := by
  refine wp_base h ?_
  refine wp_body ?_
  simp [sem_law_machine]
  refine wp_call (spin_ok (Dr.refl h.ok) (by omega) (by omega)) ?_
  rintro _ m1 ⟨hi, rfl, h0, h1⟩ d1
  simp
  refine wp_call (spin_ok d1 (by omega) (by omega)) ?_
  rintro _ m2 ⟨k, rfl, k0, k1⟩ d2
  simp
  refine wp_call (pick_ok d2 (by simp) (by simp)) ?_
  rintro x m3 hx d3
  simp at hx
  have : ∃ lo : Int, x = .int lo ∧ 0 ≤ lo ∧ lo ≤ hi := by
    rcases hx with rfl | rfl | rfl | rfl <;> exact ⟨_, rfl, by omega, by omega⟩
  obtain ⟨lo, rfl, l0, l1⟩ := this
  simp
  exact ⟨⟨_, _, ⟨rfl, rfl⟩, by omega, by omega, by omega⟩, d3⟩
end
end K18
namespace K18
open PySem PySem.Spec PyProof.Rows L2 DL
/-! PA0: machines (where no fractions are reached). -/
section
variable {nn : Nat} {d d1 d2 d3 : D} {m : Mem} {i j a b : Int} {x : Str} {xs ys : List D}
theorem is_int_e (h : gd nn d = true) : G_is_int [.d d, .d (.int i), .d (.int j)] m = .ok (.d (.bl (wh i j d))) m := by
  refine eq_of_wp ?_
  unfold G_is_int
  rw [wp_run]
  cases d <;> simp [sem_is_int, isi_i h, isi_b h, wh]
  split <;> simp_all
  omega
theorem gd_i (hn : nn ≤ 8) (h : gd nn (.int i) = true) : -(2 ^ 200) < i ∧ i < 2 ^ 200 := by
  simp [gd, leafB] at h
  omega
theorem is_machine_e (hn : nn ≤ 8) (h : gd nn d = true) : G_is_machine [.d d] m = .ok (.d (.bl (machB d))) m := by
  refine eq_of_wp ?_
  unfold G_is_machine
  rw [wp_run]
  cases d with
  | tup xs =>
    have hg := (gd_t h).2
    match xs, h, hg with
    | [], h, hg => simp [sem_is_machine, machB]
    | [a], h, hg => simp [sem_is_machine, machB]
    | a :: b :: c :: r, h, hg =>
      simp [sem_is_machine, machB]
      intro hx
      exfalso
      omega
    | [a, b], h, hg =>
      have h1 := hg a (by simp)
      have h2 := hg b (by simp)
      simp [sem_is_machine]
      refine lc_all (f := wh 0 6) (by simp) ?_ ?_
      · intro x hx
        exact ⟨_, rfl, call1_ok rfl rfl (is_int_e (hg x hx))⟩
      · simp
        cases a with
        | int a =>
          cases b with
          | int b =>
            simp [machB, wh]
            split <;> simp_all
            omega
          | _ => simp [machB, wh]
        | _ => cases b <;> simp [machB, wh]
  | _ => simp [sem_is_machine, isi_t h, machB]
end
end K18
namespace K18
open PySem PySem.Spec PyProof.Rows L2 DL
/-! PL: the law's regions. -/
section
variable {m : Mem} {a b : Int}
theorem orders_e (bk sp : Bool) : G_law_orders [.d (.bl bk), .d (.bl sp)] m = .ok (.d (.lst ((if bk && sp then [-1, 0, 1] else [Rg.i01 sp - Rg.i01 bk] : List Int).map D.int))) m := by
  refine eq_of_wp ?_
  unfold G_law_orders
  rw [wp_run]
  cases bk <;> cases sp <;> simp [sem_law_orders, Rg.i01]
theorem some_len (w : Int) (bk : Bool) (r : Int) : (Rg.some_ w bk r).length ≤ 6 := by
  unfold Rg.some_
  have h : ∀ s : Bool, (((if bk && s then [-1, 0, 1] else [Rg.i01 s - Rg.i01 bk] : List Int).filter fun o => decide (r < w) || (decide (o < 1) && (bk || !s))).map fun o => (⟨w, bk, r, s, o⟩ : Rg)).length ≤ 3 := fun s => by
    rw [List.length_map]
    refine Nat.le_trans (List.length_filter_le _ _) ?_
    split <;> simp
  have h0 := h false
  have h1 := h true
  simp only [List.flatMap_cons, List.flatMap_nil, List.length_append, List.append_nil]
  omega
theorem some_e (w : Int) (bk : Bool) (r : Int) : G_law_some_regions [.d (.int w), .d (.bl bk), .d (.int r)] m = .ok (.d (.lst ((Rg.some_ w bk r).map Rg.d))) m := by
  refine eq_of_wp ?_
  unfold G_law_some_regions
  rw [wp_run]
  simp [sem_law_some_regions]
  have e : ([.bl false, .bl true] : List D) = [false, true].map D.bl := rfl
  rw [e]
  refine for_foldM (enc := D.bl) (f := fun s => ((if bk && s then [-1, 0, 1] else [Rg.i01 s - Rg.i01 bk] : List Int).filter fun o => decide (r < w) || (decide (o < 1) && (bk || !s))).map fun o => (⟨w, bk, r, s, o⟩ : Rg))
    (P := fun acc ρ m' => (∃ x4 x5, ρ = [some (.d (.int w)), some (.d (.bl bk)), some (.d (.int r)), some (.p m.length), x4, x5]) ∧ m' = m ++ [.lst (acc.map Rg.d)]) (acc := []) ⟨⟨none, none, rfl⟩, rfl⟩ ?_ ?_
  · rintro s _ acc ρ m' ⟨⟨x4, x5, rfl⟩, rfl⟩ hl
    refine ⟨_, rfl, ?_⟩
    have oe := fun m => orders_e (m := m) bk s
    simp [oe]
    refine for_foldM (enc := D.int) (f := fun o => if (decide (r < w) || (decide (o < 1) && (bk || !s))) = true then [(⟨w, bk, r, s, o⟩ : Rg)] else [])
      (P := fun acc ρ m' => (∃ x5, ρ = [some (.d (.int w)), some (.d (.bl bk)), some (.d (.int r)), some (.p m.length), some (.d (.bl s)), x5]) ∧ m' = m ++ [.lst (acc.map Rg.d)]) (acc := acc) ⟨⟨x5, rfl⟩, rfl⟩ ?_ ?_
    · rintro o ho acc' ρ m' ⟨⟨x5, rfl⟩, rfl⟩ hl2
      refine ⟨_, rfl, ?_⟩
      have hl3 : acc'.length < 16777216 := by
        have : (List.flatMap (fun o => if (decide (r < w) || (decide (o < 1) && (bk || !s))) = true then [(⟨w, bk, r, s, o⟩ : Rg)] else []) (if bk = true ∧ s = true then [-1, 0, 1] else [Rg.i01 s - Rg.i01 bk] : List Int)).length ≤ 3 := by
          split <;> simp <;> split <;> (try split) <;> (try split) <;> simp
        have h6 := some_len w bk r
        unfold Rg.some_ at h6
        simp only [List.length_nil] at hl
        omega
      by_cases c : (decide (r < w) || (decide (o < 1) && (bk || !s))) = true
      · simp only [Bool.or_eq_true, Bool.and_eq_true, decide_eq_true_eq, Bool.not_eq_true'] at c
        rcases c with c | ⟨c1, c2⟩
        · simp [c, Rg.d, hl3]
        · by_cases c0 : r < w
          · simp [c0, Rg.d, hl3]
          · rcases c2 with c2 | c2 <;> simp [c0, c1, c2, Rg.d, hl3]
      · rw [if_neg c]
        simp only [Bool.or_eq_true, Bool.and_eq_true, decide_eq_true_eq, Bool.not_eq_true', not_or, not_and] at c
        obtain ⟨c0, c1⟩ := c
        by_cases c2 : o < 1
        · obtain ⟨c3, c4⟩ := c1 c2
          simp at c3 c4
          simp [c0, c2, c3, c4]
        · simp [c0, c2]
    · rintro ρ m' ⟨⟨x5, rfl⟩, rfl⟩
      have ef : ∀ L : List Int, (L.flatMap fun o => if (decide (r < w) || (decide (o < 1) && (bk || !s))) = true then [(⟨w, bk, r, s, o⟩ : Rg)] else []) = ((L.filter fun o => decide (r < w) || (decide (o < 1) && (bk || !s))).map fun o => (⟨w, bk, r, s, o⟩ : Rg)) := by
        intro L
        induction L with
        | nil => rfl
        | cons o L ih =>
          rw [List.flatMap_cons, ih, List.filter_cons]
          split <;> simp_all
      rw [ef]
      simp
  · rintro ρ m' ⟨⟨x4, x5, rfl⟩, rfl⟩
    simp [kDef, exitB, exitR, Rg.some_]
theorem law_regions_e (h0 : 0 ≤ a) (h1 : a ≤ b) (h6 : b ≤ 6) : G_law_regions [.d (.tup [.int a, .int b])] m = .ok (.d (.lst ((Rg.regs a b).map Rg.d))) m := by
  have F := Rg.facts h0 h1 h6
  refine eq_of_wp ?_
  unfold G_law_regions
  rw [wp_run]
  simp [sem_law_regions]
  refine ⟨by omega, ?_⟩
  have l0 : ((Rg.rg a (b + 1 - a).toNat).flatMap fun w => [false, true].flatMap fun bk => (Rg.rg 0 (w + 1).toNat).flatMap fun r => Rg.some_ w bk r).length ≤ 300 := F.len0
  rw [rngD_rg]
  refine for_fold (enc := D.int) (f := fun w => [false, true].flatMap fun bk => (Rg.rg 0 (w + 1).toNat).flatMap fun r => Rg.some_ w bk r)
    (P := fun acc ρ => ∃ x2 x3 x4 x5, ρ = [some (.d (.tup [.int a, .int b])), some (.d (.lst (acc.map Rg.d))), x2, x3, x4, x5]) (acc := []) ⟨none, none, none, none, rfl⟩ ?_ ?_
  · rintro w hw acc ρ ⟨x2, x3, x4, x5, rfl⟩ hl
    have hw := Rg.mem_rg.mp hw
    refine ⟨_, rfl, ?_⟩
    have e : ([.bl false, .bl true] : List D) = [false, true].map D.bl := rfl
    simp
    rw [e]
    refine for_fold (enc := D.bl) (f := fun bk => (Rg.rg 0 (w + 1).toNat).flatMap fun r => Rg.some_ w bk r)
      (P := fun acc ρ => ∃ x3 x4 x5, ρ = [some (.d (.tup [.int a, .int b])), some (.d (.lst (acc.map Rg.d))), some (.d (.int w)), x3, x4, x5]) (acc := acc) ⟨_, _, _, rfl⟩ ?_ ?_
    · rintro bk hbk acc2 ρ ⟨x3, x4, x5, rfl⟩ hl2
      refine ⟨_, rfl, ?_⟩
      simp
      refine ⟨by omega, ?_⟩
      rw [rngD_rg]
      refine for_fold (enc := D.int) (f := fun r => Rg.some_ w bk r)
        (P := fun acc ρ => ∃ x4 x5, ρ = [some (.d (.tup [.int a, .int b])), some (.d (.lst (acc.map Rg.d))), some (.d (.int w)), some (.d (.bl bk)), x4, x5]) (acc := acc2) ⟨_, _, rfl⟩ ?_ ?_
      · rintro r hr acc3 ρ ⟨x4, x5, rfl⟩ hl3
        refine ⟨_, rfl, ?_⟩
        have se := some_e (m := m) w bk r
        have l3 : acc3.length + (Rg.some_ w bk r).length ≤ 16777216 := by
          simp only [List.length_nil] at hl
          have := some_len w bk r
          omega
        simp [se, l3]
      · rintro ρ ⟨x4, x5, rfl⟩
        simp
    · rintro ρ ⟨x3, x4, x5, rfl⟩
      simp
  · rintro ρ ⟨x2, x3, x4, x5, rfl⟩
    rw [List.nil_append]
    have e0 : ((Rg.rg a (b + 1 - a).toNat).flatMap fun w => [false, true].flatMap fun bk => (Rg.rg 0 (w + 1).toNat).flatMap fun r => Rg.some_ w bk r) = Rg.law0 a b := rfl
    rw [e0]
    simp
    refine lc_filL (enc := Rg.d) (g := Rg.d) (p := fun x => decide (x.w + Rg.i01 x.b ≤ b)) (by have := F.len0; simp; omega) ?_ ?_
    · intro x hx
      refine ⟨_, rfl, ?_, fun _ => by simp⟩
      cases hb : x.b <;> simp [Rg.d, Rg.i01, hb]
    · have so := Rg.sort_ok (L := (Rg.law0 a b).filter fun x => decide (x.w + Rg.i01 x.b ≤ b)) (by
        have := F.len0
        have := List.length_filter_le (fun x : Rg => decide (x.w + Rg.i01 x.b ≤ b)) (Rg.law0 a b)
        rw [sz_eq]; omega)
      have e1 : Rg.isort ((Rg.law0 a b).filter fun x => decide (x.w + Rg.i01 x.b ≤ b)) = Rg.regs a b := F.law
      rw [e1] at so
      simp [sortedD, so]
end
end K18
namespace K18
open PySem PySem.Spec PyProof.Rows L2 DL
open Rg (Form lagF fsg LK fP f0 fS)
/-! PF: the law's own working of a script in a region. -/
section
variable {m : Mem} {x : Rg} {s : Ft} {n k : Int} {f g : Form} {d a : D} {xs : List D} {w : Str}
theorem sign_e : G_law_sign [.d (.int n)] m = .ok (.d (.int (Rg.sg n))) m := by
  refine eq_of_wp ?_
  unfold G_law_sign
  rw [wp_run]
  simp [sem_law_sign, Rg.sg, Rg.i01]
theorem form_sign_e (v : Rg.Vd x) (h6 : x.w ≤ 6) (hf : Rg.Kind f) : G_law_form_sign [.d (formD f), .d x.d] m = .ok (.d (.int (fsg f x))) m := by
  refine eq_of_wp ?_
  unfold G_law_form_sign
  rw [wp_run]
  obtain ⟨xw, xb, xr, xs', xo⟩ := x
  obtain ⟨fn, fr, fq⟩ := f
  have h1 := v.r0
  have h2 := v.rw
  dsimp only at h1 h2 h6
  have lw : xw.natAbs.log2 < 4 := lgi_of 3 (by omega) (by omega)
  have lr : xr.natAbs.log2 < 4 := lgi_of 3 (by omega) (by omega)
  have hr : -1 ≤ fr ∧ fr ≤ 1 ∧ -1 ≤ fq ∧ fq ≤ 1 := by
    simp only [Rg.Kind] at hf
    omega
  have lfr : fr.natAbs.log2 < 2 := lgi_of 1 (by omega) (by omega)
  have lfq : fq.natAbs.log2 < 2 := lgi_of 1 (by omega) (by omega)
  have lb : ∀ b : Bool, (if b = true then (1 : Int) else 0).natAbs.log2 < 2 := fun b => by cases b <;> decide
  have ls := lb xs'
  have lbb := lb xb
  simp [sem_law_form_sign, formD, Rg.d, sign_e, fsg, Rg.i01]
  refine ⟨by omega, by omega, ?_⟩
  by_cases c : fn + fr * xr + fq * xw = 0
  · simp [c]
    by_cases c1 : fr = 1
    · by_cases c2 : fq = -1
      · simp [c1, c2]
      · simp [c1, c2]
        have l1 : Nat.log2 1 = 0 := by decide
        rw [l1]
        omega
    · simp [c1]
      omega
  · simp [c]
theorem less_form_e : G_law_less_form [.d (formD f), .d (formD g)] m = .ok (.d (formD (f.less g))) m := by
  refine eq_of_wp ?_
  unfold G_law_less_form
  rw [wp_run]
  simp [sem_law_less_form, formD, Rg.Form.less]
theorem law_lag_e (v : Rg.Vd x) (h6 : x.w ≤ 6) (hf : LK f) : G_law_lag [.d (formD f), .d (.int n), .d x.d] m = .ok (.d (formD (lagF f n x))) m := by
  refine eq_of_wp ?_
  unfold G_law_lag
  rw [wp_run]
  have e1 : (D.tup [.int (f.n + n), .int f.r, .int f.q]) = formD (f.add n) := rfl
  have e2 : (D.tup [.int 0, .int 0, .int 1]) = formD fP := rfl
  have e3 : (D.tup [.int 0, .int 0, .int 0]) = formD f0 := rfl
  have lf := less_form_e (m := m) (f := f.add n) (g := fP)
  have fs1 := form_sign_e (m := m) v h6 (hf.less n)
  have fs2 := form_sign_e (m := m) v h6 (LK.k (hf.add n))
  have ef : (formD f) = .tup [.int f.n, .int f.r, .int f.q] := rfl
  simp only [sem_law_lag]
  simp [ef]
  rw [e1, e2]
  by_cases c1 : 0 < n
  · simp [c1, lf, fs1]
    have c3 : ¬ n < 0 := by omega
    by_cases c2 : 0 ≤ fsg ((f.add n).less fP) x
    · simp [c2, lagF, c1, e2]
    · simp [c2, c3, lagF, c1]
  · simp [c1]
    by_cases c3 : n < 0
    · simp [c3, fs2]
      by_cases c4 : fsg (f.add n) x ≤ 0
      · simp [c4, lagF, c1, c3, e3]
      · simp [c4, lagF, c1, c3]
    · simp [c3, lagF, c1]
theorem turned_e (v : Rg.Vd x) (h6 : x.w ≤ 6) (hf : LK s.lag) (hs : s.spots.length < 2 ^ 23) : G_law_turned [.d s.d, .d (.int n), .d x.d] m = .ok (.d (s.turn x n).d) m := by
  refine eq_of_wp ?_
  unfold G_law_turned
  rw [wp_run]
  have ll := law_lag_e (m := m) (n := n) v h6 hf
  simp [sem_law_turned, Ft.d, ll, Ft.turn, spotD]
  omega
theorem law_seen_e (v : Rg.Vd x) (h6 : x.w ≤ 6) (hf : LK s.lag) : G_law_seen [.d s.d, .d (.int n), .d x.d] m = .ok (.d (.str (s.seen x n))) m := by
  refine eq_of_wp ?_
  unfold G_law_seen
  rw [wp_run]
  have fs := form_sign_e (m := m) (f := ⟨s.lag.n + n - s.dial, s.lag.r, s.lag.q⟩) v h6 (LK.k (f := ⟨s.lag.n + n - s.dial, s.lag.r, s.lag.q⟩) hf)
  have ef : formD s.lag = .tup [.int s.lag.n, .int s.lag.r, .int s.lag.q] := rfl
  have ef2 : formD ⟨s.lag.n + n - s.dial, s.lag.r, s.lag.q⟩ = .tup [.int (s.lag.n + n - s.dial), .int s.lag.r, .int s.lag.q] := rfl
  rw [ef2] at fs
  simp [sem_law_seen, Ft.d, slD, DL.cutD, HT.sIx, ef, fs]
  rw [k_Map3 (ds := [.str "below", .str "at", .str "above"]) (k := .inl (fsg ⟨s.lag.n + n - s.dial, s.lag.r, s.lag.q⟩ x)) rfl rfl]
  simp [mapD, Ft.seen]
  split <;> (try split) <;> (try split) <;> simp_all
theorem looked_e (ht : s.told.length < 2 ^ 20) : G_law_looked [.d s.d, .d (.int n), .d (.tup [a])] m = .ok (.d (s.looked n a).d) m := by
  refine eq_of_wp ?_
  unfold G_law_looked
  rw [wp_run]
  simp [sem_law_looked, Ft.d, slD, DL.cutD, HT.sIx, Ft.looked]
  omega
/-- what stands behind so many steps -/
structure Fok (x : Rg) (s : Ft) (c : Nat) : Prop where
  cor : ∃ r, Cor x s r ∧ Bd r c
  sp : s.spots.length ≤ 126 * c + 1
theorem Fok.lf {c : Nat} (h : Fok x s c) : LK s.lag := by obtain ⟨r, q, _⟩ := h.cor; exact q.lf
theorem Fok.told {c : Nat} (h : Fok x s c) (hc : c ≤ 2 ^ 16) : s.told.length < 2 ^ 20 := by
  obtain ⟨r, q, b⟩ := h.cor
  have := b.an
  rw [q.an] at this
  omega
theorem Fok.dial {c : Nat} (h : Fok x s c) (hc : c ≤ 2 ^ 16) : -(2 ^ 170) ≤ s.dial ∧ s.dial ≤ 2 ^ 170 := by
  obtain ⟨r, q, b⟩ := h.cor
  have h1 := b.lo
  have h2 := b.hi
  rw [q.st] at h1 h2
  have := c_small (c := c) (by omega)
  omega
theorem LK_turns (v : Rg.Vd x) : ∀ (ns : List Int) {s : Ft}, LK s.lag → LK (s.turns x ns).lag
  | [], _, h => h
  | n :: ns, s, h => LK_turns v ns (s := s.turn x n) (h.lag _ _)
theorem LK_many (v : Rg.Vd x) (ns : List Int) : ∀ (k : Nat) {s : Ft}, LK s.lag → LK (Ft.many x ns k s).lag
  | 0, _, h => h
  | k + 1, _, h => LK_many v ns k (LK_turns v ns h)
/-- a loop of turns -/
theorem turns_loop (v : Rg.Vd x) (h6 : x.w ≤ 6) {e1 e2 e3 : Vl} {Q : Ct → Mem → Prop} : ∀ (ns : List Int) (s : Ft) (x4 x5 : Option Vl), LK s.lag → s.spots.length + ns.length < 2 ^ 23 →
    (∀ x5, Q (.nx [some (.d (s.turns x ns).d), some e1, some e2, some (.d x.d), x4, x5]) m) →
    (forGo (.one 5) (sSeq (sSet 0 (sCall 3 G_law_turned (aCons (sVar 0) (aCons (sVar 5) (aCons (sVar 3) (aNil)))))) (sNil)) (ns.map D.int) [some (.d s.d), some e1, some e2, some (.d x.d), x4, x5] m).wp Q
  | [], s, x4, x5, _, _, h => by simp; exact h x5
  | n :: ns, s, x4, x5, hf, hs, h => by
    rw [List.map_cons, forGo_cons]
    have te := turned_e (m := m) (n := n) v h6 hf (by simp at hs; omega)
    simp [te]
    refine turns_loop v h6 (e1 := e1) (e2 := e2) (e3 := e3) ns (s.turn x n) x4 _ (hf.lag _ _) ?_ h
    simp [Ft.turn] at hs ⊢
    omega
theorem law_repeat_e {ns : List Int} {c : Nat} (v : Rg.Vd x) (h6 : x.w ≤ 6) (h : Fok x s c) (hc : c ≤ 2 ^ 15) (k0 : 0 ≤ k) (k1 : k < 10 ^ 40) (hl6 : ns.length ≤ 6) (hn : ∀ i ∈ ns, -12 ≤ i ∧ i ≤ 12) :
    G_law_repeat [.d s.d, .d (.int k), .d (.tup (ns.map .int)), .d x.d] m = .ok (.d (s.rep x k ns).d) m := by
  refine eq_of_wp ?_
  unfold G_law_repeat
  rw [wp_run]
  have hsp := h.sp
  have hf := h.lf
  simp [sem_law_repeat]
  refine ⟨by split <;> omega, ?_⟩
  generalize hj : (if 20 < k then (20 : Int) else k) = j
  have hj2 : 0 ≤ j ∧ j ≤ 20 := by subst hj; split <;> omega
  refine for_inv (fun rest ρ m' => m' = m ∧ ∃ (i : Nat) (x4 x5 : Option Vl), rest.length + i = j.toNat ∧ ρ = [some (.d (Ft.many x ns i s).d), some (.d (.int k)), some (.d (.tup (ns.map .int))), some (.d x.d), x4, x5]) ⟨rfl, 0, none, none, by simp [rngD], rfl⟩ ?_ ?_
  · rintro y rest ρ m' ⟨rfl, i, x4, x5, hi, rfl⟩
    refine ⟨_, rfl, ?_⟩
    simp at hi
    simp
    have ms := Ft.many_spots (x := x) hl6 i s
    refine turns_loop v h6 (e1 := .d (.int k)) (e2 := .d (.tup (ns.map .int))) (e3 := .d .non) ns (Ft.many x ns i s) (some (.d y)) x5 (LK_many v ns i hf) (by omega) fun x5 => ?_
    simp
    refine ⟨i + 1, by omega, ?_⟩
    have e : ∀ (i : Nat) (s : Ft), Ft.many x ns (i + 1) s = (Ft.many x ns i s).turns x ns := by
      intro i
      induction i with
      | zero => intro s; rfl
      | succ i ih => intro s; show Ft.many x ns (i + 1) (s.turns x ns) = _; rw [ih]; rfl
    rw [e]
  · rintro ρ m' ⟨rfl, i, x4, x5, hi, rfl⟩
    simp at hi
    subst hi
    have ms := Ft.many_spots (x := x) hl6 j.toNat s
    by_cases c20 : 20 < k
    · have ej : j = 20 := by subst hj; rw [if_pos c20]
      subst ej
      have hsum := sum_bd (b := 12) hn
      have es : sumD [.tup (ns.map D.int)] = some (.int ns.sum) := by simp [sumD]
      have lk : (k - 21).natAbs.log2 < 134 := lgi_of 133 (by omega) (by omega)
      have lsum : ns.sum.natAbs.log2 < 8 := lgi_of 7 (by omega) (by omega)
      simp [c20, es, Ft.d, slD, DL.cutD, HT.sIx]
      refine ⟨by omega, ?_⟩
      have q := turns_loop (m := m') v h6 (e1 := .d (.int k)) (e2 := .d (.tup (ns.map .int))) (e3 := .d .non) ns ({ Ft.many x ns 20 s with dial := (Ft.many x ns 20 s).dial + (k - 21) * ns.sum } : Ft) x4 x5 (LK_many v ns 20 hf) (by show (Ft.many x ns 20 s).spots.length + _ < _; simp at ms; omega)
        (Q := kSeq sNil (kSeq (sSeq (sRet (sVar 0)) sNil) (kDef false m'.length fun v m2 => v = .d (s.rep x k ns).d ∧ m2 = m'))) (fun x5 => by simp [Ft.rep, c20])
      simp [Ft.d] at q
      exact q
    · have ej : j = k := by subst hj; rw [if_neg c20]
      subst ej
      simp [c20, Ft.rep]
theorem law_until_e {num most : Int} {c : Nat} (v : Rg.Vd x) (h6 : x.w ≤ 6) (h : Fok x s c) (hc : c ≤ 2 ^ 15) (hmost : 1 ≤ most ∧ most ≤ 20) :
    G_law_until [.d s.d, .d (.tup [.str "until", .str w, .int k, .int num, .int most]), .d x.d] m = .ok (.d ((s.untl x w k num most.toNat).1.looked ((s.untl x w k num most.toNat).2 + 1) (.int (s.untl x w k num most.toNat).2)).d) m := by
  refine eq_of_wp ?_
  unfold G_law_until
  rw [wp_run]
  have hsp := h.sp
  have hf := h.lf
  have ht := h.told (by omega)
  simp [sem_law_until]
  refine wh_inv (fun j ρ m' => m' = m ∧ ∃ (done : Nat) (s' : Ft), (done : Int) + j = most ∧ LK s'.lag ∧ s'.told = s.told ∧ s'.spots.length = s.spots.length + done ∧
    ρ = [some (.d s'.d), some (.d (.tup [.str "until", .str w, .int k, .int num, .int most])), some (.d x.d), some (.d (.str "until")), some (.d (.str w)), some (.d (.int k)), some (.d (.int num)), some (.d (.int most)), some (.d (.int done))] ∧
    (s.untl x w k num most.toNat).1 = (s'.untl x w k num j).1 ∧ (s.untl x w k num most.toNat).2 = (s'.untl x w k num j).2 + done) most.toNat ⟨rfl, 0, s, by omega, hf, rfl, rfl, rfl, rfl, rfl⟩ ?_ (by simp [fuK]; omega)
  rintro j ρ m' ⟨rfl, done, s', hj, hf', ht', hsp', rfl, u1, u2⟩
  have se := law_seen_e (m := m') (n := k) v h6 hf'
  simp [se]
  by_cases hw : s'.seen x k = w
  · have e0 : s'.untl x w k num j = (s', 0) := by cases j <;> simp [Ft.untl, hw]
    rw [e0] at u1 u2
    simp at u2
    have lo := looked_e (m := m') (s := s') (n := (done : Int) + 1) (a := .int done) (by rw [ht']; exact ht)
    simp [hw, lo, u1, u2]
  · simp [hw]
    cases j with
    | zero =>
      have hdm : ¬ (done : Int) < most := by omega
      have e0 : s'.untl x w k num 0 = (s', 0) := rfl
      rw [e0] at u1 u2
      simp at u2
      have lo := looked_e (m := m') (s := s') (n := (done : Int) + 1) (a := .int done) (by rw [ht']; exact ht)
      simp [hdm, lo, u1, u2]
    | succ j =>
      have hdm : (done : Int) < most := by omega
      have te := turned_e (m := m') (s := s') (n := num) v h6 hf' (by omega)
      simp [hdm, te]
      have e1 : s'.untl x w k num (j + 1) = (((s'.turn x num).untl x w k num j).1, ((s'.turn x num).untl x w k num j).2 + 1) := by
        conv => lhs; unfold Ft.untl
        rw [if_neg hw]
      rw [e1] at u1 u2
      simp at u2
      exact ⟨done + 1, by omega, s'.turn x num, hf'.lag _ _, ht', by simp [Ft.turn, hsp']; omega, ⟨rfl, by simp⟩, u1, by omega⟩
/-- what done is to do -/
def DoneOk (x : Rg) (nf k : Nat) : Prop := ∀ (m : Mem) (s : Ft) (c : Nat) (d : D), Fok x s c → c + Wt k ≤ 2 ^ 15 → stepB k d = true → G_law_done nf [.d s.d, .d d, .d x.d] m = .ok (.d (s.step x k d).d) m
theorem Fok.step {c k' : Nat} (v : Rg.Vd x) (h6 : x.w ≤ 6) (hP : x.P3 ≤ 18) (h : Fok x s c) (hd : stepB k' d = true) : Fok x (s.step x k' d) (c + Wt k') := by
  obtain ⟨r, q, b⟩ := h.cor
  have := Ft.step_spots (x := x) k' s d hd
  have := h.sp
  exact ⟨⟨_, Cor.step v h6 hP k' s r d hd q, stepS_bd k' r c d b hd⟩, by omega⟩
theorem all_done_e {nf k' : Nat} (v : Rg.Vd x) (h6 : x.w ≤ 6) (hP : x.P3 ≤ 18) (hdo : DoneOk x nf k') (m : Mem) (s : Ft) (c : Nat) (xs : List D) (h : Fok x s c) (hc : c + xs.length * Wt k' ≤ 2 ^ 15) (hx : ∀ y ∈ xs, stepB k' y = true) :
    G_law_all_done (nf + 1) [.d s.d, .d (.tup xs), .d x.d] m = .ok (.d (xs.foldl (Ft.step x k') s).d) m := by
  refine eq_of_wp ?_
  unfold G_law_all_done
  rw [wp_run]
  simp [sem_law_all_done]
  refine for_inv (fun rest ρ m' => m' = m ∧ ∃ (s' : Ft) (c' : Nat) (x3 : Option Vl), Fok x s' c' ∧ c' + rest.length * Wt k' ≤ 2 ^ 15 ∧ (∀ y ∈ rest, stepB k' y = true) ∧ rest.foldl (Ft.step x k') s' = xs.foldl (Ft.step x k') s ∧ ρ = [some (.d s'.d), some (.d (.tup xs)), some (.d x.d), x3]) ⟨rfl, s, c, none, h, hc, hx, rfl, rfl⟩ ?_ ?_
  · rintro y rest ρ m' ⟨rfl, s', c', x3, h', hc', hx', e, rfl⟩
    refine ⟨_, rfl, ?_⟩
    simp only [List.length_cons, Nat.add_mul, Nat.one_mul] at hc'
    have de := hdo m' s' c' y h' (by omega) (hx' y (by simp))
    simp [de]
    exact ⟨_, c' + Wt k', h'.step v h6 hP (hx' y (by simp)), by omega, fun z hz => hx' z (by simp [hz]), e, rfl⟩
  · rintro ρ m' ⟨rfl, s', c', x3, h', hc', hx', e, rfl⟩
    simp at e
    simp [e]
theorem nb1 : Str.ofString "to" ≠ Str.ofString "by" := by decide
theorem nb2 : Str.ofString "look" ≠ Str.ofString "by" := by decide
theorem nb3 : Str.ofString "look" ≠ Str.ofString "to" := by decide
theorem nb4 : Str.ofString "repeat" ≠ Str.ofString "by" := by decide
theorem nb5 : Str.ofString "repeat" ≠ Str.ofString "to" := by decide
theorem nb6 : Str.ofString "until" ≠ Str.ofString "by" := by decide
theorem nb7 : Str.ofString "until" ≠ Str.ofString "to" := by decide
theorem nb8 : Str.ofString "until" ≠ Str.ofString "repeat" := by decide
theorem nb9 : Str.ofString "if" ≠ Str.ofString "by" := by decide
theorem nb10 : Str.ofString "if" ≠ Str.ofString "to" := by decide
theorem nb11 : Str.ofString "if" ≠ Str.ofString "repeat" := by decide
theorem nb12 : Str.ofString "if" ≠ Str.ofString "until" := by decide
theorem nb13 : Str.ofString "if" ≠ Str.ofString "look" := by decide
theorem nb14 : Str.ofString "look" ≠ Str.ofString "repeat" := by decide
theorem nb15 : Str.ofString "look" ≠ Str.ofString "until" := by decide
theorem nb16 : Str.ofString "look" ≠ Str.ofString "if" := by decide
theorem ints_of_map : ∀ ns : List Int, intsOf (ns.map D.int) = ns
  | [] => rfl
  | n :: ns => by show n :: intsOf (ns.map D.int) = _; rw [ints_of_map ns]
theorem Fok.looked {c : Nat} (h : Fok x s c) (a : D) : Fok x (s.looked 1 a) (c + 1) := by
  obtain ⟨r, q, b⟩ := h.cor
  refine ⟨⟨r.look.tell a, q.look 1 a rfl, ?_⟩, by show s.spots.length ≤ _; have := h.sp; omega⟩
  have hm := b.mono (c' := c + 1) (by omega)
  exact ⟨hm.sc, hm.lo, hm.hi, by show (r.ans ++ [a]).length ≤ _; have := b.an; simp; omega⟩
theorem done_one {nf k' : Nat} (v : Rg.Vd x) (h6 : x.w ≤ 6) (hP : x.P3 ≤ 18) (hdo : ∀ j, k' = j + 1 → DoneOk x nf j) : DoneOk x (nf + 2) k' := by
  intro m s c d h hc hd
  have hf := h.lf
  have hsp := h.sp
  have ht := h.told (by omega)
  refine eq_of_wp ?_
  unfold G_law_done
  rw [wp_run]
  cases shape_step k' hd with
  | by_ a a0 a1 =>
    have te := turned_e (m := m) (s := s) (n := a) v h6 hf (by omega)
    simp [sem_law_done, te]
    cases k' <;> rfl
  | to a a0 a1 =>
    have te := turned_e (m := m) (s := s) (n := a - s.dial) v h6 hf (by omega)
    have e0 : atI [.int s.dial, formD s.lag, .tup s.told, .int s.looks, .lst (s.spots.map spotD)] 0 = some (.int s.dial) := rfl
    have ed : s.d = .tup [.int s.dial, formD s.lag, .tup s.told, .int s.looks, .lst (s.spots.map spotD)] := rfl
    rw [ed] at te
    simp [sem_law_done, nb1, ed, te]
    cases k' <;> rfl
  | look a a0 a1 =>
    have se := law_seen_e (m := m) (s := s) (n := a) v h6 hf
    have lo := looked_e (m := m) (s := s) (n := 1) (a := .str (s.seen x a)) ht
    simp [sem_law_done, nb2, nb3, nb14, nb15, nb16, se, lo]
    cases k' <;> rfl
  | rep a ns a0 a1 l1 l6 hn =>
    have re := law_repeat_e (m := m) (s := s) (k := a) v h6 h (by omega) a0 a1 l6 hn
    simp [sem_law_done, nb4, nb5, re]
    have e : s.step x k' (.tup [.str "repeat", .int a, .tup (ns.map .int)]) = s.rep x a (intsOf (ns.map .int)) := by cases k' <;> rfl
    rw [e, ints_of_map]
  | untl w n num most hw n0 n1 a0 a1 az m1 m20 =>
    have ue := law_until_e (m := m) (s := s) (w := w) (k := n) (num := num) v h6 h (by omega) ⟨m1, m20⟩
    simp [sem_law_done, nb6, nb7, nb8, ue]
    cases k' <;> rfl
  | cond w n ss os hw n0 n1 s4 o4 hs ho =>
    have se := law_seen_e (m := m) (s := s) (n := n) v h6 hf
    have lo := looked_e (m := m) (s := s) (n := 1) (a := .str (s.seen x n)) ht
    have hl := h.looked (.str (s.seen x n))
    simp [sem_law_done, nb9, nb10, nb11, nb12, nb13, se, lo]
    cases k' with
    | zero =>
      have n1 : ss = [] := by
        cases ss with
        | nil => rfl
        | cons y ss => obtain ⟨j, e, _⟩ := hs y (by simp); omega
      have n2 : os = [] := by
        cases os with
        | nil => rfl
        | cons y os => obtain ⟨j, e, _⟩ := ho y (by simp); omega
      exfalso
      subst n1 n2
      simp [stepB, oneB] at hd
      exact absurd hd.2.1.1.1 (by decide)
    | succ j =>
      have hdo' := hdo j rfl
      have hW : Wt (j + 1) = 1 + 4 * Wt j := rfl
      have aa : ∀ xs : List D, xs.length ≤ 4 → (∀ y ∈ xs, ∃ i, j + 1 = i + 1 ∧ stepB i y = true) → G_law_all_done (nf + 1) [.d (s.looked 1 (.str (s.seen x n))).d, .d (.tup xs), .d x.d] m = .ok (.d (xs.foldl (Ft.step x j) (s.looked 1 (.str (s.seen x n)))).d) m := fun xs h4 hx =>
        all_done_e v h6 hP hdo' m _ (c + 1) xs hl (by
          have : xs.length * Wt j ≤ 4 * Wt j := Nat.mul_le_mul_right _ h4
          omega) fun y hy => by
            obtain ⟨i, e, q⟩ := hx y hy
            obtain rfl : j = i := by omega
            exact q
      by_cases c2 : s.seen x n = w
      · have a1 := aa ss s4 hs
        rw [c2] at a1
        simp [c2, a1]
        show _ = (Ft.stepG x (fun s xs => xs.foldl (Ft.step x j) s) s (.tup [.str "if", .str w, .int n, .tup ss, .tup os])).d
        simp [Ft.stepG, nb12, c2, itemsOf]
      · have a1 := aa os o4 ho
        simp [c2, a1]
        show _ = (Ft.stepG x (fun s xs => xs.foldl (Ft.step x j) s) s (.tup [.str "if", .str w, .int n, .tup ss, .tup os])).d
        simp [Ft.stepG, nb12, c2, itemsOf]
theorem done_ok (v : Rg.Vd x) (h6 : x.w ≤ 6) (hP : x.P3 ≤ 18) : ∀ (k' nf : Nat), 2 * k' + 2 ≤ nf → DoneOk x nf k' := by
  intro k'
  induction k' with
  | zero =>
    intro nf h
    obtain ⟨i, rfl⟩ : ∃ i, nf = i + 2 := ⟨nf - 2, by omega⟩
    exact done_one v h6 hP fun j e => by omega
  | succ k' ih =>
    intro nf h
    obtain ⟨i, rfl⟩ : ∃ i, nf = i + 2 := ⟨nf - 2, by omega⟩
    exact done_one v h6 hP fun j e => by
      obtain rfl : k' = j := by omega
      exact ih _ (by omega)
theorem fate_e (v : Rg.Vd x) (h6 : x.w ≤ 6) (hP : x.P3 ≤ 18) (hl : xs.length ≤ 100) (hx : ∀ y ∈ xs, stepB 3 y = true) : G_law_fate [.d (.tup xs), .d x.d] m = .ok (.d (Ft.fate x xs).d) m := by
  refine eq_of_wp ?_
  unfold G_law_fate
  rw [wp_run]
  have hW : Wt 3 = 85 := rfl
  have ad := all_done_e v h6 hP (done_ok v h6 hP 3 11 (by omega)) m Ft.new 0 xs ⟨⟨_, Cor.new v, bd_new⟩, by decide⟩ (by rw [hW]; omega) hx
  have e : Ft.new.d = .tup [.int 0, .tup [.int 0, .int 1, .int 0], .tup [], .int 0, .lst [.tup [.int 0, .tup [.int 0, .int 1, .int 0]]]] := rfl
  rw [e] at ad
  simp [sem_law_fate, ad]
  rfl
end
end K18
namespace K18
open PySem PySem.Spec PyProof.Rows L2 DL
/-! PY: the law's own word for what is a script. -/
section
variable {nn : Nat} {d d1 d2 d3 : D} {m : Mem} {i j : Int} {x : Str} {xs ys : List D}
theorem stepB_eq (k : Nat) : stepB k = oneB fun e => match k with | 0 => false | j + 1 => innerB (stepB j) e := by cases k <;> rfl
theorem whole_e (h : gd nn d = true) : G_law_is_whole [.d d, .d (.int i), .d (.int j)] m = .ok (.d (.bl (wh i j d))) m := by
  refine eq_of_wp ?_
  unfold G_law_is_whole
  rw [wp_run]
  cases d <;> simp [sem_law_is_whole, isi_i h, isi_b h, wh]
  split <;> simp_all
  omega
theorem turn_e (h : gd nn d = true) : G_law_is_turn [.d d] m = .ok (.d (.bl (wh (-12) 12 d))) m := by
  refine eq_of_wp ?_
  unfold G_law_is_turn
  rw [wp_run]
  simp [sem_law_is_turn, whole_e h]
theorem word_e (h : gd nn d = true) : G_law_is_word [.d d] m = .ok (.d (.bl (wd d))) m := by
  refine eq_of_wp ?_
  unfold G_law_is_word
  rw [wp_run]
  cases d <;> simp [sem_law_is_word, isi_s h, wd]
  rename_i x
  rw [in_s (by rfl)]
  simp [eq_comm, Bool.or_assoc]
theorem no_call {G : Fn} {r : SemA} {ρ : DL.Env} {b : Bool} {k : Nat} {vs : List Vl} (hr : r ρ m = .ok vs m) (hk : vs.length = k) (h : G vs m = .ok (.d (.bl b)) m) : tNo (sTb (sCall k G r)) ρ m = .ok (!b) m := by
  unfold tNo sTb
  rw [call1_ok hr hk h]
  rfl
theorem eq_nil (h : plDs ys = true) : eqD (.lst ys) (.lst []) = some (.bl ys.isEmpty) := by
  have hp : plD (.lst ys) = true := by unfold plDs at h; simpa [plD, pyD, PyData.plain] using h
  have hd : min (dpD (.lst ys)) (dpD (.lst [])) ≤ 64 := Nat.le_trans (Nat.min_le_right _ _) (by decide)
  unfold eqD
  rw [hp, show plD (.lst []) = true from rfl, decide_eq_true hd]
  cases ys with
  | nil => rfl
  | cons y ys => simp [eqq, pyD, pyDs, PyData.eqv, PyData.eqvAll]
theorem isE_fil {p : D → Bool} : (xs.filter fun x => !p x).isEmpty = xs.all p := by
  induction xs with
  | nil => rfl
  | cons x xs ih =>
    rw [List.filter_cons]
    cases h : p x <;> simp [h]
    simpa using ih
theorem pl_fil {p : D → Bool} (h : ∀ x ∈ xs, gd nn x = true) : plDs (xs.filter p) = true := gds_pl (n := nn) (gds_iff.mpr fun x hx => h x (List.mem_filter.mp hx).1)
theorem inner_e (hn : nn ≤ 8) {k n : Nat} (ih : ∀ (d : D) (m : Mem), gd nn d = true → G_law_is_step n [.d d, .d (.int (k : Nat))] m = .ok (.d (.bl (stepB k d))) m) (h : gd nn d = true) :
    G_law_is_inner (n + 1) [.d d, .d (.int (k : Nat))] m = .ok (.d (.bl (innerB (stepB k) d))) m := by
  refine eq_of_wp ?_
  unfold G_law_is_inner
  rw [wp_run]
  cases d with
  | tup xs =>
    simp [sem_law_is_inner, isi_t h]
    split
    · simp [innerB]
      intros; omega
    · have hb : xs.length ≤ 4 := by omega
      refine lc_fil (p := stepB k) (gd_len hn h) ?_ ?_
      · intro x hx
        exact ⟨_, rfl, no_call rfl rfl (ih x _ ((gd_t h).2 x hx)), rfl⟩
      · simp [eq_nil (pl_fil (gd_t h).2), isE_fil, innerB, hb]
  | _ => simp [sem_law_is_inner, isi_t h, innerB]
theorem long_e (hn : nn ≤ 8) {a b : D} {k n : Nat} (ih : ∀ (j : Nat) (d : D) (m : Mem), k = j + 1 → gd nn d = true → G_law_is_step n [.d d, .d (.int (j : Nat))] m = .ok (.d (.bl (stepB j d))) m) (h : gd nn (.tup [.str x, d2, d3, a, b]) = true) :
    G_law_is_long (n + 2) [.d (.tup [.str x, d2, d3, a, b]), .d (.int (k : Nat))] m = .ok (.d (.bl (stepB k (.tup [.str x, d2, d3, a, b])))) m := by
  have h2 : gd nn d2 = true := (gd_t h).2 _ (by simp)
  have h3 : gd nn d3 = true := (gd_t h).2 _ (by simp)
  have h4 : gd nn a = true := (gd_t h).2 _ (by simp)
  have h5 : gd nn b = true := (gd_t h).2 _ (by simp)
  refine eq_of_wp ?_
  unfold G_law_is_long
  rw [wp_run, stepB_eq]
  simp [sem_law_is_long, word_e h2, whole_e h3]
  cases hw : wd d2 <;> simp [oneB, hw]
  cases hm : wh (-40) 40 d3 <;> simp
  have n1 : Str.ofString "until" ≠ Str.ofString "if" := by decide
  by_cases e1 : x = Str.ofString "until"
  · subst e1
    simp [n1, turn_e h4, whole_e h5]
    cases hn : wh (-12) 12 a <;> simp
    cases a with
    | int i =>
      simp [nz]
      split <;> simp_all [whole_e h5]
    | _ => simp [wh] at hn
  · simp [e1]
    by_cases e2 : x = Str.ofString "if"
    · simp [e2]
      cases k with
      | zero => simp
      | succ k =>
        simp [inner_e hn (fun d m hd => ih k d m rfl hd) h4, inner_e hn (fun d m hd => ih k d m rfl hd) h5]
        cases innerB (stepB k) a <;> simp
    · simp [e2]
theorem lstep (hn : nn ≤ 8) {k n : Nat} (hif : ∀ x d2 d3 a b (m : Mem), gd nn (.tup [.str x, d2, d3, a, b]) = true → G_law_is_long n [.d (.tup [.str x, d2, d3, a, b]), .d (.int (k : Nat))] m = .ok (.d (.bl (stepB k (.tup [.str x, d2, d3, a, b])))) m)
    (h : gd nn d = true) : G_law_is_step (n + 1) [.d d, .d (.int (k : Nat))] m = .ok (.d (.bl (stepB k d))) m := by
  refine eq_of_wp ?_
  unfold G_law_is_step
  rw [wp_run]
  have l1 : Nat.log2 100000000000000000000 = 66 := by decide
  cases d with
  | tup xs =>
    have hg := (gd_t h).2
    match xs, h, hg with
    | [], h, hg => simp [sem_law_is_step, isi_t h, notIn_i (show plDs [.int 2, .int 3, .int 5] = true from rfl), oneB, stepB_eq]
    | [a], h, hg => simp [sem_law_is_step, isi_t h, notIn_i (show plDs [.int 2, .int 3, .int 5] = true from rfl), oneB, stepB_eq]
    | [a, b], h, hg =>
      have h1 := hg a (by simp)
      have h2 := hg b (by simp)
      rw [stepB_eq k]
      simp [sem_law_is_step, isi_t h, notIn_i (show plDs [.int 2, .int 3, .int 5] = true from rfl), isi_s h1]
      cases a with
      | str x =>
        simp [oneB, turn_e h2, whole_e h2, in_s (show plDs [.str "to", .str "look"] = true from rfl)]
        have n1 : Str.ofString "by" ≠ Str.ofString "to" := by decide
        have n2 : Str.ofString "by" ≠ Str.ofString "look" := by decide
        by_cases e1 : x = Str.ofString "by"
        · subst e1
          simp [n1, n2, n1.symm, n2.symm]
        · by_cases e2 : x = Str.ofString "to"
          · subst e2; simp [n1.symm]
          · by_cases e3 : x = Str.ofString "look"
            · subst e3; simp [n2.symm]
            · simp [e1, e2, e3, Ne.symm e2, Ne.symm e3]
      | _ => simp [oneB]
    | [a, b, c], h, hg =>
      have h1 := hg a (by simp)
      have h2 := hg b (by simp)
      have h3 := hg c (by simp)
      rw [stepB_eq k]
      simp [sem_law_is_step, isi_t h, notIn_i (show plDs [.int 2, .int 3, .int 5] = true from rfl), isi_s h1]
      cases a with
      | str x =>
        simp
        by_cases e1 : x = Str.ofString "repeat"
        · subst e1
          simp [whole_e h2, l1, isi_t h3]
          cases hw : wh 0 9999999999999999999999999999999999999999 b
          · cases c <;> simp [oneB, hw]
          · cases c with
            | tup ts =>
              simp [oneB, hw]
              have h4 := (gd_t h3).2
              split
              · split
                · simp [turnsB]
                  intros; omega
                · have hb : 1 ≤ ts.length ∧ ts.length ≤ 6 := by omega
                  refine lc_fil (p := wh (-12) 12) (gd_len hn h3) ?_ ?_
                  · intro x hx
                    exact ⟨_, rfl, no_call rfl rfl (turn_e (h4 x hx)), rfl⟩
                  · simp [eq_nil (pl_fil h4), isE_fil, turnsB, hb]
              · simp [turnsB]
                intros; omega
            | _ => simp [oneB]
        · cases c <;> simp [oneB, e1]
      | _ => cases c <;> simp [oneB]
    | [a, b, c, e], h, hg => simp [sem_law_is_step, isi_t h, notIn_i (show plDs [.int 2, .int 3, .int 5] = true from rfl), oneB, stepB_eq]
    | [a, b, c, e, f], h, hg =>
      have h1 := hg a (by simp)
      simp [sem_law_is_step, isi_t h, notIn_i (show plDs [.int 2, .int 3, .int 5] = true from rfl), isi_s h1]
      cases a with
      | str x =>
        simp [hif _ _ _ _ _ _ h]
      | _ => simp [oneB, stepB_eq]
    | a :: b :: c :: e :: f :: g :: r, h, hg => 
      simp [sem_law_is_step, isi_t h, notIn_i (show plDs [.int 2, .int 3, .int 5] = true from rfl), oneB, stepB_eq]
      intro hx
      exfalso
      omega
  | _ => simp [sem_law_is_step, isi_t h, oneB, stepB_eq]
theorem lstep_e (hn : nn ≤ 8) : ∀ (k n : Nat) (d : D) (m : Mem), 3 * k + 3 ≤ n → gd nn d = true → G_law_is_step n [.d d, .d (.int (k : Nat))] m = .ok (.d (.bl (stepB k d))) m := by
  intro k
  induction k with
  | zero =>
    intro n d m hkn h
    obtain ⟨n, rfl⟩ : ∃ i, n = i + 3 := ⟨n - 3, by omega⟩
    exact lstep hn (fun x d2 d3 a b m hd => long_e hn (fun j _ _ e _ => by omega) hd) h
  | succ k ih =>
    intro n d m hkn h
    obtain ⟨n, rfl⟩ : ∃ i, n = i + 3 := ⟨n - 3, by omega⟩
    exact lstep hn (fun x d2 d3 a b m hd => long_e hn (fun j d m e hd => by
      obtain rfl : k = j := by omega
      exact ih _ _ _ (by omega) hd) hd) h
theorem lstep3 (hn : nn ≤ 8) (h : gd nn d = true) : G_law_is_step 12 [.d d, .d (.int 3)] m = .ok (.d (.bl (stepB 3 d))) m := lstep_e hn 3 12 d m (by omega) h
theorem lscript_e (hn : nn ≤ 8) (h : gd nn d = true) : G_law_is_script [.d d] m = .ok (.d (.bl (scriptB d))) m := by
  refine eq_of_wp ?_
  unfold G_law_is_script
  rw [wp_run]
  cases d with
  | tup xs =>
    simp [sem_law_is_script, isi_t h]
    split
    · simp [scriptB]
      intros; omega
    · have hb : xs.length ≤ 8 := by omega
      refine lc_fil (p := stepB 3) (gd_len hn h) ?_ ?_
      · intro x hx
        exact ⟨_, rfl, no_call rfl rfl (lstep3 hn ((gd_t h).2 x hx)), rfl⟩
      · simp [eq_nil (pl_fil (gd_t h).2), isE_fil, scriptB, hb]
  | _ => simp [sem_law_is_script, isi_t h, scriptB]
end
end K18
namespace K18
open PySem PySem.Spec PyProof.Rows L2 LamX DLH DL
section
variable {m : Mem} {lo hi tol many w : Int} {d : D} {xs : List D}
/-! the fewest looks -/
theorem need_len (tol : Int) : ∀ (L : List Int) (a : List Int), (L.foldl (need1 tol) a).length = a.length + L.length
  | [], a => rfl
  | x :: L, a => by rw [List.foldl_cons, need_len tol L]; simp [need1]; omega
theorem needed_e (w0 : 0 ≤ w) (w6 : w ≤ 6) (t1 : 1 ≤ tol) (t6 : tol ≤ 6) : G_law_needed [.d (.int w), .d (.int tol)] m = .ok (.d (.int ((needL tol w).getD w.toNat 0))) m := by
  refine eq_of_wp ?_
  unfold G_law_needed
  rw [wp_run]
  simp [sem_law_needed]
  refine ⟨by omega, ?_⟩
  have ew : (w + 1 - 1).toNat = w.toNat := by omega
  rw [rngD_rg]
  refine for_inv (fun rest ρ m' => ∃ (pre post : List Int) (x3 x4 : Option Vl), Rg.rg 1 w.toNat = pre ++ post ∧ rest = post.map D.int ∧ ρ = [some (.d (.int w)), some (.d (.int tol)), some (.p m.length), x3, x4] ∧ m' = m ++ [.lst ((pre.foldl (need1 tol) [0]).map D.int)]) ⟨[], _, none, none, rfl, rfl, rfl, rfl⟩ ?_ ?_
  · rintro x rest ρ m' ⟨pre, post, x3, x4, e1, e2, rfl, rfl⟩
    cases post with
    | nil => simp at e2
    | cons s post =>
      simp at e2
      obtain ⟨rfl, rfl⟩ := e2
      refine ⟨_, rfl, ?_⟩
      have hlen := congrArg List.length e1
      simp [Rg.rg] at hlen
      have hs : s = pre.length + 1 := by
        have h := congrArg (fun L => L[pre.length]?) e1
        simp only [List.getElem?_append_right (Nat.le_refl _), Nat.sub_self, List.getElem?_cons_zero] at h
        unfold Rg.rg at h
        rw [List.getElem?_map, List.getElem?_range (by omega)] at h
        simp at h
        omega
      have hk := need_len tol pre [0]
      generalize hK : pre.foldl (need1 tol) [0] = K at *
      simp at hk
      have hf : (pre ++ [s]).foldl (need1 tol) [0] = need1 tol K s := by rw [List.foldl_append, hK]; rfl
      by_cases c : s ≤ tol
      · simp [c]
        exact ⟨by omega, pre ++ [s], post, by rw [e1]; simp, rfl, by rw [hf]; simp [need1, c]⟩
      · simp [c]
        refine ⟨by omega, ?_⟩
        have er : rngD 1 (s.toNat - 1) = (Rg.rg 1 (s - 1).toNat).map D.int := by rw [show s.toNat - 1 = (s - 1).toNat by omega]; exact rngD_rg _ _
        rw [er]
        refine lc_mapL (g := fun p => .int (if K.getD (s - p).toNat 0 > K.getD p.toNat 0 then K.getD (s - p).toNat 0 else K.getD p.toNat 0)) ?_ ?_ ?_
        · simp [Rg.rg]; omega
        · intro p hp
          have hp := Rg.mem_rg.mp hp
          refine ⟨_, rfl, ?_⟩
          have a1 : atI (K.map D.int) p = some (.int (K.getD p.toNat 0)) := by
            rw [atI_pos (by omega), List.getElem?_map, List.getElem?_eq_getElem (by omega), List.getD_eq_getElem?_getD, List.getElem?_eq_getElem (by omega)]
            rfl
          have a2 : atI (K.map D.int) (s - p) = some (.int (K.getD (s - p).toNat 0)) := by
            rw [atI_pos (by omega), List.getElem?_map, List.getElem?_eq_getElem (by omega), List.getD_eq_getElem?_getD, List.getElem?_eq_getElem (by omega)]
            rfl
          simp [a1, a2]
        · have e3 : ([] : List D) ++ (Rg.rg 1 (s - 1).toNat).map (fun p => D.int (if K.getD (s - p).toNat 0 > K.getD p.toNat 0 then K.getD (s - p).toNat 0 else K.getD p.toNat 0)) = ((Rg.rg 1 (s - 1).toNat).map fun p => if K.getD (s - p).toNat 0 > K.getD p.toNat 0 then K.getD (s - p).toNat 0 else K.getD p.toNat 0).map D.int := by
            simp [Function.comp]
          rw [e3]
          have hne : ((Rg.rg 1 (s - 1).toNat).map fun p => if K.getD (s - p).toNat 0 > K.getD p.toNat 0 then K.getD (s - p).toNat 0 else K.getD p.toNat 0) ≠ [] := by
            intro h
            have := congrArg List.length h
            simp [Rg.rg] at this
            omega
          have hn1 : need1 tol K s = K ++ [1 + (match (Rg.rg 1 (s - 1).toNat).map (fun p => if K.getD (s - p).toNat 0 > K.getD p.toNat 0 then K.getD (s - p).toNat 0 else K.getD p.toNat 0) with | a :: r => lmin a r | [] => 0)] := by
            unfold need1; rw [if_neg c]; all_goals rfl
          revert hn1 hne
          generalize ((Rg.rg 1 (s - 1).toNat).map fun p => if K.getD (s - p).toNat 0 > K.getD p.toNat 0 then K.getD (s - p).toNat 0 else K.getD p.toNat 0) = R
          intro hne hn1
          cases R with
          | nil => exact absurd rfl hne
          | cons a r =>
            have em : minLD [.lst ((a :: r).map D.int)] = some (.int (lmin a r)) := by
              show (match ints? ((a :: r).map D.int) with | some (n :: ns) => some (D.int (lmin n ns)) | _ => none) = _
              rw [ints_of]
            simp only [List.map_cons] at em
            simp [em]
            exact ⟨by omega, pre ++ [s], post, by rw [e1]; simp, rfl, by rw [hf, hn1]; simp⟩
  · rintro ρ m' ⟨pre, post, x3, x4, e1, e2, rfl, rfl⟩
    cases post with
    | cons => simp at e2
    | nil =>
      simp at e1
      subst e1
      have hk := need_len tol (Rg.rg 1 w.toNat) [0]
      have hk2 : (needL tol w).length = w.toNat + 1 := by unfold needL; rw [hk]; simp [Rg.rg]; omega
      show _
      have a1 : atI ((needL tol w).map D.int) w = some (.int ((needL tol w).getD w.toNat 0)) := by
        rw [atI_pos (by omega), List.getElem?_map, List.getElem?_eq_getElem (by omega), List.getD_eq_getElem?_getD, List.getElem?_eq_getElem (by omega)]
        rfl
      have en : (Rg.rg 1 w.toNat).foldl (need1 tol) [0] = needL tol w := rfl
      rw [en]
      simp [a1]
theorem look_eq (w0 : 0 ≤ w) (w6 : w ≤ 6) (t1 : 1 ≤ tol) (t6 : tol ≤ 6) : (needL tol w).getD w.toNat 0 = lookN tol 4 w := by
  have h := List.all_eq_true.mp looks_ok tol (Rg.mem_rg.mpr ⟨t1, by omega⟩)
  have h := List.all_eq_true.mp h w (Rg.mem_rg.mpr ⟨w0, by omega⟩)
  simp only [Bool.and_eq_true, decide_eq_true_eq] at h
  exact h.1
theorem looks_for_e (w0 : 0 ≤ w) (w6 : w ≤ 6) (t1 : 1 ≤ tol) : G_looks_for [.d (.int w), .d (.int tol)] m = .ok (.d (.int (lookN tol 4 w))) m := by
  refine eq_of_wp ?_
  unfold G_looks_for
  rw [wp_run]
  simp [sem_looks_for]
  refine wh_inv (fun j ρ m' => m' = m ∧ ∃ u c : Int, ρ = [some (.d (.int u)), some (.d (.int tol)), some (.d (.int c))] ∧ 0 ≤ u ∧ u ≤ 2 ^ j ∧ c + lookN tol (j + 1) u = lookN tol 4 w) 3 ⟨rfl, w, 0, rfl, w0, by omega, by show 0 + lookN tol 4 w = _; omega⟩ ?_ (by simp [fuK])
  rintro j ρ m' ⟨rfl, u, c, rfl, u0, u1, hc⟩
  have l2 : Nat.log2 2 = 1 := by decide
  simp
  by_cases h : tol < u
  · simp [h, l2]
    cases j with
    | zero => simp at u1; omega
    | succ j =>
      refine ⟨j, rfl, (u + 1) / 2, c + 1, ⟨rfl, rfl⟩, by omega, ?_, ?_⟩
      · have e : (2 : Int) ^ (j + 1) = 2 * 2 ^ j := by rw [Int.pow_succ, Int.mul_comm]
        rw [e] at u1
        generalize (2 : Int) ^ j = t at *
        omega
      · have : lookN tol (j + 1 + 1) u = 1 + lookN tol (j + 1) ((u + 1) / 2) := by
          conv => lhs; unfold lookN
          rw [if_pos h]
        omega
  · simp [h]
    have : lookN tol (j + 1) u = 0 := by unfold lookN; rw [if_neg (by omega)]
    omega
/-! the steps -/
theorem choices_e (t1 : 1 ≤ tol) (t6 : tol ≤ 6) : ∀ (n F : Nat) (lo hi : Int) (m : Mem), n < F → 0 ≤ lo → lo ≤ hi → hi ≤ 6 → hi - lo ≤ 2 ^ n → G_choices F [.d (.int lo), .d (.int hi), .d (.int tol)] m = .ok (.d (.tup (chs tol n lo hi))) m
  | 0, 0, _, _, _, h, _, _, _, _ => by omega
  | 0, F + 1, lo, hi, m, h, h0, h1, h6, hw => by
    have hw : hi - lo ≤ 1 := hw
    have c : hi - lo ≤ tol := by omega
    refine eq_of_wp ?_
    unfold G_choices
    rw [wp_run]
    simp [sem_choices, c, chs]
  | n + 1, 0, _, _, _, h, _, _, _, _ => by omega
  | n + 1, F + 1, lo, hi, m, h, h0, h1, h6, hw => by
    obtain ⟨a, b, c, d⟩ := half hw h1
    have e1 := choices_e t1 t6 n F ((lo + hi) / 2) hi m (by omega) (by omega) d h6 a
    have e2 := choices_e t1 t6 n F lo ((lo + hi) / 2) m (by omega) h0 c (by omega) b
    refine eq_of_wp ?_
    unfold G_choices
    rw [wp_run]
    have l2 : Nat.log2 2 = 1 := by decide
    by_cases ct : hi - lo ≤ tol
    · simp [sem_choices, ct, chs]
    · simp [sem_choices, ct, chs, l2, e1, e2]
def scr (tol lo hi : Int) : List D := match chs tol 3 lo hi with
  | [] => []
  | y :: ys => .tup [.str "by", .int (-hi)] :: .tup [.str "by", .int hi] :: y :: ys
theorem mach_gd (h0 : 0 ≤ lo) (h1 : lo ≤ hi) (h6 : hi ≤ 6) : machB (.tup [.int lo, .int hi]) = true ∧ gd 0 (.tup [.int lo, .int hi]) = true :=
  ⟨by simp [machB]; omega, tup_gd (fun x hx => by simp at hx; rcases hx with rfl | rfl <;> simp [gd, leafB] <;> omega) (by simp)⟩
theorem need_tol_e (h0 : 0 ≤ lo) (h1 : lo ≤ hi) (h6 : hi ≤ 6) (t1 : 1 ≤ tol) (t6 : tol ≤ 6) : G_need_tolerance [.d (.tup [.int lo, .int hi]), .d (.int tol)] m = .ok (.d .non) m := by
  obtain ⟨hm, g⟩ := mach_gd h0 h1 h6
  have gt : gd 0 (.int tol) = true := by simp [gd, leafB]; omega
  have n1 : G_need_machine [.d (.tup [.int lo, .int hi])] m = .ok (.d .non) m := by
    refine eq_of_wp ?_
    unfold G_need_machine
    rw [wp_run]
    simp [sem_need_machine, is_machine_e (nn := 0) (by omega) g, hm]
  have n2 : G_need_number [.d (.int tol), .d (.int 1), .d (.int 6)] m = .ok (.d .non) m := by
    have w : wh 1 6 (.int tol) = true := by simp [wh]; omega
    refine eq_of_wp ?_
    unfold G_need_number
    rw [wp_run]
    simp [sem_need_number, is_int_e (nn := 0) gt, w]
  refine eq_of_wp ?_
  unfold G_need_tolerance
  rw [wp_run]
  simp [sem_need_tolerance, n1, n2]
theorem need_tol_num (h0 : 0 ≤ lo) (h1 : lo ≤ hi) (h6 : hi ≤ 6) (h : gd 0 d = true) (hb : wh 1 6 d = false) : G_need_tolerance [.d (.tup [.int lo, .int hi]), .d d] m = .er ⟨er_InvalidNumber, none⟩ m := by
  obtain ⟨hm, g⟩ := mach_gd h0 h1 h6
  have n1 : G_need_machine [.d (.tup [.int lo, .int hi])] m = .ok (.d .non) m := by
    refine eq_of_wp ?_
    unfold G_need_machine
    rw [wp_run]
    simp [sem_need_machine, is_machine_e (nn := 0) (by omega) g, hm]
  have n2 : G_need_number [.d d, .d (.int 1), .d (.int 6)] m = .er ⟨er_InvalidNumber, none⟩ m := by
    unfold G_need_number
    refine run_er ?_
    simp [sem_need_number, sSeq, sIf, tNo, sTb, sCall, aCons, aNil, sVar, sRaise, is_int_e (nn := 0) h, hb]
  unfold G_need_tolerance
  refine run_er ?_
  simp [sem_need_tolerance, sSeq, sDrop, sCall, aCons, aNil, sVar, sC, n1, n2]
theorem need_tol_mach {e : Vl} : G_need_tolerance [.d (.lst [.int 0, .int 3]), e] m = .er ⟨er_InvalidMachine, none⟩ m := by
  have n1 : G_need_machine [.d (.lst [.int 0, .int 3])] m = .er ⟨er_InvalidMachine, none⟩ m := by
    have im := is_machine_e (m := m) (nn := 0) (d := .lst [.int 0, .int 3]) (by omega) (by decide)
    have hb : machB (.lst [.int 0, .int 3]) = false := rfl
    unfold G_need_machine
    refine run_er ?_
    simp [sem_need_machine, sSeq, sIf, tNo, sTb, sCall, aCons, aNil, sVar, sRaise, im, hb]
  unfold G_need_tolerance
  refine run_er ?_
  simp [sem_need_tolerance, sSeq, sDrop, sCall, aCons, aNil, sVar, n1]
theorem looks_needed_e (h0 : 0 ≤ lo) (h1 : lo ≤ hi) (h6 : hi ≤ 6) (t1 : 1 ≤ tol) (t6 : tol ≤ 6) : G_looks_needed [.d (.tup [.int lo, .int hi]), .d (.int tol)] m = .ok (.d (.int (lookN tol 4 (hi - lo)))) m := by
  refine eq_of_wp ?_
  unfold G_looks_needed
  rw [wp_run]
  simp [sem_looks_needed, need_tol_e h0 h1 h6 t1 t6, looks_for_e (w := hi - lo) (by omega) (by omega) t1]
theorem chs_plain {n : Nat} : PyData.plainAll (pyDs (chs tol n lo hi)) = true := by
  induction n generalizing lo hi with
  | zero => simp [chs, pyDs, PyData.plainAll]
  | succ n ih =>
    unfold chs
    split
    · simp [pyDs, PyData.plainAll]
    · have a := ih (lo := (lo + hi) / 2) (hi := hi)
      have b := ih (lo := lo) (hi := (lo + hi) / 2)
      simp [pyDs, pyD, PyData.plainAll, PyData.plain, a, b]
theorem measuring_e (h0 : 0 ≤ lo) (h1 : lo ≤ hi) (h6 : hi ≤ 6) (t1 : 1 ≤ tol) (t6 : tol ≤ 6) : G_measuring [.d (.tup [.int lo, .int hi]), .d (.int tol)] m = .ok (.d (.tup (scr tol lo hi))) m := by
  refine eq_of_wp ?_
  unfold G_measuring
  rw [wp_run]
  have ce := choices_e (m := m) t1 t6 3 12 lo hi (by omega) h0 h1 h6 (by omega)
  have hl := chs_len tol 3 lo hi
  have pl : plD (.tup (chs tol 3 lo hi)) = true := by unfold plD; rw [pyD, PyData.plain]; exact chs_plain
  have eq : eqD (.tup (chs tol 3 lo hi)) (.tup []) = some (.bl (chs tol 3 lo hi).isEmpty) := by
    unfold eqD
    rw [pl]
    have p2 : plD (.tup []) = true := rfl
    have dp : dpD (.tup []) ≤ 64 := by decide
    have c : min (dpD (.tup (chs tol 3 lo hi))) (dpD (.tup [])) ≤ 64 := by omega
    rw [p2]
    simp only [c, decide_true, Bool.and_true, if_true]
    cases chs tol 3 lo hi <;> rfl
  simp [sem_measuring, need_tol_e h0 h1 h6 t1 t6, ce, eq]
  unfold scr
  cases hc : chs tol 3 lo hi with
  | nil => simp
  | cons y ys =>
    rw [hc] at hl
    simp at hl
    subst hl
    simp
end
end K18
namespace K18
open PySem PySem.Spec PyProof.Rows L2 LamX DLH DL
section
variable {m : Mem} {lo hi tol many P : Int} {d : D} {xs : List D} {kvs : List (D × D)}
/-! what the law's dict holds -/
def kS (L : List Str) : NestedKey := .tup (L.map .text)
theorem keyDs_str : ∀ L : List Str, keyDs (L.map D.str) = some (L.map .text)
  | [] => rfl
  | x :: L => by simp [keyDs, keyD, keyDs_str L]
theorem key_str (L : List Str) : keyD (.tup (L.map D.str)) = some (kS L) := by simp [keyD, keyDs_str, kS]
theorem kS_inj {L L' : List Str} (h : kS L = kS L') : L = L' := by
  unfold kS at h
  injection h with h
  exact (List.map_inj_right (fun _ _ e => by injection e)).mp h
theorem deeps : ∀ L : List Str, NestedKey.depthAll (L.map .text) = 0
  | [] => rfl
  | x :: L => by simp [NestedKey.depthAll, NestedKey.depth, deeps L]
theorem kS_deep (L : List Str) : (kS L).depth ≤ 8 := by simp [kS, NestedKey.depth, deeps]
def kd (tol P lo hi : Int) : D := .tup ((pth tol P 3 lo hi).map .str)
def Ent (lo hi tol : Int) (kvs : List (D × D)) : Prop := ∀ e ∈ kvs, ∃ P a b : Int, e = (kd tol P lo hi, .tup [.int a, .int b]) ∧ (fin tol P 3 lo hi).1 ≤ a ∧ b ≤ (fin tol P 3 lo hi).2
theorem at_ent (h : Ent lo hi tol kvs) (P : Int) : (atKV kvs (kS (pth tol P 3 lo hi)) = none ∧ ∀ e ∈ kvs, e.1 ≠ kd tol P lo hi) ∨ ∃ a b, atKV kvs (kS (pth tol P 3 lo hi)) = some (.tup [.int a, .int b]) ∧ (fin tol P 3 lo hi).1 ≤ a ∧ b ≤ (fin tol P 3 lo hi).2 := by
  unfold atKV
  cases hf : kvs.find? fun p => decide (keyD p.1 = some (kS (pth tol P 3 lo hi))) with
  | none =>
    refine .inl ⟨rfl, fun e he q => ?_⟩
    have := List.find?_eq_none.mp hf e he
    rw [q] at this
    exact this (by simp [kd, key_str])
  | some e =>
    have h1 := List.find?_some hf
    obtain ⟨P', a, b, rfl, ha, hb⟩ := h e (List.mem_of_find?_eq_some hf)
    simp only [decide_eq_true_eq] at h1
    unfold kd at h1
    rw [key_str] at h1
    injection h1 with h1
    have h2 := fin_same 3 lo hi (kS_inj h1)
    exact .inr ⟨a, b, rfl, by rw [← h2]; exact ha, by rw [← h2]; exact hb⟩
theorem put_ent (h : Ent lo hi tol kvs) {P a b : Int} (ha : (fin tol P 3 lo hi).1 ≤ a) (hb : b ≤ (fin tol P 3 lo hi).2) : Ent lo hi tol (putKV kvs (kS (pth tol P 3 lo hi)) (kd tol P lo hi) (.tup [.int a, .int b])) ∧ (putKV kvs (kS (pth tol P 3 lo hi)) (kd tol P lo hi) (.tup [.int a, .int b])).length ≤ kvs.length + 1 := by
  unfold putKV
  cases atKV kvs (kS (pth tol P 3 lo hi)) with
  | none =>
    refine ⟨fun e he => ?_, by simp⟩
    rcases List.mem_append.mp he with q | q
    · exact h e q
    · simp at q
      subst q
      exact ⟨P, a, b, rfl, ha, hb⟩
  | some d =>
    refine ⟨fun e he => ?_, by simp⟩
    simp only [List.mem_map] at he
    obtain ⟨e', q, rfl⟩ := he
    obtain ⟨P', a', b', rfl, ha', hb'⟩ := h e' q
    by_cases c : keyD (kd tol P' lo hi) = some (kS (pth tol P 3 lo hi))
    · rw [if_pos c]
      unfold kd at c
      rw [key_str] at c
      injection c with c
      have h2 := fin_same 3 lo hi (kS_inj c)
      exact ⟨P', a, b, rfl, by rw [h2]; exact ha, by rw [h2]; exact hb⟩
    · rw [if_neg c]
      exact ⟨P', a', b', rfl, ha', hb'⟩
theorem measures_e (h0 : 0 ≤ lo) (h1 : lo ≤ hi) (h6 : hi ≤ 6) (t1 : 1 ≤ tol) (hs : scriptB (.tup xs) = true) (hg : gd 0 (.tup xs) = true)
    (hf : ∀ x, Rg.Vd x → lo ≤ x.w → x.w + Rg.i01 x.b ≤ hi → (Ft.fate x xs).told = (pth tol x.P3 3 lo hi).map .str ∧ (Ft.fate x xs).looks ≤ many) :
    G_law_measures [.d (.tup [.int lo, .int hi]), .d (.tup xs), .d (.int tol), .d (.int many)] m = .ok (.d (.bl true)) m := by
  have F := Rg.facts h0 h1 h6
  obtain ⟨hlen, hst⟩ : xs.length ≤ 8 ∧ ∀ y ∈ xs, stepB 3 y = true := by simpa [scriptB] using hs
  have e8 : (2 : Int) ^ 3 = 8 := rfl
  have hw : hi - lo ≤ 2 ^ 3 := by omega
  refine eq_of_wp ?_
  unfold G_law_measures
  rw [wp_run]
  simp [sem_law_measures, lscript_e (nn := 0) (by omega) hg, hs, law_regions_e h0 h1 h6]
  refine for_inv (fun rest ρ m' => ∃ (post : List Rg) (kvs : List (D × D)) (x5 x6 x7 x8 : Option Vl), rest = post.map Rg.d ∧ (∀ x ∈ post, x ∈ Rg.regs lo hi) ∧ ρ = [some (.d (.tup [.int lo, .int hi])), some (.d (.tup xs)), some (.d (.int tol)), some (.d (.int many)), some (.p m.length), x5, x6, x7, x8, none] ∧ m' = m ++ [.dct kvs] ∧ Ent lo hi tol kvs ∧ kvs.length + post.length ≤ 200) ⟨Rg.regs lo hi, [], none, none, none, none, rfl, fun _ h => h, rfl, rfl, by intro e he; simp at he, by have := F.len2; simpa using this⟩ ?_ ?_
  · rintro x rest ρ m' ⟨post, kvs, x5, x6, x7, x8, e1, hm, rfl, rfl, he, hl⟩
    cases post with
    | nil => simp at e1
    | cons r post =>
      simp at e1
      obtain ⟨rfl, rfl⟩ := e1
      refine ⟨_, rfl, ?_⟩
      obtain ⟨v, r1, r2⟩ := F.vd r (hm r (by simp))
      have hb : 0 ≤ Rg.i01 r.b ∧ Rg.i01 r.b ≤ 1 := by cases r.b <;> simp [Rg.i01]
      have hP := P3_le r2 h6
      obtain ⟨f1, f2⟩ := hf r v r1 r2
      have fe := fate_e (m := m ++ [.dct kvs]) v (by omega : r.w ≤ 6) hP (by omega) hst
      have f3 : ¬ many < (Ft.fate r xs).looks := by omega
      simp [fe, Ft.d, f1, f3]
      simp [dctAt, Rg.d]
      rw [k_DGet (kvs := kvs) (k := kS (pth tol r.P3 3 lo hi)) (by simp [dctAt]) (key_str _) (kS_deep _)]
      obtain ⟨g1, g2⟩ := fin_in (tol := tol) v 3 lo hi h1 r1 r2
      have key : ∃ a b : Int, (atKV kvs (kS (pth tol r.P3 3 lo hi))).getD (.tup [.int r.w, .int r.w]) = .tup [.int a, .int b] ∧ (fin tol r.P3 3 lo hi).1 ≤ min a r.w ∧ max b (r.w + Rg.i01 r.b) ≤ (fin tol r.P3 3 lo hi).2 := by
        rcases at_ent he r.P3 with ⟨q, _⟩ | ⟨a, b, q, qa, qb⟩
        · rw [q]; exact ⟨_, _, rfl, by omega, by omega⟩
        · rw [q]; exact ⟨_, _, rfl, by omega, by omega⟩
      obtain ⟨a, b, ek, ka, kb⟩ := key
      rw [ek]
      simp
      have ka' : (fin tol r.P3 3 lo hi).1 ≤ (if r.w < a then r.w else a) := by split <;> omega
      have kb' : (if b < r.w + (if r.b = true then 1 else 0) then r.w + (if r.b = true then 1 else 0) else b) ≤ (fin tol r.P3 3 lo hi).2 := by
        have e : Rg.i01 r.b = if r.b = true then 1 else 0 := by cases r.b <;> rfl
        rw [← e]
        by_cases c : b < r.w + Rg.i01 r.b
        · rw [if_pos c]; omega
        · rw [if_neg c]; omega
      obtain ⟨p1, p2⟩ := put_ent he ka' kb'
      generalize (if r.w < a then r.w else a) = a' at *
      generalize (if b < r.w + (if r.b = true then 1 else 0) then r.w + (if r.b = true then 1 else 0) else b) = b' at *
      have hl2 : kvs.length + post.length + 1 ≤ 200 := by simp at hl; omega
      rw [k_DPut (kvs := kvs) (k := kS (pth tol r.P3 3 lo hi)) (by simp) (key_str _) (by rw [sz_eq]; omega) (kS_deep _)]
      simp
      exact ⟨post, rfl, fun y hy => hm y (by simp [hy]), p1, by simp only [kd] at p2; omega⟩
  · rintro ρ m' ⟨post, kvs, x5, x6, x7, x8, e1, hm, rfl, rfl, he, hl⟩
    simp
    have ek : kvs.map Prod.fst = kvs.map (fun e => e.1) := rfl
    rw [ek]
    refine lc_filL (enc := fun e : D × D => e.1) (g := fun e => e.1) (p := fun _ => false) (by simp; omega) ?_ ?_
    · intro e hm
      obtain ⟨P, a, b, rfl, ha, hb⟩ := he e hm
      refine ⟨_, rfl, ?_, fun q => by simp at q⟩
      have hv : ∃ a b, atKV kvs (kS (pth tol P 3 lo hi)) = some (.tup [.int a, .int b]) ∧ (fin tol P 3 lo hi).1 ≤ a ∧ b ≤ (fin tol P 3 lo hi).2 := by
        rcases at_ent he P with ⟨_, q⟩ | q
        · exact absurd rfl (q _ hm)
        · exact q
      obtain ⟨a, b, q, qa, qb⟩ := hv
      have fw := fin_width (P := P) t1 3 lo hi h1 hw
      have nt : ¬ tol < b - a := by omega
      simp [kd]
      rw [k_IxF2 (key_str _) (kS_deep _) q]
      simp
      rw [k_IxF2 (key_str _) (kS_deep _) q]
      simp [nt]
    · have e0 : eqD (.lst []) (.lst []) = some (.bl true) := eq_nil rfl
      have ef : kvs.filter (fun _ => false) = [] := List.filter_eq_nil_iff.mpr (by simp)
      rw [ef]
      simp [e0]
end
end K18
namespace K18
open PySem PySem.Spec PyProof.Rows L2 LamX DLH DL
section
variable {m : Mem} {lo hi tol many P : Int} {d : D} {xs : List D} {kvs : List (D × D)}
theorem k4 : kindOf 4 = Str.ofString "InvalidNumber +" := by decide
theorem k3 : kindOf 3 = Str.ofString "InvalidMachine +" := by decide
theorem scr_step (h0 : 0 ≤ lo) (h1 : lo ≤ hi) (h6 : hi ≤ 6) : (scr tol lo hi).length ≤ 3 ∧ ∀ y ∈ scr tol lo hi, stepB 3 y = true := by
  have hl := chs_len tol 3 lo hi
  have hs := chs_step (tol := tol) 3 3 lo hi (by omega) h0 h1 h6
  unfold scr
  cases hc : chs tol 3 lo hi with
  | nil => simp
  | cons y ys =>
    rw [hc] at hl hs
    refine ⟨by simp at hl ⊢; omega, fun z hz => ?_⟩
    simp only [List.mem_cons] at hz
    rcases hz with rfl | rfl | hz
    · simp [stepB, oneB, wh]; omega
    · simp [stepB, oneB, wh]; omega
    · exact hs z (by simpa using hz)
theorem scr_ok (h0 : 0 ≤ lo) (h1 : lo ≤ hi) (h6 : hi ≤ 6) : scriptB (.tup (scr tol lo hi)) = true ∧ gd 0 (.tup (scr tol lo hi)) = true := by
  obtain ⟨a, b⟩ := scr_step (tol := tol) h0 h1 h6
  refine ⟨?_, tup_gd (fun x hx => step_gd 3 x (b x hx)) (by omega)⟩
  simp only [scriptB, Bool.and_eq_true, decide_eq_true_eq, List.all_eq_true]
  exact ⟨by omega, b⟩
theorem P3_hi {x : Rg} (h : x.w + Rg.i01 x.b ≤ hi) : x.P3 ≤ 3 * hi := by
  have hP : x.P3 ≤ 3 * x.w + 3 * Rg.i01 x.b := by
    unfold Rg.P3
    cases x.b <;> simp [Rg.i01]
    split <;> (try split) <;> omega
  omega
theorem scr_fate {x : Rg} (v : Rg.Vd x) (h0 : 0 ≤ lo) (h1 : lo ≤ hi) (h6 : hi ≤ 6) (t1 : 1 ≤ tol) (w1 : lo ≤ x.w) (w2 : x.w + Rg.i01 x.b ≤ hi) :
    (Ft.fate x (scr tol lo hi)).told = (pth tol x.P3 3 lo hi).map .str ∧ (Ft.fate x (scr tol lo hi)).looks ≤ lookN tol 4 (hi - lo) := by
  have e8 : (2 : Int) ^ 3 = 8 := rfl
  have pl := pth_len (P := x.P3) t1 3 4 lo hi h1 (by omega) (by omega)
  have hP := P3_hi w2
  have hle := v.le
  by_cases c : hi - lo ≤ tol
  · have e1 : chs tol 3 lo hi = [] := by unfold chs; rw [if_pos c]
    have e2 : pth tol x.P3 3 lo hi = [] := by unfold pth; rw [if_pos c]
    have e3 : scr tol lo hi = [] := by unfold scr; rw [e1]
    rw [e2] at pl
    rw [e3, e2]
    exact ⟨rfl, pl⟩
  · have e1 : ∃ y, chs tol 3 lo hi = [y] := by unfold chs; rw [if_neg c]; exact ⟨_, rfl⟩
    obtain ⟨y, e1⟩ := e1
    have e3 : scr tol lo hi = .tup [.str "by", .int (-hi)] :: .tup [.str "by", .int hi] :: chs tol 3 lo hi := by unfold scr; rw [e1]
    have l1 : Rg.lagF Rg.fS (-hi) x = Rg.f0 := by
      have e := Rg.fsg_eq v (Rg.LK.k ((show Rg.LK Rg.fS from .inr (.inl ⟨rfl, rfl⟩)).add (-hi)))
      unfold Rg.lagF
      rw [if_neg (by omega), if_pos ⟨by omega, by rw [e, Rg.sg_np, Rg.add_at3, Rg.fS_at3]; omega⟩]
    have l2 : Rg.lagF Rg.f0 hi x = Rg.fP := by
      have e := Rg.fsg_eq v ((show Rg.LK Rg.f0 from .inl ⟨rfl, rfl⟩).less hi)
      unfold Rg.lagF
      rw [if_pos ⟨by omega, by rw [e, Rg.sg_nn, Rg.less_at3, Rg.add_at3, Rg.f0_at3]; omega⟩]
    have ef : Ft.fate x (scr tol lo hi) = (chs tol 3 lo hi).foldl (Ft.step x 3) ((Ft.new.turn x (-hi)).turn x hi) := by
      rw [e3]; rfl
    rw [ef]
    obtain ⟨a, b⟩ := chs_run (tol := tol) v 3 3 lo hi ((Ft.new.turn x (-hi)).turn x hi) (by omega) (by simp [Ft.turn, Ft.new]; omega) (by simp only [Ft.turn, Ft.new, l1, l2])
    rw [a, b]
    refine ⟨rfl, ?_⟩
    have : ((Ft.new.turn x (-hi)).turn x hi).looks = 0 := rfl
    omega
theorem measures_scr (h0 : 0 ≤ lo) (h1 : lo ≤ hi) (h6 : hi ≤ 6) (t1 : 1 ≤ tol) : G_law_measures [.d (.tup [.int lo, .int hi]), .d (.tup (scr tol lo hi)), .d (.int tol), .d (.int (lookN tol 4 (hi - lo)))] m = .ok (.d (.bl true)) m :=
  measures_e h0 h1 h6 t1 (scr_ok h0 h1 h6).1 (scr_ok h0 h1 h6).2 fun x v w1 w2 => scr_fate v h0 h1 h6 t1 w1 w2
theorem needed2_e {w : Int} (w0 : 0 ≤ w) (w6 : w ≤ 6) (t1 : 1 ≤ tol) (t6 : tol ≤ 6) : G_law_needed [.d (.int w), .d (.int tol)] m = .ok (.d (.int (lookN tol 4 w))) m := by
  rw [needed_e w0 w6 t1 t6, look_eq w0 w6 t1 t6]
/-! what is refused -/
theorem looks_num (h0 : 0 ≤ lo) (h1 : lo ≤ hi) (h6 : hi ≤ 6) (h : gd 0 d = true) (hb : wh 1 6 d = false) : G_looks_needed [.d (.tup [.int lo, .int hi]), .d d] m = .er ⟨er_InvalidNumber, none⟩ m := by
  unfold G_looks_needed
  refine run_er ?_
  simp [sem_looks_needed, sSeq, sDrop, sCall, aCons, aNil, sVar, sC, need_tol_num h0 h1 h6 h hb]
theorem meas_num (h0 : 0 ≤ lo) (h1 : lo ≤ hi) (h6 : hi ≤ 6) (h : gd 0 d = true) (hb : wh 1 6 d = false) : G_measuring [.d (.tup [.int lo, .int hi]), .d d] m = .er ⟨er_InvalidNumber, none⟩ m := by
  unfold G_measuring
  refine run_er ?_
  simp [sem_measuring, sSeq, sDrop, sCall, aCons, aNil, sVar, sC, need_tol_num h0 h1 h6 h hb]
theorem looks_mach {e : Vl} : G_looks_needed [.d (.lst [.int 0, .int 3]), e] m = .er ⟨er_InvalidMachine, none⟩ m := by
  unfold G_looks_needed
  refine run_er ?_
  simp [sem_looks_needed, sSeq, sDrop, sCall, aCons, aNil, sVar, sC, need_tol_mach]
theorem meas_mach {e : Vl} : G_measuring [.d (.lst [.int 0, .int 3]), e] m = .er ⟨er_InvalidMachine, none⟩ m := by
  unfold G_measuring
  refine run_er ?_
  simp [sem_measuring, sSeq, sDrop, sCall, aCons, aNil, sVar, sC, need_tol_mach]
noncomputable abbrev T2 : Tab := [(7, 2, G_looks_needed), (8, 2, G_measuring)]
theorem er_num {n : Nat} {x0 x1 x2 x3 x5 x6 x7 x10 x11 : Option Vl} (hn : n = 7 ∨ n = 8) (h0 : 0 ≤ lo) (h1 : lo ≤ hi) (h6 : hi ≤ 6) (h : gd 0 d = true) (hb : wh 1 6 d = false) :
    sCallL 8 T2 (aCons (sVar 4) (aCons (sVar 9) aNil)) [x0, x1, x2, x3, some (.d (.tup [.int lo, .int hi])), x5, x6, x7, some (.d (.fn n)), some (.d d), x10, x11] m = .er ⟨er_InvalidNumber, none⟩ m := by
  rcases hn with rfl | rfl
  · exact show sCall 2 G_looks_needed (aCons (sVar 4) (aCons (sVar 9) aNil)) _ m = _ from call_er rfl rfl (looks_num h0 h1 h6 h hb)
  · exact show sCall 2 G_measuring (aCons (sVar 4) (aCons (sVar 9) aNil)) _ m = _ from call_er rfl rfl (meas_num h0 h1 h6 h hb)
theorem er_mach {n : Nat} {x0 x1 x2 x3 x4 x5 x6 x7 x9 x10 x11 : Option Vl} (hn : n = 7 ∨ n = 8) :
    sCallL 8 T2 (aCons (sLst (aCons (sC (.int 0)) (aCons (sC (.int 3)) (aNil)))) (aCons (sC .non) (aNil))) [x0, x1, x2, x3, x4, x5, x6, x7, some (.d (.fn n)), x9, x10, x11] m = .er ⟨er_InvalidMachine, none⟩ m := by
  rcases hn with rfl | rfl
  · exact show sCall 2 G_looks_needed (aCons (sLst (aCons (sC (.int 0)) (aCons (sC (.int 3)) (aNil)))) (aCons (sC .non) (aNil))) _ m = _ from call_er rfl rfl looks_mach
  · exact show sCall 2 G_measuring (aCons (sLst (aCons (sC (.int 0)) (aCons (sC (.int 3)) (aNil)))) (aCons (sC .non) (aNil))) _ m = _ from call_er rfl rfl meas_mach
end
end K18
namespace K18
open PySem PySem.Spec PyProof.Rows L2 LamX DLH DL
theorem top : ∀ ns : List Int, ns.length ≤ 63 → ∃ m, G_law [.d (.scr ns)] [.tab 53 (lamQ "law")] = .ok (.d (.bl true)) m := by
  intro ns hl
  have h : (G_law [.d (.scr ns)] [.tab 53 (lamQ "law")]).wp fun v _ => v = .d (.bl true) := by
    unfold G_law
    rw [wp_run]
    simp [sem_law]
    generalize hc : (if 1 < if (ns.length : Int) < 5 then (ns.length : Int) else 5 then if (ns.length : Int) < 5 then (ns.length : Int) else 5 else 1) = c
    have c1 : 1 ≤ c ∧ c ≤ 5 := by subst hc; split <;> split <;> omega
    refine ⟨by omega, ?_⟩
    refine for_inv (fun rest ρ m => (∀ x ∈ rest, ∃ k : Nat, k ≤ 12 ∧ x = .int k) ∧ m[0]? = some (.tab 53 (lamQ "law")) ∧ ∃ x1 x2 x3 x4 x5 x6 x7 x8 x9 x10 x11, ρ = [some (.d (.scr ns)), x1, x2, x3, x4, x5, x6, x7, x8, x9, x10, x11]) ⟨?_, rfl, _, _, _, _, _, _, _, _, _, _, _, rfl⟩ ?_ ?_
    · intro x hx
      obtain ⟨k, hk, rfl⟩ := mem_rngD hx
      exact ⟨k, by omega, by simp⟩
    · rintro x rest ρ m ⟨hk, ht0, x1, x2, x3, x4, x5, x6, x7, x8, x9, x10, x11, rfl⟩
      obtain ⟨k, hk1, rfl⟩ := hk x (by simp)
      refine ⟨_, rfl, ?_⟩
      have hrest := fun y hy => hk y (List.mem_cons_of_mem _ hy)
      simp
      refine wp_mono (drum_ok (by omega) (by omega)) ?_
      rintro _ M ⟨rfl, g, s, hM, g0, g1, s0, s1⟩
      have hl0 : 0 < m.length := (List.getElem?_eq_some_iff.mp ht0).1
      have htM : M[0]? = some (.tab 53 (lamQ "law")) := by rw [hM, List.getElem?_append_left hl0]; exact ht0
      generalize hlv : m.length = l
      have h0 : Dr l M M := Dr.refl ⟨g, s, by subst hM hlv; simp, g0, g1, s0, s1⟩
      have htD : ∀ m' : Mem, Dr l M m' → m'[0]? = some (.tab 53 (lamQ "law")) := fun m' h => by rw [h.rest 0 (by omega)]; exact htM
      simp
      refine for_inv (fun rest2 ρ m' => Dr l M m' ∧ ∃ x3 x4 x5 x6 x7, ρ = [some (.d (.scr ns)), some (.d (.int k)), some (.p l), x3, x4, x5, x6, x7, x8, x9, x10, x11] ∧ (rest2 ≠ [] ∨ ∃ lo hi : Int, 0 ≤ lo ∧ lo ≤ hi ∧ hi ≤ 6 ∧ x4 = some (.d (.tup [.int lo, .int hi])))) ⟨h0, _, _, _, _, _, rfl, .inl fun h => absurd (congrArg List.length h) (by decide)⟩ ?_ ?_
      · rintro z rest2 ρ m3 ⟨h3, y3, y4, y5, y6, y7, rfl, _⟩
        refine ⟨_, rfl, ?_⟩
        simp
        refine wp_call (machine_ok h3) ?_
        rintro _ m4 ⟨lo, hi, rfl, l0, l1, l6⟩ h4
        simp
        refine wp_call (spin_ok h4 (by omega) (by omega)) ?_
        rintro _ m5 ⟨t, rfl, t0, t1⟩ h5
        simp
        have a1 := needed2_e (m := m5) (w := hi - lo) (tol := 1 + t) (by omega) (by omega) (by omega) (by omega)
        have a2 := looks_needed_e (m := m5) (lo := lo) (hi := hi) (tol := 1 + t) l0 l1 l6 (by omega) (by omega)
        have a3 := measuring_e (m := m5) (lo := lo) (hi := hi) (tol := 1 + t) l0 l1 l6 (by omega) (by omega)
        have a4 := measures_scr (m := m5) (lo := lo) (hi := hi) (tol := 1 + t) l0 l1 l6 (by omega)
        simp [a1, a2, a3, a4]
        exact ⟨h5, _, _, ⟨rfl, rfl⟩, .inr ⟨lo, l0, hi, l1, l6, rfl⟩⟩
      · rintro ρ m3 ⟨h3, y3, y4, y5, y6, y7, rfl, hg⟩
        rcases hg with hg | ⟨lo, hi, l0, l1, l6, rfl⟩
        · exact absurd rfl hg
        have ht3 := htD _ h3
        simp
        refine for_inv (fun rest3 ρ m' => m' = m3 ∧ (∀ x ∈ rest3, x = .fn 7 ∨ x = .fn 8) ∧ ∃ x8 x9, ρ = [some (.d (.scr ns)), some (.d (.int k)), some (.p l), y3, some (.d (.tup [.int lo, .int hi])), y5, y6, y7, x8, x9, x10, x11]) ⟨rfl, by simp, _, _, rfl⟩ ?_ ?_
        · rintro d rest3 ρ m' ⟨rfl, hd, z8, z9, rfl⟩
          have hf := hd d (by simp)
          have hd' := fun y hy => hd y (List.mem_cons_of_mem _ hy)
          have hfn : ∃ n, (n = 7 ∨ n = 8) ∧ d = .fn n := by rcases hf with rfl | rfl <;> exact ⟨_, by omega, rfl⟩
          obtain ⟨n, hn, rfl⟩ := hfn
          refine ⟨_, rfl, ?_⟩
          simp
          refine for_inv (fun rest4 ρ m5 => m5 = m' ∧ (∀ x ∈ rest4, gd 0 x = true ∧ wh 1 6 x = false) ∧ ∃ x9, ρ = [some (.d (.scr ns)), some (.d (.int k)), some (.p l), y3, some (.d (.tup [.int lo, .int hi])), y5, y6, y7, some (.d (.fn n)), x9, x10, x11]) ⟨rfl, ?_, _, rfl⟩ ?_ ?_
          · intro x hx
            simp at hx
            rcases hx with rfl | rfl | rfl | rfl | rfl <;> exact ⟨by decide, by decide⟩
          · rintro d rest4 ρ m5 ⟨rfl, hd, z9, rfl⟩
            obtain ⟨d1, d2⟩ := hd d (by simp)
            refine ⟨_, rfl, ?_⟩
            have er := lam_er (q := lamQ "law") (eb := eb) (es := es) (n := 53) (l := 0) (m := m5) (c := 4) ht3 (er_num (x0 := some (.d (.scr ns))) (x1 := some (.d (.int k))) (x2 := some (.p l)) (x3 := y3) (x5 := y5) (x6 := y6) (x7 := y7) (x10 := x10) (x11 := x11) (m := m5) hn l0 l1 l6 d1 d2) (by decide)
            simp [er, k4]
            exact fun y hy => hd y (by simp [hy])
          · rintro ρ m5 ⟨rfl, _, z9, rfl⟩
            have er := lam_er (q := lamQ "law") (eb := eb) (es := es) (n := 53) (l := 0) (m := m5) (c := 3) ht3 (er_mach (x0 := some (.d (.scr ns))) (x1 := some (.d (.int k))) (x2 := some (.p l)) (x3 := y3) (x4 := some (.d (.tup [.int lo, .int hi]))) (x5 := y5) (x6 := y6) (x7 := y7) (x9 := z9) (x10 := x10) (x11 := x11) (m := m5) hn) (by decide)
            simp [er, k3]
            exact fun y hy => hd' y hy
        · rintro ρ m' ⟨rfl, _, z8, z9, rfl⟩
          simp
          exact ⟨hrest, ht3⟩
    · rintro ρ m ⟨_, _, x1, x2, x3, x4, x5, x6, x7, x8, x9, x10, x11, rfl⟩
      simp
      have a3 := fun m' : Mem => measuring_e (m := m') (lo := 0) (hi := 6) (tol := 1) (by omega) (by omega) (by omega) (by omega) (by omega)
      have a4 := fun m' : Mem => measures_scr (m := m') (lo := 0) (hi := 6) (tol := 1) (by omega) (by omega) (by omega) (by omega)
      have e3 : lookN 1 4 (6 - 0) = 3 := by decide
      rewrite [e3] at a4
      generalize G_law_measures = GM at a4 ⊢
      generalize G_measuring = GS at a3 ⊢
      refine for_inv (fun rest ρ m' => m' = m ∧ (∀ x ∈ rest, ∃ k : Nat, k < 7 ∧ x = .int k) ∧ ∃ x10 x11, ρ = [some (.d (.scr ns)), x1, x2, x3, x4, x5, x6, x7, x8, x9, x10, x11]) ⟨rfl, ?_, _, _, rfl⟩ ?_ ?_
      · intro x hx
        obtain ⟨k, hk, rfl⟩ := mem_rngD hx
        exact ⟨k, by omega, by simp⟩
      · rintro d rest ρ m' ⟨rfl, hd, x10, x11, rfl⟩
        obtain ⟨a, ha, rfl⟩ := hd d (by simp)
        have hd' := fun y hy => hd y (List.mem_cons_of_mem _ hy)
        refine ⟨_, rfl, ?_⟩
        simp
        refine ⟨by omega, ?_⟩
        refine for_inv (fun rest2 ρ m2 => m2 = m' ∧ (∀ x ∈ rest2, ∃ b : Int, (a : Int) ≤ b ∧ b < 7 ∧ x = .int b) ∧ ∃ x11, ρ = [some (.d (.scr ns)), x1, x2, x3, x4, x5, x6, x7, x8, x9, some (.d (.int a)), x11]) ⟨rfl, ?_, _, rfl⟩ ?_ ?_
        · intro x hx
          obtain ⟨i, hi, rfl⟩ := mem_rngE hx
          exact ⟨_, by omega, by omega, rfl⟩
        · rintro d rest2 ρ m2 ⟨rfl, hb, z11, rfl⟩
          obtain ⟨b, b1, b2, rfl⟩ := hb d (by simp)
          refine ⟨_, rfl, ?_⟩
          have a1 := needed2_e (m := m2) (w := b - a) (tol := 1) (by omega) (by omega) (by omega) (by omega)
          have a2 := looks_needed_e (m := m2) (lo := a) (hi := b) (tol := 1) (by omega) (by omega) (by omega) (by omega) (by omega)
          simp [a1, a2]
          exact fun y hy => hb y (by simp [hy])
        · rintro ρ m2 ⟨rfl, _, z11, rfl⟩
          simp
          exact hd'
      · rintro ρ m' ⟨rfl, _, x10, x11, rfl⟩
        simp [a3, a4]
  obtain ⟨v, m, e, rfl⟩ := wp_iff.mp h
  exact ⟨m, e⟩
end K18
namespace K18
open PySem PySem.Spec PyProof.Rows L2 LamX DLH DL
theorem all_mk {l : PySem.W.OpenLaw} {w : World} {K : PySem.W.Frag} {h : Heap} {mg : Str → Option Value} {fa : Addr} (KX : K.In h) (hN : h.Ns mainGlobals mg) (hfa : mg "law" = some (.ref fa))
    {f0 f1 f2 f3 f4 f5 f6 f7 f8 f9 f10 f11 f12 f13 f14 f15 f16 f17 f18 f19 f20 f21 f22 f23 f24 f25 f26 f27 f28 f29 f30 f31 f32 f33 f34 f35 f36 f37 f38 f39 : Addr} {oc0 kV0 dc0 pm0 cd0 ct0 oc1 kV1 dc1 pm1 cd1 ct1 oc2 kV2 dc2 pm2 cd2 ct2 oc3 kV3 dc3 pm3 cd3 ct3 oc4 kV4 dc4 pm4 cd4 ct4 oc5 kV5 dc5 pm5 cd5 ct5 oc6 kV6 dc6 pm6 cd6 ct6 oc7 kV7 dc7 pm7 cd7 ct7 oc8 kV8 dc8 pm8 cd8 ct8 oc9 kV9 dc9 pm9 cd9 ct9 oc10 kV10 dc10 pm10 cd10 ct10 oc11 kV11 dc11 pm11 cd11 ct11 oc12 kV12 dc12 pm12 cd12 ct12 oc13 kV13 dc13 pm13 cd13 ct13 oc14 kV14 dc14 pm14 cd14 ct14 oc15 kV15 dc15 pm15 cd15 ct15 oc16 kV16 dc16 pm16 cd16 ct16 oc17 kV17 dc17 pm17 cd17 ct17 oc18 kV18 dc18 pm18 cd18 ct18 oc19 kV19 dc19 pm19 cd19 ct19 oc20 kV20 dc20 pm20 cd20 ct20 oc21 kV21 dc21 pm21 cd21 ct21 oc22 kV22 dc22 pm22 cd22 ct22 oc23 kV23 dc23 pm23 cd23 ct23 oc24 kV24 dc24 pm24 cd24 ct24 oc25 kV25 dc25 pm25 cd25 ct25 oc26 kV26 dc26 pm26 cd26 ct26 oc27 kV27 dc27 pm27 cd27 ct27 oc28 kV28 dc28 pm28 cd28 ct28 oc29 kV29 dc29 pm29 cd29 ct29 oc30 kV30 dc30 pm30 cd30 ct30 oc31 kV31 dc31 pm31 cd31 ct31 oc32 kV32 dc32 pm32 cd32 ct32 oc33 kV33 dc33 pm33 cd33 ct33 oc34 kV34 dc34 pm34 cd34 ct34 oc35 kV35 dc35 pm35 cd35 ct35 oc36 kV36 dc36 pm36 cd36 ct36 oc37 kV37 dc37 pm37 cd37 ct37 oc38 kV38 dc38 pm38 cd38 ct38 oc39 kV39 dc39 pm39 cd39 ct39 : Value} {od0 an0 od1 an1 od2 an2 od3 an3 od4 an4 od5 an5 od6 an6 od7 an7 od8 an8 od9 an9 od10 an10 od11 an11 od12 an12 od13 an13 od14 an14 od15 an15 od16 an16 od17 an17 od18 an18 od19 an19 od20 an20 od21 an21 od22 an22 od23 an23 od24 an24 od25 an25 od26 an26 od27 an27 od28 an28 od29 an29 od30 an30 od31 an31 od32 an32 od33 an33 od34 an34 od35 an35 od36 an36 od37 an37 od38 an38 od39 an39 : Option Addr} {sl0 sl1 sl2 sl3 sl4 sl5 sl6 sl7 sl8 sl9 sl10 sl11 sl12 sl13 sl14 sl15 sl16 sl17 sl18 sl19 sl20 sl21 sl22 sl23 sl24 sl25 sl26 sl27 sl28 sl29 sl30 sl31 sl32 sl33 sl34 sl35 sl36 sl37 sl38 sl39 : Array (Option Value)}
    {fE0 fE1 fE2 fE3 fE4 fE5 fE6 fE7 fE8 fE9 fE10 fE11 fE12 : Addr}
    {cT0 pT0 : Addr}
    {t_MOST_PLAY : Tok}
    (a0 : PySem.W.nsIn K mainGlobals "is_int" = some (some (.ref f0)))
    (l0 : K.lookup f0 = some ⟨oc0, od0, .func (PySem.W.fnOf "is_int" "is_int" (defArgs s_is_int) (defBody s_is_int) (defScope s_is_int) .none kV0 dc0 pm0 an0 cd0 ct0), sl0⟩)
    (c0 : PySem.W.codeIn K cd0 "is_int" = true)
    (k0 : PySem.W.keepIn K (.ref f0) = true)
    (a1 : PySem.W.nsIn K mainGlobals "is_machine" = some (some (.ref f1)))
    (l1 : K.lookup f1 = some ⟨oc1, od1, .func (PySem.W.fnOf "is_machine" "is_machine" (defArgs s_is_machine) (defBody s_is_machine) (defScope s_is_machine) .none kV1 dc1 pm1 an1 cd1 ct1), sl1⟩)
    (c1 : PySem.W.codeIn K cd1 "is_machine" = true)
    (k1 : PySem.W.keepIn K (.ref f1) = true)
    (a2 : PySem.W.nsIn K mainGlobals "need_machine" = some (some (.ref f2)))
    (l2 : K.lookup f2 = some ⟨oc2, od2, .func (PySem.W.fnOf "need_machine" "need_machine" (defArgs s_need_machine) (defBody s_need_machine) (defScope s_need_machine) .none kV2 dc2 pm2 an2 cd2 ct2), sl2⟩)
    (c2 : PySem.W.codeIn K cd2 "need_machine" = true)
    (k2 : PySem.W.keepIn K (.ref f2) = true)
    (a3 : PySem.W.nsIn K mainGlobals "need_number" = some (some (.ref f3)))
    (l3 : K.lookup f3 = some ⟨oc3, od3, .func (PySem.W.fnOf "need_number" "need_number" (defArgs s_need_number) (defBody s_need_number) (defScope s_need_number) .none kV3 dc3 pm3 an3 cd3 ct3), sl3⟩)
    (c3 : PySem.W.codeIn K cd3 "need_number" = true)
    (k3 : PySem.W.keepIn K (.ref f3) = true)
    (a4 : PySem.W.nsIn K mainGlobals "looks_for" = some (some (.ref f4)))
    (l4 : K.lookup f4 = some ⟨oc4, od4, .func (PySem.W.fnOf "looks_for" "looks_for" (defArgs s_looks_for) (defBody s_looks_for) (defScope s_looks_for) .none kV4 dc4 pm4 an4 cd4 ct4), sl4⟩)
    (c4 : PySem.W.codeIn K cd4 "looks_for" = true)
    (k4 : PySem.W.keepIn K (.ref f4) = true)
    (a5 : PySem.W.nsIn K mainGlobals "choices" = some (some (.ref f5)))
    (l5 : K.lookup f5 = some ⟨oc5, od5, .func (PySem.W.fnOf "choices" "choices" (defArgs s_choices) (defBody s_choices) (defScope s_choices) .none kV5 dc5 pm5 an5 cd5 ct5), sl5⟩)
    (c5 : PySem.W.codeIn K cd5 "choices" = true)
    (k5 : PySem.W.keepIn K (.ref f5) = true)
    (a6 : PySem.W.nsIn K mainGlobals "need_tolerance" = some (some (.ref f6)))
    (l6 : K.lookup f6 = some ⟨oc6, od6, .func (PySem.W.fnOf "need_tolerance" "need_tolerance" (defArgs s_need_tolerance) (defBody s_need_tolerance) (defScope s_need_tolerance) .none kV6 dc6 pm6 an6 cd6 ct6), sl6⟩)
    (c6 : PySem.W.codeIn K cd6 "need_tolerance" = true)
    (k6 : PySem.W.keepIn K (.ref f6) = true)
    (a7 : PySem.W.nsIn K mainGlobals "looks_needed" = some (some (.ref f7)))
    (l7 : K.lookup f7 = some ⟨oc7, od7, .func (PySem.W.fnOf "looks_needed" "looks_needed" (defArgs s_looks_needed) (defBody s_looks_needed) (defScope s_looks_needed) .none kV7 dc7 pm7 an7 cd7 ct7), sl7⟩)
    (c7 : PySem.W.codeIn K cd7 "looks_needed" = true)
    (k7 : PySem.W.keepIn K (.ref f7) = true)
    (a8 : PySem.W.nsIn K mainGlobals "measuring" = some (some (.ref f8)))
    (l8 : K.lookup f8 = some ⟨oc8, od8, .func (PySem.W.fnOf "measuring" "measuring" (defArgs s_measuring) (defBody s_measuring) (defScope s_measuring) .none kV8 dc8 pm8 an8 cd8 ct8), sl8⟩)
    (c8 : PySem.W.codeIn K cd8 "measuring" = true)
    (k8 : PySem.W.keepIn K (.ref f8) = true)
    (a9 : PySem.W.nsIn K mainGlobals "_law_drum" = some (some (.ref f9)))
    (l9 : K.lookup f9 = some ⟨oc9, od9, .func (PySem.W.fnOf "_law_drum" "_law_drum" (defArgs s_law_drum) (defBody s_law_drum) (defScope s_law_drum) .none kV9 dc9 pm9 an9 cd9 ct9), sl9⟩)
    (c9 : PySem.W.codeIn K cd9 "_law_drum" = true)
    (k9 : PySem.W.keepIn K (.ref f9) = true)
    (a10 : PySem.W.nsIn K mainGlobals "_law_spin" = some (some (.ref f10)))
    (l10 : K.lookup f10 = some ⟨oc10, od10, .func (PySem.W.fnOf "_law_spin" "_law_spin" (defArgs s_law_spin) (defBody s_law_spin) (defScope s_law_spin) .none kV10 dc10 pm10 an10 cd10 ct10), sl10⟩)
    (c10 : PySem.W.codeIn K cd10 "_law_spin" = true)
    (k10 : PySem.W.keepIn K (.ref f10) = true)
    (a11 : PySem.W.nsIn K mainGlobals "_law_pick" = some (some (.ref f11)))
    (l11 : K.lookup f11 = some ⟨oc11, od11, .func (PySem.W.fnOf "_law_pick" "_law_pick" (defArgs s_law_pick) (defBody s_law_pick) (defScope s_law_pick) .none kV11 dc11 pm11 an11 cd11 ct11), sl11⟩)
    (c11 : PySem.W.codeIn K cd11 "_law_pick" = true)
    (k11 : PySem.W.keepIn K (.ref f11) = true)
    (a12 : PySem.W.nsIn K mainGlobals "_law_machine" = some (some (.ref f12)))
    (l12 : K.lookup f12 = some ⟨oc12, od12, .func (PySem.W.fnOf "_law_machine" "_law_machine" (defArgs s_law_machine) (defBody s_law_machine) (defScope s_law_machine) .none kV12 dc12 pm12 an12 cd12 ct12), sl12⟩)
    (c12 : PySem.W.codeIn K cd12 "_law_machine" = true)
    (k12 : PySem.W.keepIn K (.ref f12) = true)
    (a13 : PySem.W.nsIn K mainGlobals "_law_sign" = some (some (.ref f13)))
    (l13 : K.lookup f13 = some ⟨oc13, od13, .func (PySem.W.fnOf "_law_sign" "_law_sign" (defArgs s_law_sign) (defBody s_law_sign) (defScope s_law_sign) .none kV13 dc13 pm13 an13 cd13 ct13), sl13⟩)
    (c13 : PySem.W.codeIn K cd13 "_law_sign" = true)
    (k13 : PySem.W.keepIn K (.ref f13) = true)
    (a14 : PySem.W.nsIn K mainGlobals "_law_regions" = some (some (.ref f14)))
    (l14 : K.lookup f14 = some ⟨oc14, od14, .func (PySem.W.fnOf "_law_regions" "_law_regions" (defArgs s_law_regions) (defBody s_law_regions) (defScope s_law_regions) .none kV14 dc14 pm14 an14 cd14 ct14), sl14⟩)
    (c14 : PySem.W.codeIn K cd14 "_law_regions" = true)
    (k14 : PySem.W.keepIn K (.ref f14) = true)
    (a15 : PySem.W.nsIn K mainGlobals "_law_orders" = some (some (.ref f15)))
    (l15 : K.lookup f15 = some ⟨oc15, od15, .func (PySem.W.fnOf "_law_orders" "_law_orders" (defArgs s_law_orders) (defBody s_law_orders) (defScope s_law_orders) .none kV15 dc15 pm15 an15 cd15 ct15), sl15⟩)
    (c15 : PySem.W.codeIn K cd15 "_law_orders" = true)
    (k15 : PySem.W.keepIn K (.ref f15) = true)
    (a16 : PySem.W.nsIn K mainGlobals "_law_form_sign" = some (some (.ref f16)))
    (l16 : K.lookup f16 = some ⟨oc16, od16, .func (PySem.W.fnOf "_law_form_sign" "_law_form_sign" (defArgs s_law_form_sign) (defBody s_law_form_sign) (defScope s_law_form_sign) .none kV16 dc16 pm16 an16 cd16 ct16), sl16⟩)
    (c16 : PySem.W.codeIn K cd16 "_law_form_sign" = true)
    (k16 : PySem.W.keepIn K (.ref f16) = true)
    (a17 : PySem.W.nsIn K mainGlobals "_law_less_form" = some (some (.ref f17)))
    (l17 : K.lookup f17 = some ⟨oc17, od17, .func (PySem.W.fnOf "_law_less_form" "_law_less_form" (defArgs s_law_less_form) (defBody s_law_less_form) (defScope s_law_less_form) .none kV17 dc17 pm17 an17 cd17 ct17), sl17⟩)
    (c17 : PySem.W.codeIn K cd17 "_law_less_form" = true)
    (k17 : PySem.W.keepIn K (.ref f17) = true)
    (a18 : PySem.W.nsIn K mainGlobals "_law_lag" = some (some (.ref f18)))
    (l18 : K.lookup f18 = some ⟨oc18, od18, .func (PySem.W.fnOf "_law_lag" "_law_lag" (defArgs s_law_lag) (defBody s_law_lag) (defScope s_law_lag) .none kV18 dc18 pm18 an18 cd18 ct18), sl18⟩)
    (c18 : PySem.W.codeIn K cd18 "_law_lag" = true)
    (k18 : PySem.W.keepIn K (.ref f18) = true)
    (a19 : PySem.W.nsIn K mainGlobals "_law_turned" = some (some (.ref f19)))
    (l19 : K.lookup f19 = some ⟨oc19, od19, .func (PySem.W.fnOf "_law_turned" "_law_turned" (defArgs s_law_turned) (defBody s_law_turned) (defScope s_law_turned) .none kV19 dc19 pm19 an19 cd19 ct19), sl19⟩)
    (c19 : PySem.W.codeIn K cd19 "_law_turned" = true)
    (k19 : PySem.W.keepIn K (.ref f19) = true)
    (a20 : PySem.W.nsIn K mainGlobals "_law_seen" = some (some (.ref f20)))
    (l20 : K.lookup f20 = some ⟨oc20, od20, .func (PySem.W.fnOf "_law_seen" "_law_seen" (defArgs s_law_seen) (defBody s_law_seen) (defScope s_law_seen) .none kV20 dc20 pm20 an20 cd20 ct20), sl20⟩)
    (c20 : PySem.W.codeIn K cd20 "_law_seen" = true)
    (k20 : PySem.W.keepIn K (.ref f20) = true)
    (a21 : PySem.W.nsIn K mainGlobals "_law_looked" = some (some (.ref f21)))
    (l21 : K.lookup f21 = some ⟨oc21, od21, .func (PySem.W.fnOf "_law_looked" "_law_looked" (defArgs s_law_looked) (defBody s_law_looked) (defScope s_law_looked) .none kV21 dc21 pm21 an21 cd21 ct21), sl21⟩)
    (c21 : PySem.W.codeIn K cd21 "_law_looked" = true)
    (k21 : PySem.W.keepIn K (.ref f21) = true)
    (a22 : PySem.W.nsIn K mainGlobals "_law_repeat" = some (some (.ref f22)))
    (l22 : K.lookup f22 = some ⟨oc22, od22, .func (PySem.W.fnOf "_law_repeat" "_law_repeat" (defArgs s_law_repeat) (defBody s_law_repeat) (defScope s_law_repeat) .none kV22 dc22 pm22 an22 cd22 ct22), sl22⟩)
    (c22 : PySem.W.codeIn K cd22 "_law_repeat" = true)
    (k22 : PySem.W.keepIn K (.ref f22) = true)
    (a23 : PySem.W.nsIn K mainGlobals "_law_until" = some (some (.ref f23)))
    (l23 : K.lookup f23 = some ⟨oc23, od23, .func (PySem.W.fnOf "_law_until" "_law_until" (defArgs s_law_until) (defBody s_law_until) (defScope s_law_until) .none kV23 dc23 pm23 an23 cd23 ct23), sl23⟩)
    (c23 : PySem.W.codeIn K cd23 "_law_until" = true)
    (k23 : PySem.W.keepIn K (.ref f23) = true)
    (a24 : PySem.W.nsIn K mainGlobals "_law_done" = some (some (.ref f24)))
    (l24 : K.lookup f24 = some ⟨oc24, od24, .func (PySem.W.fnOf "_law_done" "_law_done" (defArgs s_law_done) (defBody s_law_done) (defScope s_law_done) .none kV24 dc24 pm24 an24 cd24 ct24), sl24⟩)
    (c24 : PySem.W.codeIn K cd24 "_law_done" = true)
    (k24 : PySem.W.keepIn K (.ref f24) = true)
    (a25 : PySem.W.nsIn K mainGlobals "_law_all_done" = some (some (.ref f25)))
    (l25 : K.lookup f25 = some ⟨oc25, od25, .func (PySem.W.fnOf "_law_all_done" "_law_all_done" (defArgs s_law_all_done) (defBody s_law_all_done) (defScope s_law_all_done) .none kV25 dc25 pm25 an25 cd25 ct25), sl25⟩)
    (c25 : PySem.W.codeIn K cd25 "_law_all_done" = true)
    (k25 : PySem.W.keepIn K (.ref f25) = true)
    (a26 : PySem.W.nsIn K mainGlobals "_law_fate" = some (some (.ref f26)))
    (l26 : K.lookup f26 = some ⟨oc26, od26, .func (PySem.W.fnOf "_law_fate" "_law_fate" (defArgs s_law_fate) (defBody s_law_fate) (defScope s_law_fate) .none kV26 dc26 pm26 an26 cd26 ct26), sl26⟩)
    (c26 : PySem.W.codeIn K cd26 "_law_fate" = true)
    (k26 : PySem.W.keepIn K (.ref f26) = true)
    (a27 : PySem.W.nsIn K mainGlobals "_law_is_whole" = some (some (.ref f27)))
    (l27 : K.lookup f27 = some ⟨oc27, od27, .func (PySem.W.fnOf "_law_is_whole" "_law_is_whole" (defArgs s_law_is_whole) (defBody s_law_is_whole) (defScope s_law_is_whole) .none kV27 dc27 pm27 an27 cd27 ct27), sl27⟩)
    (c27 : PySem.W.codeIn K cd27 "_law_is_whole" = true)
    (k27 : PySem.W.keepIn K (.ref f27) = true)
    (a28 : PySem.W.nsIn K mainGlobals "_law_is_turn" = some (some (.ref f28)))
    (l28 : K.lookup f28 = some ⟨oc28, od28, .func (PySem.W.fnOf "_law_is_turn" "_law_is_turn" (defArgs s_law_is_turn) (defBody s_law_is_turn) (defScope s_law_is_turn) .none kV28 dc28 pm28 an28 cd28 ct28), sl28⟩)
    (c28 : PySem.W.codeIn K cd28 "_law_is_turn" = true)
    (k28 : PySem.W.keepIn K (.ref f28) = true)
    (a29 : PySem.W.nsIn K mainGlobals "_law_is_word" = some (some (.ref f29)))
    (l29 : K.lookup f29 = some ⟨oc29, od29, .func (PySem.W.fnOf "_law_is_word" "_law_is_word" (defArgs s_law_is_word) (defBody s_law_is_word) (defScope s_law_is_word) .none kV29 dc29 pm29 an29 cd29 ct29), sl29⟩)
    (c29 : PySem.W.codeIn K cd29 "_law_is_word" = true)
    (k29 : PySem.W.keepIn K (.ref f29) = true)
    (a30 : PySem.W.nsIn K mainGlobals "_law_is_inner" = some (some (.ref f30)))
    (l30 : K.lookup f30 = some ⟨oc30, od30, .func (PySem.W.fnOf "_law_is_inner" "_law_is_inner" (defArgs s_law_is_inner) (defBody s_law_is_inner) (defScope s_law_is_inner) .none kV30 dc30 pm30 an30 cd30 ct30), sl30⟩)
    (c30 : PySem.W.codeIn K cd30 "_law_is_inner" = true)
    (k30 : PySem.W.keepIn K (.ref f30) = true)
    (a31 : PySem.W.nsIn K mainGlobals "_law_is_long" = some (some (.ref f31)))
    (l31 : K.lookup f31 = some ⟨oc31, od31, .func (PySem.W.fnOf "_law_is_long" "_law_is_long" (defArgs s_law_is_long) (defBody s_law_is_long) (defScope s_law_is_long) .none kV31 dc31 pm31 an31 cd31 ct31), sl31⟩)
    (c31 : PySem.W.codeIn K cd31 "_law_is_long" = true)
    (k31 : PySem.W.keepIn K (.ref f31) = true)
    (a32 : PySem.W.nsIn K mainGlobals "_law_is_step" = some (some (.ref f32)))
    (l32 : K.lookup f32 = some ⟨oc32, od32, .func (PySem.W.fnOf "_law_is_step" "_law_is_step" (defArgs s_law_is_step) (defBody s_law_is_step) (defScope s_law_is_step) .none kV32 dc32 pm32 an32 cd32 ct32), sl32⟩)
    (c32 : PySem.W.codeIn K cd32 "_law_is_step" = true)
    (k32 : PySem.W.keepIn K (.ref f32) = true)
    (a33 : PySem.W.nsIn K mainGlobals "_law_is_script" = some (some (.ref f33)))
    (l33 : K.lookup f33 = some ⟨oc33, od33, .func (PySem.W.fnOf "_law_is_script" "_law_is_script" (defArgs s_law_is_script) (defBody s_law_is_script) (defScope s_law_is_script) .none kV33 dc33 pm33 an33 cd33 ct33), sl33⟩)
    (c33 : PySem.W.codeIn K cd33 "_law_is_script" = true)
    (k33 : PySem.W.keepIn K (.ref f33) = true)
    (a34 : PySem.W.nsIn K mainGlobals "_law_some_regions" = some (some (.ref f34)))
    (l34 : K.lookup f34 = some ⟨oc34, od34, .func (PySem.W.fnOf "_law_some_regions" "_law_some_regions" (defArgs s_law_some_regions) (defBody s_law_some_regions) (defScope s_law_some_regions) .none kV34 dc34 pm34 an34 cd34 ct34), sl34⟩)
    (c34 : PySem.W.codeIn K cd34 "_law_some_regions" = true)
    (k34 : PySem.W.keepIn K (.ref f34) = true)
    (a35 : PySem.W.nsIn K mainGlobals "_law_needed" = some (some (.ref f35)))
    (l35 : K.lookup f35 = some ⟨oc35, od35, .func (PySem.W.fnOf "_law_needed" "_law_needed" (defArgs s_law_needed) (defBody s_law_needed) (defScope s_law_needed) .none kV35 dc35 pm35 an35 cd35 ct35), sl35⟩)
    (c35 : PySem.W.codeIn K cd35 "_law_needed" = true)
    (k35 : PySem.W.keepIn K (.ref f35) = true)
    (a36 : PySem.W.nsIn K mainGlobals "_law_measures" = some (some (.ref f36)))
    (l36 : K.lookup f36 = some ⟨oc36, od36, .func (PySem.W.fnOf "_law_measures" "_law_measures" (defArgs s_law_measures) (defBody s_law_measures) (defScope s_law_measures) .none kV36 dc36 pm36 an36 cd36 ct36), sl36⟩)
    (c36 : PySem.W.codeIn K cd36 "_law_measures" = true)
    (k36 : PySem.W.keepIn K (.ref f36) = true)
    (a37 : PySem.W.nsIn K mainGlobals "law" = some (some (.ref f37)))
    (l37 : K.lookup f37 = some ⟨oc37, od37, .func (PySem.W.fnOf "law" "law" (defArgs s_law) (defBody s_law) (defScope s_law) .none kV37 dc37 pm37 an37 cd37 ct37), sl37⟩)
    (c37 : PySem.W.codeIn K cd37 "law" = true)
    (k37 : PySem.W.keepIn K (.ref f37) = true)
    (a38 : PySem.W.nsIn K mainGlobals "_law_kinds" = some (some (.ref f38)))
    (l38 : K.lookup f38 = some ⟨oc38, od38, .func (PySem.W.fnOf "_law_kinds" "_law_kinds" (defArgs s_law_kinds) (defBody s_law_kinds) (defScope s_law_kinds) .none kV38 dc38 pm38 an38 cd38 ct38), sl38⟩)
    (c38 : PySem.W.codeIn K cd38 "_law_kinds" = true)
    (k38 : PySem.W.keepIn K (.ref f38) = true)
    (a39 : PySem.W.nsIn K mainGlobals "_law_call" = some (some (.ref f39)))
    (l39 : K.lookup f39 = some ⟨oc39, od39, .func (PySem.W.fnOf "_law_call" "_law_call" (defArgs s_law_call) (defBody s_law_call) (defScope s_law_call) .none kV39 dc39 pm39 an39 cd39 ct39), sl39⟩)
    (c39 : PySem.W.codeIn K cd39 "_law_call" = true)
    (k39 : PySem.W.keepIn K (.ref f39) = true)
    (e0 : PySem.W.nsIn K mainGlobals "InvalidAnswers" = some (some (.ref fE0)))
    (e1 : PySem.W.nsIn K mainGlobals "InvalidFact" = some (some (.ref fE1)))
    (e2 : PySem.W.nsIn K mainGlobals "InvalidIndex" = some (some (.ref fE2)))
    (e3 : PySem.W.nsIn K mainGlobals "InvalidMachine" = some (some (.ref fE3)))
    (e4 : PySem.W.nsIn K mainGlobals "InvalidNumber" = some (some (.ref fE4)))
    (e5 : PySem.W.nsIn K mainGlobals "InvalidPlay" = some (some (.ref fE5)))
    (e6 : PySem.W.nsIn K mainGlobals "InvalidRegion" = some (some (.ref fE6)))
    (e7 : PySem.W.nsIn K mainGlobals "InvalidRow" = some (some (.ref fE7)))
    (e8 : PySem.W.nsIn K mainGlobals "InvalidScript" = some (some (.ref fE8)))
    (e9 : PySem.W.nsIn K mainGlobals "InvalidSlack" = some (some (.ref fE9)))
    (e10 : PySem.W.nsIn K mainGlobals "InvalidText" = some (some (.ref fE10)))
    (e11 : PySem.W.nsIn K mainGlobals "NothingToUndo" = some (some (.ref fE11)))
    (e12 : PySem.W.nsIn K mainGlobals "PlayError" = some (some (.ref fE12)))
    (xn : PySem.W.specialIn K (.builtin "object.__class__") "__get__" = some (some (.builtin "getset_descriptor.__get__")))
    (xt : PySem.W.takesIn K (.builtin "object.__class__") = some true)
    (xb0 : PySem.W.subIn K (.ref fE0) (.type "BaseException") = some true)
    (xd0 : PySem.W.hasDictIn K fE0 = true)
    (xy0 : PySem.W.typeIn K (.ref fE0) = some (.type "type"))
    (xb1 : PySem.W.subIn K (.ref fE1) (.type "BaseException") = some true)
    (xd1 : PySem.W.hasDictIn K fE1 = true)
    (xy1 : PySem.W.typeIn K (.ref fE1) = some (.type "type"))
    (xb2 : PySem.W.subIn K (.ref fE2) (.type "BaseException") = some true)
    (xd2 : PySem.W.hasDictIn K fE2 = true)
    (xy2 : PySem.W.typeIn K (.ref fE2) = some (.type "type"))
    (xb3 : PySem.W.subIn K (.ref fE3) (.type "BaseException") = some true)
    (xd3 : PySem.W.hasDictIn K fE3 = true)
    (xy3 : PySem.W.typeIn K (.ref fE3) = some (.type "type"))
    (xb4 : PySem.W.subIn K (.ref fE4) (.type "BaseException") = some true)
    (xd4 : PySem.W.hasDictIn K fE4 = true)
    (xy4 : PySem.W.typeIn K (.ref fE4) = some (.type "type"))
    (xb5 : PySem.W.subIn K (.ref fE5) (.type "BaseException") = some true)
    (xd5 : PySem.W.hasDictIn K fE5 = true)
    (xy5 : PySem.W.typeIn K (.ref fE5) = some (.type "type"))
    (xb6 : PySem.W.subIn K (.ref fE6) (.type "BaseException") = some true)
    (xd6 : PySem.W.hasDictIn K fE6 = true)
    (xy6 : PySem.W.typeIn K (.ref fE6) = some (.type "type"))
    (xb7 : PySem.W.subIn K (.ref fE7) (.type "BaseException") = some true)
    (xd7 : PySem.W.hasDictIn K fE7 = true)
    (xy7 : PySem.W.typeIn K (.ref fE7) = some (.type "type"))
    (xb8 : PySem.W.subIn K (.ref fE8) (.type "BaseException") = some true)
    (xd8 : PySem.W.hasDictIn K fE8 = true)
    (xy8 : PySem.W.typeIn K (.ref fE8) = some (.type "type"))
    (xb9 : PySem.W.subIn K (.ref fE9) (.type "BaseException") = some true)
    (xd9 : PySem.W.hasDictIn K fE9 = true)
    (xy9 : PySem.W.typeIn K (.ref fE9) = some (.type "type"))
    (xb10 : PySem.W.subIn K (.ref fE10) (.type "BaseException") = some true)
    (xd10 : PySem.W.hasDictIn K fE10 = true)
    (xy10 : PySem.W.typeIn K (.ref fE10) = some (.type "type"))
    (xb11 : PySem.W.subIn K (.ref fE11) (.type "BaseException") = some true)
    (xd11 : PySem.W.hasDictIn K fE11 = true)
    (xy11 : PySem.W.typeIn K (.ref fE11) = some (.type "type"))
    (xb12 : PySem.W.subIn K (.ref fE12) (.type "BaseException") = some true)
    (xd12 : PySem.W.hasDictIn K fE12 = true)
    (xy12 : PySem.W.typeIn K (.ref fE12) = some (.type "type"))
    (xq3 : PySem.W.excIn K fE3 [.type "ValueError", .type "Exception", .type "BaseException", .type "object"] "ValueError.__new__" = true)
    (xk3 : PySem.W.keepIn K (.ref fE3) = true)
    (xg3 : PySem.W.findIn K (.ref fE3) "__getattribute__" = some (some (.builtin "BaseException.__getattribute__")))
    (xh3 : PySem.W.findIn K (.ref fE3) "__getattr__" = some none)
    (xa3 : PySem.W.findIn K (.ref fE3) "__class__" = some (some (.builtin "object.__class__")))
    (xm3 : PySem.W.mroIn K fE3 (.type "object") = some true)
    (xs3_0 : PySem.W.subIn K (.ref fE3) (.ref fE0) = some false)
    (xs3_1 : PySem.W.subIn K (.ref fE3) (.ref fE1) = some false)
    (xs3_2 : PySem.W.subIn K (.ref fE3) (.ref fE2) = some false)
    (xs3_3 : PySem.W.subIn K (.ref fE3) (.ref fE3) = some true)
    (xs3_4 : PySem.W.subIn K (.ref fE3) (.ref fE4) = some false)
    (xs3_5 : PySem.W.subIn K (.ref fE3) (.ref fE5) = some false)
    (xs3_6 : PySem.W.subIn K (.ref fE3) (.ref fE6) = some false)
    (xs3_7 : PySem.W.subIn K (.ref fE3) (.ref fE7) = some false)
    (xs3_8 : PySem.W.subIn K (.ref fE3) (.ref fE8) = some false)
    (xs3_9 : PySem.W.subIn K (.ref fE3) (.ref fE9) = some false)
    (xs3_10 : PySem.W.subIn K (.ref fE3) (.ref fE10) = some false)
    (xs3_11 : PySem.W.subIn K (.ref fE3) (.ref fE11) = some false)
    (xs3_12 : PySem.W.subIn K (.ref fE3) (.ref fE12) = some true)
    (xv3 : PySem.W.subIn K (.ref fE3) (.type "ValueError") = some true)
    (xq4 : PySem.W.excIn K fE4 [.type "ValueError", .type "Exception", .type "BaseException", .type "object"] "ValueError.__new__" = true)
    (xk4 : PySem.W.keepIn K (.ref fE4) = true)
    (xg4 : PySem.W.findIn K (.ref fE4) "__getattribute__" = some (some (.builtin "BaseException.__getattribute__")))
    (xh4 : PySem.W.findIn K (.ref fE4) "__getattr__" = some none)
    (xa4 : PySem.W.findIn K (.ref fE4) "__class__" = some (some (.builtin "object.__class__")))
    (xm4 : PySem.W.mroIn K fE4 (.type "object") = some true)
    (xs4_0 : PySem.W.subIn K (.ref fE4) (.ref fE0) = some false)
    (xs4_1 : PySem.W.subIn K (.ref fE4) (.ref fE1) = some false)
    (xs4_2 : PySem.W.subIn K (.ref fE4) (.ref fE2) = some false)
    (xs4_3 : PySem.W.subIn K (.ref fE4) (.ref fE3) = some false)
    (xs4_4 : PySem.W.subIn K (.ref fE4) (.ref fE4) = some true)
    (xs4_5 : PySem.W.subIn K (.ref fE4) (.ref fE5) = some false)
    (xs4_6 : PySem.W.subIn K (.ref fE4) (.ref fE6) = some false)
    (xs4_7 : PySem.W.subIn K (.ref fE4) (.ref fE7) = some false)
    (xs4_8 : PySem.W.subIn K (.ref fE4) (.ref fE8) = some false)
    (xs4_9 : PySem.W.subIn K (.ref fE4) (.ref fE9) = some false)
    (xs4_10 : PySem.W.subIn K (.ref fE4) (.ref fE10) = some false)
    (xs4_11 : PySem.W.subIn K (.ref fE4) (.ref fE11) = some false)
    (xs4_12 : PySem.W.subIn K (.ref fE4) (.ref fE12) = some true)
    (xv4 : PySem.W.subIn K (.ref fE4) (.type "ValueError") = some true)
    (tb0 : PySem.W.tabIn K "law" = some (cT0, pT0))
    (th0 : PySem.W.codeHdIn K cT0 pT0 = true)
    (tn0 : K.lookup pT0 = none)
    (z_ValueError : PySem.W.nsIn K mainGlobals "ValueError" = some none)
    (z_abs : PySem.W.nsIn K mainGlobals "abs" = some none)
    (z_all : PySem.W.nsIn K mainGlobals "all" = some none)
    (z_bool : PySem.W.nsIn K mainGlobals "bool" = some none)
    (z_int : PySem.W.nsIn K mainGlobals "int" = some none)
    (z_isinstance : PySem.W.nsIn K mainGlobals "isinstance" = some none)
    (z_len : PySem.W.nsIn K mainGlobals "len" = some none)
    (z_max : PySem.W.nsIn K mainGlobals "max" = some none)
    (z_min : PySem.W.nsIn K mainGlobals "min" = some none)
    (z_range : PySem.W.nsIn K mainGlobals "range" = some none)
    (z_sorted : PySem.W.nsIn K mainGlobals "sorted" = some none)
    (z_str : PySem.W.nsIn K mainGlobals "str" = some none)
    (z_sum : PySem.W.nsIn K mainGlobals "sum" = some none)
    (z_tuple : PySem.W.nsIn K mainGlobals "tuple" = some none)
    (z_zip : PySem.W.nsIn K mainGlobals "zip" = some none)
    (g_MOST_PLAY : PySem.W.nsIn K mainGlobals "MOST_PLAY" = some (some (.int 6 t_MOST_PLAY))) (tg0 : h.get? pT0 = some (PySem.W.tabObj #[])) :
    LawAtS l w K (L2N.CX l.prog w) 22 63 "script" mg fa h := by
  have e := hfa.symm.trans (PySem.W.mg_of KX hN a37)
  cases e
  have ErG : ErrG K (fun j => ([f0, f1, f2, f3, f4, f5, f6, f7, f8, f9, f10, f11, f12, f13, f14, f15, f16, f17, f18, f19, f20, f21, f22, f23, f24, f25, f26, f27, f28, f29, f30, f31, f32, f33, f34, f35, f36, fa, f38, f39, fE0, fE1, fE2, fE3, fE4, fE5, fE6, fE7, fE8, fE9, fE10, fE11, fE12, pT0] : List Addr).getD (40 + j) 0) := ⟨fun j hj => match j, hj with | 0, _ => xb0 | 1, _ => xb1 | 2, _ => xb2 | 3, _ => xb3 | 4, _ => xb4 | 5, _ => xb5 | 6, _ => xb6 | 7, _ => xb7 | 8, _ => xb8 | 9, _ => xb9 | 10, _ => xb10 | 11, _ => xb11 | 12, _ => xb12, fun j hj => match j, hj with | 0, _ => xd0 | 1, _ => xd1 | 2, _ => xd2 | 3, _ => xd3 | 4, _ => xd4 | 5, _ => xd5 | 6, _ => xd6 | 7, _ => xd7 | 8, _ => xd8 | 9, _ => xd9 | 10, _ => xd10 | 11, _ => xd11 | 12, _ => xd12, fun j hj => match j, hj with | 0, _ => xy0 | 1, _ => xy1 | 2, _ => xy2 | 3, _ => xy3 | 4, _ => xy4 | 5, _ => xy5 | 6, _ => xy6 | 7, _ => xy7 | 8, _ => xy8 | 9, _ => xy9 | 10, _ => xy10 | 11, _ => xy11 | 12, _ => xy12, xn, xt⟩
  have S : FS K mg ⟨K, fun n => [f0, f1, f2, f3, f4, f5, f6, f7, f8, f9, f10, f11, f12, f13, f14, f15, f16, f17, f18, f19, f20, f21, f22, f23, f24, f25, f26, f27, f28, f29, f30, f31, f32, f33, f34, f35, f36, fa, f38, f39, fE0, fE1, fE2, fE3, fE4, fE5, fE6, fE7, fE8, fE9, fE10, fE11, fE12, pT0].getD n 0, l.prog, w⟩ := ⟨rfl, ⟨PySem.W.mg_none_of KX hN z_ValueError, PySem.W.mg_none_of KX hN z_abs, PySem.W.mg_none_of KX hN z_all, PySem.W.mg_none_of KX hN z_bool, PySem.W.mg_none_of KX hN z_int, PySem.W.mg_none_of KX hN z_isinstance, PySem.W.mg_none_of KX hN z_len, PySem.W.mg_none_of KX hN z_max, PySem.W.mg_none_of KX hN z_min, PySem.W.mg_none_of KX hN z_range, PySem.W.mg_none_of KX hN z_sorted, PySem.W.mg_none_of KX hN z_str, PySem.W.mg_none_of KX hN z_sum, PySem.W.mg_none_of KX hN z_tuple, PySem.W.mg_none_of KX hN z_zip⟩, ⟨⟨_, PySem.W.mg_of KX hN g_MOST_PLAY⟩, PySem.W.mg_of KX hN e0, PySem.W.mg_of KX hN e1, PySem.W.mg_of KX hN e2, PySem.W.mg_of KX hN e3, PySem.W.mg_of KX hN e4, PySem.W.mg_of KX hN e5, PySem.W.mg_of KX hN e6, PySem.W.mg_of KX hN e7, PySem.W.mg_of KX hN e8, PySem.W.mg_of KX hN e9, PySem.W.mg_of KX hN e10, PySem.W.mg_of KX hN e11, PySem.W.mg_of KX hN e12, ⟨PySem.W.mg_of KX hN e3, xq3, xk3, xb3, xy3⟩, ⟨PySem.W.mg_of KX hN e4, xq4, xk4, xb4, xy4⟩⟩, FF.mk' KX hN a0 l0 c0 k0 fun _ _ _ _ _ _ us hl => match us, hl with | [_, _, _], _ => rfl,
    FF.mk' KX hN a1 l1 c1 k1 fun _ _ _ _ _ _ us hl => match us, hl with | [_], _ => rfl,
    FF.mk' KX hN a2 l2 c2 k2 fun _ _ _ _ _ _ us hl => match us, hl with | [_], _ => rfl,
    FF.mk' KX hN a3 l3 c3 k3 fun _ _ _ _ _ _ us hl => match us, hl with | [_, _, _], _ => rfl,
    FF.mk' KX hN a4 l4 c4 k4 fun _ _ _ _ _ _ us hl => match us, hl with | [_, _], _ => rfl,
    FF.mk' KX hN a5 l5 c5 k5 fun _ _ _ _ _ _ us hl => match us, hl with | [_, _, _], _ => rfl,
    FF.mk' KX hN a6 l6 c6 k6 fun _ _ _ _ _ _ us hl => match us, hl with | [_, _], _ => rfl,
    FF.mk' KX hN a7 l7 c7 k7 fun _ _ _ _ _ _ us hl => match us, hl with | [_, _], _ => rfl,
    FF.mk' KX hN a8 l8 c8 k8 fun _ _ _ _ _ _ us hl => match us, hl with | [_, _], _ => rfl,
    FF.mk' KX hN a9 l9 c9 k9 fun _ _ _ _ _ _ us hl => match us, hl with | [_, _], _ => rfl,
    FF.mk' KX hN a10 l10 c10 k10 fun _ _ _ _ _ _ us hl => match us, hl with | [_, _], _ => rfl,
    FF.mk' KX hN a11 l11 c11 k11 fun _ _ _ _ _ _ us hl => match us, hl with | [_, _], _ => rfl,
    FF.mk' KX hN a12 l12 c12 k12 fun _ _ _ _ _ _ us hl => match us, hl with | [_, _], _ => rfl,
    FF.mk' KX hN a13 l13 c13 k13 fun _ _ _ _ _ _ us hl => match us, hl with | [_], _ => rfl,
    FF.mk' KX hN a14 l14 c14 k14 fun _ _ _ _ _ _ us hl => match us, hl with | [_], _ => rfl,
    FF.mk' KX hN a15 l15 c15 k15 fun _ _ _ _ _ _ us hl => match us, hl with | [_, _], _ => rfl,
    FF.mk' KX hN a16 l16 c16 k16 fun _ _ _ _ _ _ us hl => match us, hl with | [_, _], _ => rfl,
    FF.mk' KX hN a17 l17 c17 k17 fun _ _ _ _ _ _ us hl => match us, hl with | [_, _], _ => rfl,
    FF.mk' KX hN a18 l18 c18 k18 fun _ _ _ _ _ _ us hl => match us, hl with | [_, _, _], _ => rfl,
    FF.mk' KX hN a19 l19 c19 k19 fun _ _ _ _ _ _ us hl => match us, hl with | [_, _, _], _ => rfl,
    FF.mk' KX hN a20 l20 c20 k20 fun _ _ _ _ _ _ us hl => match us, hl with | [_, _, _], _ => rfl,
    FF.mk' KX hN a21 l21 c21 k21 fun _ _ _ _ _ _ us hl => match us, hl with | [_, _, _], _ => rfl,
    FF.mk' KX hN a22 l22 c22 k22 fun _ _ _ _ _ _ us hl => match us, hl with | [_, _, _, _], _ => rfl,
    FF.mk' KX hN a23 l23 c23 k23 fun _ _ _ _ _ _ us hl => match us, hl with | [_, _, _], _ => rfl,
    FF.mk' KX hN a24 l24 c24 k24 fun _ _ _ _ _ _ us hl => match us, hl with | [_, _, _], _ => rfl,
    FF.mk' KX hN a25 l25 c25 k25 fun _ _ _ _ _ _ us hl => match us, hl with | [_, _, _], _ => rfl,
    FF.mk' KX hN a26 l26 c26 k26 fun _ _ _ _ _ _ us hl => match us, hl with | [_, _], _ => rfl,
    FF.mk' KX hN a27 l27 c27 k27 fun _ _ _ _ _ _ us hl => match us, hl with | [_, _, _], _ => rfl,
    FF.mk' KX hN a28 l28 c28 k28 fun _ _ _ _ _ _ us hl => match us, hl with | [_], _ => rfl,
    FF.mk' KX hN a29 l29 c29 k29 fun _ _ _ _ _ _ us hl => match us, hl with | [_], _ => rfl,
    FF.mk' KX hN a30 l30 c30 k30 fun _ _ _ _ _ _ us hl => match us, hl with | [_, _], _ => rfl,
    FF.mk' KX hN a31 l31 c31 k31 fun _ _ _ _ _ _ us hl => match us, hl with | [_, _], _ => rfl,
    FF.mk' KX hN a32 l32 c32 k32 fun _ _ _ _ _ _ us hl => match us, hl with | [_, _], _ => rfl,
    FF.mk' KX hN a33 l33 c33 k33 fun _ _ _ _ _ _ us hl => match us, hl with | [_], _ => rfl,
    FF.mk' KX hN a34 l34 c34 k34 fun _ _ _ _ _ _ us hl => match us, hl with | [_, _, _], _ => rfl,
    FF.mk' KX hN a35 l35 c35 k35 fun _ _ _ _ _ _ us hl => match us, hl with | [_, _], _ => rfl,
    FF.mk' KX hN a36 l36 c36 k36 fun _ _ _ _ _ _ us hl => match us, hl with | [_, _, _, _], _ => rfl,
    FF.mk' KX hN a37 l37 c37 k37 fun _ _ _ _ _ _ us hl => match us, hl with | [_], _ => rfl,
    FF.mk' KX hN a38 l38 c38 k38 fun _ _ _ _ _ _ us hl => match us, hl with | [_], _ => rfl,
    FF.mk' KX hN a39 l39 c39 k39 fun _ _ _ _ _ _ us hl => match us, hl with | [_], _ => rfl,
    List.forall_mem_cons.mpr ⟨errT_mk ErG (c := 3) (by decide) xg3 xh3 xa3 xm3 (fun j hj => match j, hj with | 0, _ => xs3_0 | 1, _ => xs3_1 | 2, _ => xs3_2 | 3, _ => xs3_3 | 4, _ => xs3_4 | 5, _ => xs3_5 | 6, _ => xs3_6 | 7, _ => xs3_7 | 8, _ => xs3_8 | 9, _ => xs3_9 | 10, _ => xs3_10 | 11, _ => xs3_11 | 12, _ => xs3_12) xv3 (by decide), List.forall_mem_cons.mpr ⟨errT_mk ErG (c := 4) (by decide) xg4 xh4 xa4 xm4 (fun j hj => match j, hj with | 0, _ => xs4_0 | 1, _ => xs4_1 | 2, _ => xs4_2 | 3, _ => xs4_3 | 4, _ => xs4_4 | 5, _ => xs4_5 | 6, _ => xs4_6 | 7, _ => xs4_7 | 8, _ => xs4_8 | 9, _ => xs4_9 | 10, _ => xs4_10 | 11, _ => xs4_11 | 12, _ => xs4_12) xv4 (by decide), fun _ h => by cases h⟩⟩⟩
  obtain ⟨fd, F, B⟩ := S.f_law.ex
  have F2 := F
  obtain ⟨oc, od, kV, doc, pm, an, cdv, ct, osl, rfl, lk, hcd⟩ := F2.ex
  have hc : _ = Value.ref cT0 := Fun.code_of F tb0 a37
  refine ⟨PySem.W.fnOf "law" "law" (defArgs s_law) (defBody s_law) (defScope s_law) .none kV doc pm an cdv ct, [(cT0, pT0)], spTopT ⟨K, fun n => [f0, f1, f2, f3, f4, f5, f6, f7, f8, f9, f10, f11, f12, f13, f14, f15, f16, f17, f18, f19, f20, f21, f22, f23, f24, f25, f26, f27, f28, f29, f30, f31, f32, f33, f34, f35, f36, fa, f38, f39, fE0, fE1, fE2, fE3, fE4, fE5, fE6, fE7, fE8, fE9, fE10, fE11, fE12, pT0].getD n 0, l.prog, w⟩ [(53, lamQ "law")], ?_, ?_, ?_, ?_, ?_, fun base _ _ TB => ?_⟩
  · exact List.forall_mem_cons.mpr ⟨tg0, fun _ h => by cases h⟩
  · exact List.forall_mem_cons.mpr ⟨tn0, fun _ h => by cases h⟩
  · exact List.forall_mem_cons.mpr ⟨PySem.W.codeHd_of_K KX th0, fun _ h => by cases h⟩
  · exact fun s v => .of_eq rfl
  · exact fun H a ns hl _ hT hS => ⟨a, ns, rfl, hS, hl, List.forall_mem_cons.mpr ⟨hT _ List.mem_cons_self, fun _ h => by cases h⟩, fun _ => rfl⟩
  · exact (ok_law (k := 19) S.M S.C S.hK F ((D_law_drum S).mono (by omega)) ((D_law_machine S).mono (by omega)) ((D_law_spin S).mono (by omega)) ((D_law_needed S).mono (by omega)) ((D_looks_needed S).mono (by omega)) ((D_law_measures S).mono (by omega)) ((D_measuring S).mono (by omega)) hc (TB _ List.mem_cons_self) (TF_of S 18) fun _ _ _ => .inr rfl).imp (topT_of (by simp) top)

end K18
namespace K18
section head
open PySem PySem.Spec PyProof.Rows L2 LamX DLH DL
def fn_0 : He.DefD := ⟨("is_int", none), "is_int", "is_int", defArgs s_is_int, defBody s_is_int, defScope s_is_int, [], []⟩
def fn_1 : He.DefD := ⟨("is_machine", none), "is_machine", "is_machine", defArgs s_is_machine, defBody s_is_machine, defScope s_is_machine, [], []⟩
def fn_2 : He.DefD := ⟨("need_machine", none), "need_machine", "need_machine", defArgs s_need_machine, defBody s_need_machine, defScope s_need_machine, [], []⟩
def fn_3 : He.DefD := ⟨("need_number", none), "need_number", "need_number", defArgs s_need_number, defBody s_need_number, defScope s_need_number, [], []⟩
def fn_4 : He.DefD := ⟨("looks_for", none), "looks_for", "looks_for", defArgs s_looks_for, defBody s_looks_for, defScope s_looks_for, [], []⟩
def fn_5 : He.DefD := ⟨("choices", none), "choices", "choices", defArgs s_choices, defBody s_choices, defScope s_choices, [], []⟩
def fn_6 : He.DefD := ⟨("need_tolerance", none), "need_tolerance", "need_tolerance", defArgs s_need_tolerance, defBody s_need_tolerance, defScope s_need_tolerance, [], []⟩
def fn_7 : He.DefD := ⟨("looks_needed", none), "looks_needed", "looks_needed", defArgs s_looks_needed, defBody s_looks_needed, defScope s_looks_needed, [], []⟩
def fn_8 : He.DefD := ⟨("measuring", none), "measuring", "measuring", defArgs s_measuring, defBody s_measuring, defScope s_measuring, [], []⟩
def fn_9 : He.DefD := ⟨("_law_drum", none), "_law_drum", "_law_drum", defArgs s_law_drum, defBody s_law_drum, defScope s_law_drum, [], []⟩
def fn_10 : He.DefD := ⟨("_law_spin", none), "_law_spin", "_law_spin", defArgs s_law_spin, defBody s_law_spin, defScope s_law_spin, [], []⟩
def fn_11 : He.DefD := ⟨("_law_pick", none), "_law_pick", "_law_pick", defArgs s_law_pick, defBody s_law_pick, defScope s_law_pick, [], []⟩
def fn_12 : He.DefD := ⟨("_law_machine", none), "_law_machine", "_law_machine", defArgs s_law_machine, defBody s_law_machine, defScope s_law_machine, [], []⟩
def fn_13 : He.DefD := ⟨("_law_sign", none), "_law_sign", "_law_sign", defArgs s_law_sign, defBody s_law_sign, defScope s_law_sign, [], []⟩
def fn_14 : He.DefD := ⟨("_law_regions", none), "_law_regions", "_law_regions", defArgs s_law_regions, defBody s_law_regions, defScope s_law_regions, [], []⟩
def fn_15 : He.DefD := ⟨("_law_orders", none), "_law_orders", "_law_orders", defArgs s_law_orders, defBody s_law_orders, defScope s_law_orders, [], []⟩
def fn_16 : He.DefD := ⟨("_law_form_sign", none), "_law_form_sign", "_law_form_sign", defArgs s_law_form_sign, defBody s_law_form_sign, defScope s_law_form_sign, [], []⟩
def fn_17 : He.DefD := ⟨("_law_less_form", none), "_law_less_form", "_law_less_form", defArgs s_law_less_form, defBody s_law_less_form, defScope s_law_less_form, [], []⟩
def fn_18 : He.DefD := ⟨("_law_lag", none), "_law_lag", "_law_lag", defArgs s_law_lag, defBody s_law_lag, defScope s_law_lag, [], []⟩
def fn_19 : He.DefD := ⟨("_law_turned", none), "_law_turned", "_law_turned", defArgs s_law_turned, defBody s_law_turned, defScope s_law_turned, [], []⟩
def fn_20 : He.DefD := ⟨("_law_seen", none), "_law_seen", "_law_seen", defArgs s_law_seen, defBody s_law_seen, defScope s_law_seen, [], []⟩
def fn_21 : He.DefD := ⟨("_law_looked", none), "_law_looked", "_law_looked", defArgs s_law_looked, defBody s_law_looked, defScope s_law_looked, [], []⟩
def fn_22 : He.DefD := ⟨("_law_repeat", none), "_law_repeat", "_law_repeat", defArgs s_law_repeat, defBody s_law_repeat, defScope s_law_repeat, [], []⟩
def fn_23 : He.DefD := ⟨("_law_until", none), "_law_until", "_law_until", defArgs s_law_until, defBody s_law_until, defScope s_law_until, [], []⟩
def fn_24 : He.DefD := ⟨("_law_done", none), "_law_done", "_law_done", defArgs s_law_done, defBody s_law_done, defScope s_law_done, [], []⟩
def fn_25 : He.DefD := ⟨("_law_all_done", none), "_law_all_done", "_law_all_done", defArgs s_law_all_done, defBody s_law_all_done, defScope s_law_all_done, [], []⟩
def fn_26 : He.DefD := ⟨("_law_fate", none), "_law_fate", "_law_fate", defArgs s_law_fate, defBody s_law_fate, defScope s_law_fate, [], []⟩
def fn_27 : He.DefD := ⟨("_law_is_whole", none), "_law_is_whole", "_law_is_whole", defArgs s_law_is_whole, defBody s_law_is_whole, defScope s_law_is_whole, [], []⟩
def fn_28 : He.DefD := ⟨("_law_is_turn", none), "_law_is_turn", "_law_is_turn", defArgs s_law_is_turn, defBody s_law_is_turn, defScope s_law_is_turn, [], []⟩
def fn_29 : He.DefD := ⟨("_law_is_word", none), "_law_is_word", "_law_is_word", defArgs s_law_is_word, defBody s_law_is_word, defScope s_law_is_word, [], []⟩
def fn_30 : He.DefD := ⟨("_law_is_inner", none), "_law_is_inner", "_law_is_inner", defArgs s_law_is_inner, defBody s_law_is_inner, defScope s_law_is_inner, [], []⟩
def fn_31 : He.DefD := ⟨("_law_is_long", none), "_law_is_long", "_law_is_long", defArgs s_law_is_long, defBody s_law_is_long, defScope s_law_is_long, [], []⟩
def fn_32 : He.DefD := ⟨("_law_is_step", none), "_law_is_step", "_law_is_step", defArgs s_law_is_step, defBody s_law_is_step, defScope s_law_is_step, [], []⟩
def fn_33 : He.DefD := ⟨("_law_is_script", none), "_law_is_script", "_law_is_script", defArgs s_law_is_script, defBody s_law_is_script, defScope s_law_is_script, [], []⟩
def fn_34 : He.DefD := ⟨("_law_some_regions", none), "_law_some_regions", "_law_some_regions", defArgs s_law_some_regions, defBody s_law_some_regions, defScope s_law_some_regions, [], []⟩
def fn_35 : He.DefD := ⟨("_law_needed", none), "_law_needed", "_law_needed", defArgs s_law_needed, defBody s_law_needed, defScope s_law_needed, [], []⟩
def fn_36 : He.DefD := ⟨("_law_measures", none), "_law_measures", "_law_measures", defArgs s_law_measures, defBody s_law_measures, defScope s_law_measures, [], []⟩
def fn_37 : He.DefD := ⟨("law", none), "law", "law", defArgs s_law, defBody s_law, defScope s_law, [], []⟩
def fn_38 : He.DefD := ⟨("_law_kinds", none), "_law_kinds", "_law_kinds", defArgs s_law_kinds, defBody s_law_kinds, defScope s_law_kinds, [], []⟩
def fn_39 : He.DefD := ⟨("_law_call", none), "_law_call", "_law_call", defArgs s_law_call, defBody s_law_call, defScope s_law_call, [], []⟩
def fns0 : List He.DefD := [fn_0, fn_1, fn_2, fn_3, fn_4, fn_5, fn_6, fn_7, fn_8, fn_9, fn_10, fn_11, fn_12, fn_13, fn_14, fn_15, fn_16, fn_17, fn_18, fn_19, fn_20, fn_21, fn_22, fn_23, fn_24, fn_25, fn_26, fn_27, fn_28, fn_29]
def fns1 : List He.DefD := [fn_30, fn_31, fn_32, fn_33, fn_34, fn_35, fn_36, fn_37, fn_38, fn_39]
def fn : List He.DefD := fns0 ++ fns1
def tf : List He.Defn := [("law", none)]
def ex0 (K : PySem.W.Frag) : List Bool := [decide (PySem.W.nsIn K mainGlobals "is_int" = some (some (.ref (He.ga K "is_int")))),
  PySem.W.keepIn K (.ref (He.ga K "is_int")),
  decide (PySem.W.nsIn K mainGlobals "is_machine" = some (some (.ref (He.ga K "is_machine")))),
  PySem.W.keepIn K (.ref (He.ga K "is_machine")),
  decide (PySem.W.nsIn K mainGlobals "need_machine" = some (some (.ref (He.ga K "need_machine")))),
  PySem.W.keepIn K (.ref (He.ga K "need_machine")),
  decide (PySem.W.nsIn K mainGlobals "need_number" = some (some (.ref (He.ga K "need_number")))),
  PySem.W.keepIn K (.ref (He.ga K "need_number")),
  decide (PySem.W.nsIn K mainGlobals "looks_for" = some (some (.ref (He.ga K "looks_for")))),
  PySem.W.keepIn K (.ref (He.ga K "looks_for")),
  decide (PySem.W.nsIn K mainGlobals "choices" = some (some (.ref (He.ga K "choices")))),
  PySem.W.keepIn K (.ref (He.ga K "choices")),
  decide (PySem.W.nsIn K mainGlobals "need_tolerance" = some (some (.ref (He.ga K "need_tolerance")))),
  PySem.W.keepIn K (.ref (He.ga K "need_tolerance")),
  decide (PySem.W.nsIn K mainGlobals "looks_needed" = some (some (.ref (He.ga K "looks_needed")))),
  PySem.W.keepIn K (.ref (He.ga K "looks_needed")),
  decide (PySem.W.nsIn K mainGlobals "measuring" = some (some (.ref (He.ga K "measuring")))),
  PySem.W.keepIn K (.ref (He.ga K "measuring")),
  decide (PySem.W.nsIn K mainGlobals "_law_drum" = some (some (.ref (He.ga K "_law_drum")))),
  PySem.W.keepIn K (.ref (He.ga K "_law_drum")),
  decide (PySem.W.nsIn K mainGlobals "_law_spin" = some (some (.ref (He.ga K "_law_spin")))),
  PySem.W.keepIn K (.ref (He.ga K "_law_spin")),
  decide (PySem.W.nsIn K mainGlobals "_law_pick" = some (some (.ref (He.ga K "_law_pick")))),
  PySem.W.keepIn K (.ref (He.ga K "_law_pick")),
  decide (PySem.W.nsIn K mainGlobals "_law_machine" = some (some (.ref (He.ga K "_law_machine")))),
  PySem.W.keepIn K (.ref (He.ga K "_law_machine")),
  decide (PySem.W.nsIn K mainGlobals "_law_sign" = some (some (.ref (He.ga K "_law_sign")))),
  PySem.W.keepIn K (.ref (He.ga K "_law_sign")),
  decide (PySem.W.nsIn K mainGlobals "_law_regions" = some (some (.ref (He.ga K "_law_regions")))),
  PySem.W.keepIn K (.ref (He.ga K "_law_regions")),
  decide (PySem.W.nsIn K mainGlobals "_law_orders" = some (some (.ref (He.ga K "_law_orders")))),
  PySem.W.keepIn K (.ref (He.ga K "_law_orders")),
  decide (PySem.W.nsIn K mainGlobals "_law_form_sign" = some (some (.ref (He.ga K "_law_form_sign")))),
  PySem.W.keepIn K (.ref (He.ga K "_law_form_sign")),
  decide (PySem.W.nsIn K mainGlobals "_law_less_form" = some (some (.ref (He.ga K "_law_less_form")))),
  PySem.W.keepIn K (.ref (He.ga K "_law_less_form")),
  decide (PySem.W.nsIn K mainGlobals "_law_lag" = some (some (.ref (He.ga K "_law_lag")))),
  PySem.W.keepIn K (.ref (He.ga K "_law_lag")),
  decide (PySem.W.nsIn K mainGlobals "_law_turned" = some (some (.ref (He.ga K "_law_turned")))),
  PySem.W.keepIn K (.ref (He.ga K "_law_turned"))]
def ex1 (K : PySem.W.Frag) : List Bool := [decide (PySem.W.nsIn K mainGlobals "_law_seen" = some (some (.ref (He.ga K "_law_seen")))),
  PySem.W.keepIn K (.ref (He.ga K "_law_seen")),
  decide (PySem.W.nsIn K mainGlobals "_law_looked" = some (some (.ref (He.ga K "_law_looked")))),
  PySem.W.keepIn K (.ref (He.ga K "_law_looked")),
  decide (PySem.W.nsIn K mainGlobals "_law_repeat" = some (some (.ref (He.ga K "_law_repeat")))),
  PySem.W.keepIn K (.ref (He.ga K "_law_repeat")),
  decide (PySem.W.nsIn K mainGlobals "_law_until" = some (some (.ref (He.ga K "_law_until")))),
  PySem.W.keepIn K (.ref (He.ga K "_law_until")),
  decide (PySem.W.nsIn K mainGlobals "_law_done" = some (some (.ref (He.ga K "_law_done")))),
  PySem.W.keepIn K (.ref (He.ga K "_law_done")),
  decide (PySem.W.nsIn K mainGlobals "_law_all_done" = some (some (.ref (He.ga K "_law_all_done")))),
  PySem.W.keepIn K (.ref (He.ga K "_law_all_done")),
  decide (PySem.W.nsIn K mainGlobals "_law_fate" = some (some (.ref (He.ga K "_law_fate")))),
  PySem.W.keepIn K (.ref (He.ga K "_law_fate")),
  decide (PySem.W.nsIn K mainGlobals "_law_is_whole" = some (some (.ref (He.ga K "_law_is_whole")))),
  PySem.W.keepIn K (.ref (He.ga K "_law_is_whole")),
  decide (PySem.W.nsIn K mainGlobals "_law_is_turn" = some (some (.ref (He.ga K "_law_is_turn")))),
  PySem.W.keepIn K (.ref (He.ga K "_law_is_turn")),
  decide (PySem.W.nsIn K mainGlobals "_law_is_word" = some (some (.ref (He.ga K "_law_is_word")))),
  PySem.W.keepIn K (.ref (He.ga K "_law_is_word")),
  decide (PySem.W.nsIn K mainGlobals "_law_is_inner" = some (some (.ref (He.ga K "_law_is_inner")))),
  PySem.W.keepIn K (.ref (He.ga K "_law_is_inner")),
  decide (PySem.W.nsIn K mainGlobals "_law_is_long" = some (some (.ref (He.ga K "_law_is_long")))),
  PySem.W.keepIn K (.ref (He.ga K "_law_is_long")),
  decide (PySem.W.nsIn K mainGlobals "_law_is_step" = some (some (.ref (He.ga K "_law_is_step")))),
  PySem.W.keepIn K (.ref (He.ga K "_law_is_step")),
  decide (PySem.W.nsIn K mainGlobals "_law_is_script" = some (some (.ref (He.ga K "_law_is_script")))),
  PySem.W.keepIn K (.ref (He.ga K "_law_is_script")),
  decide (PySem.W.nsIn K mainGlobals "_law_some_regions" = some (some (.ref (He.ga K "_law_some_regions")))),
  PySem.W.keepIn K (.ref (He.ga K "_law_some_regions")),
  decide (PySem.W.nsIn K mainGlobals "_law_needed" = some (some (.ref (He.ga K "_law_needed")))),
  PySem.W.keepIn K (.ref (He.ga K "_law_needed")),
  decide (PySem.W.nsIn K mainGlobals "_law_measures" = some (some (.ref (He.ga K "_law_measures")))),
  PySem.W.keepIn K (.ref (He.ga K "_law_measures")),
  decide (PySem.W.nsIn K mainGlobals "law" = some (some (.ref (He.ga K "law")))),
  PySem.W.keepIn K (.ref (He.ga K "law")),
  decide (PySem.W.nsIn K mainGlobals "_law_kinds" = some (some (.ref (He.ga K "_law_kinds")))),
  PySem.W.keepIn K (.ref (He.ga K "_law_kinds")),
  decide (PySem.W.nsIn K mainGlobals "_law_call" = some (some (.ref (He.ga K "_law_call")))),
  PySem.W.keepIn K (.ref (He.ga K "_law_call"))]
def ex2 (K : PySem.W.Frag) : List Bool := [decide (PySem.W.nsIn K mainGlobals "InvalidAnswers" = some (some (.ref (He.ga K "InvalidAnswers")))),
  decide (PySem.W.nsIn K mainGlobals "InvalidFact" = some (some (.ref (He.ga K "InvalidFact")))),
  decide (PySem.W.nsIn K mainGlobals "InvalidIndex" = some (some (.ref (He.ga K "InvalidIndex")))),
  decide (PySem.W.nsIn K mainGlobals "InvalidMachine" = some (some (.ref (He.ga K "InvalidMachine")))),
  decide (PySem.W.nsIn K mainGlobals "InvalidNumber" = some (some (.ref (He.ga K "InvalidNumber")))),
  decide (PySem.W.nsIn K mainGlobals "InvalidPlay" = some (some (.ref (He.ga K "InvalidPlay")))),
  decide (PySem.W.nsIn K mainGlobals "InvalidRegion" = some (some (.ref (He.ga K "InvalidRegion")))),
  decide (PySem.W.nsIn K mainGlobals "InvalidRow" = some (some (.ref (He.ga K "InvalidRow")))),
  decide (PySem.W.nsIn K mainGlobals "InvalidScript" = some (some (.ref (He.ga K "InvalidScript")))),
  decide (PySem.W.nsIn K mainGlobals "InvalidSlack" = some (some (.ref (He.ga K "InvalidSlack")))),
  decide (PySem.W.nsIn K mainGlobals "InvalidText" = some (some (.ref (He.ga K "InvalidText")))),
  decide (PySem.W.nsIn K mainGlobals "NothingToUndo" = some (some (.ref (He.ga K "NothingToUndo")))),
  decide (PySem.W.nsIn K mainGlobals "PlayError" = some (some (.ref (He.ga K "PlayError")))),
  decide (PySem.W.specialIn K (.builtin "object.__class__") "__get__" = some (some (.builtin "getset_descriptor.__get__"))),
  decide (PySem.W.takesIn K (.builtin "object.__class__") = some true),
  decide (PySem.W.subIn K (.ref (He.ga K "InvalidAnswers")) (.type "BaseException") = some true),
  PySem.W.hasDictIn K (He.ga K "InvalidAnswers"),
  decide (PySem.W.typeIn K (.ref (He.ga K "InvalidAnswers")) = some (.type "type")),
  decide (PySem.W.subIn K (.ref (He.ga K "InvalidFact")) (.type "BaseException") = some true),
  PySem.W.hasDictIn K (He.ga K "InvalidFact"),
  decide (PySem.W.typeIn K (.ref (He.ga K "InvalidFact")) = some (.type "type")),
  decide (PySem.W.subIn K (.ref (He.ga K "InvalidIndex")) (.type "BaseException") = some true),
  PySem.W.hasDictIn K (He.ga K "InvalidIndex"),
  decide (PySem.W.typeIn K (.ref (He.ga K "InvalidIndex")) = some (.type "type")),
  decide (PySem.W.subIn K (.ref (He.ga K "InvalidMachine")) (.type "BaseException") = some true),
  PySem.W.hasDictIn K (He.ga K "InvalidMachine"),
  decide (PySem.W.typeIn K (.ref (He.ga K "InvalidMachine")) = some (.type "type")),
  decide (PySem.W.subIn K (.ref (He.ga K "InvalidNumber")) (.type "BaseException") = some true),
  PySem.W.hasDictIn K (He.ga K "InvalidNumber"),
  decide (PySem.W.typeIn K (.ref (He.ga K "InvalidNumber")) = some (.type "type")),
  decide (PySem.W.subIn K (.ref (He.ga K "InvalidPlay")) (.type "BaseException") = some true),
  PySem.W.hasDictIn K (He.ga K "InvalidPlay"),
  decide (PySem.W.typeIn K (.ref (He.ga K "InvalidPlay")) = some (.type "type")),
  decide (PySem.W.subIn K (.ref (He.ga K "InvalidRegion")) (.type "BaseException") = some true),
  PySem.W.hasDictIn K (He.ga K "InvalidRegion"),
  decide (PySem.W.typeIn K (.ref (He.ga K "InvalidRegion")) = some (.type "type")),
  decide (PySem.W.subIn K (.ref (He.ga K "InvalidRow")) (.type "BaseException") = some true),
  PySem.W.hasDictIn K (He.ga K "InvalidRow"),
  decide (PySem.W.typeIn K (.ref (He.ga K "InvalidRow")) = some (.type "type")),
  decide (PySem.W.subIn K (.ref (He.ga K "InvalidScript")) (.type "BaseException") = some true)]
def ex3 (K : PySem.W.Frag) : List Bool := [PySem.W.hasDictIn K (He.ga K "InvalidScript"),
  decide (PySem.W.typeIn K (.ref (He.ga K "InvalidScript")) = some (.type "type")),
  decide (PySem.W.subIn K (.ref (He.ga K "InvalidSlack")) (.type "BaseException") = some true),
  PySem.W.hasDictIn K (He.ga K "InvalidSlack"),
  decide (PySem.W.typeIn K (.ref (He.ga K "InvalidSlack")) = some (.type "type")),
  decide (PySem.W.subIn K (.ref (He.ga K "InvalidText")) (.type "BaseException") = some true),
  PySem.W.hasDictIn K (He.ga K "InvalidText"),
  decide (PySem.W.typeIn K (.ref (He.ga K "InvalidText")) = some (.type "type")),
  decide (PySem.W.subIn K (.ref (He.ga K "NothingToUndo")) (.type "BaseException") = some true),
  PySem.W.hasDictIn K (He.ga K "NothingToUndo"),
  decide (PySem.W.typeIn K (.ref (He.ga K "NothingToUndo")) = some (.type "type")),
  decide (PySem.W.subIn K (.ref (He.ga K "PlayError")) (.type "BaseException") = some true),
  PySem.W.hasDictIn K (He.ga K "PlayError"),
  decide (PySem.W.typeIn K (.ref (He.ga K "PlayError")) = some (.type "type")),
  PySem.W.excIn K (He.ga K "InvalidMachine") [.type "ValueError", .type "Exception", .type "BaseException", .type "object"] "ValueError.__new__",
  PySem.W.keepIn K (.ref (He.ga K "InvalidMachine")),
  decide (PySem.W.findIn K (.ref (He.ga K "InvalidMachine")) "__getattribute__" = some (some (.builtin "BaseException.__getattribute__"))),
  decide (PySem.W.findIn K (.ref (He.ga K "InvalidMachine")) "__getattr__" = some none),
  decide (PySem.W.findIn K (.ref (He.ga K "InvalidMachine")) "__class__" = some (some (.builtin "object.__class__"))),
  decide (PySem.W.mroIn K (He.ga K "InvalidMachine") (.type "object") = some true),
  decide (PySem.W.subIn K (.ref (He.ga K "InvalidMachine")) (.ref (He.ga K "InvalidAnswers")) = some false),
  decide (PySem.W.subIn K (.ref (He.ga K "InvalidMachine")) (.ref (He.ga K "InvalidFact")) = some false),
  decide (PySem.W.subIn K (.ref (He.ga K "InvalidMachine")) (.ref (He.ga K "InvalidIndex")) = some false),
  decide (PySem.W.subIn K (.ref (He.ga K "InvalidMachine")) (.ref (He.ga K "InvalidMachine")) = some true),
  decide (PySem.W.subIn K (.ref (He.ga K "InvalidMachine")) (.ref (He.ga K "InvalidNumber")) = some false),
  decide (PySem.W.subIn K (.ref (He.ga K "InvalidMachine")) (.ref (He.ga K "InvalidPlay")) = some false),
  decide (PySem.W.subIn K (.ref (He.ga K "InvalidMachine")) (.ref (He.ga K "InvalidRegion")) = some false),
  decide (PySem.W.subIn K (.ref (He.ga K "InvalidMachine")) (.ref (He.ga K "InvalidRow")) = some false),
  decide (PySem.W.subIn K (.ref (He.ga K "InvalidMachine")) (.ref (He.ga K "InvalidScript")) = some false),
  decide (PySem.W.subIn K (.ref (He.ga K "InvalidMachine")) (.ref (He.ga K "InvalidSlack")) = some false),
  decide (PySem.W.subIn K (.ref (He.ga K "InvalidMachine")) (.ref (He.ga K "InvalidText")) = some false),
  decide (PySem.W.subIn K (.ref (He.ga K "InvalidMachine")) (.ref (He.ga K "NothingToUndo")) = some false),
  decide (PySem.W.subIn K (.ref (He.ga K "InvalidMachine")) (.ref (He.ga K "PlayError")) = some true),
  decide (PySem.W.subIn K (.ref (He.ga K "InvalidMachine")) (.type "ValueError") = some true),
  PySem.W.excIn K (He.ga K "InvalidNumber") [.type "ValueError", .type "Exception", .type "BaseException", .type "object"] "ValueError.__new__",
  PySem.W.keepIn K (.ref (He.ga K "InvalidNumber")),
  decide (PySem.W.findIn K (.ref (He.ga K "InvalidNumber")) "__getattribute__" = some (some (.builtin "BaseException.__getattribute__"))),
  decide (PySem.W.findIn K (.ref (He.ga K "InvalidNumber")) "__getattr__" = some none),
  decide (PySem.W.findIn K (.ref (He.ga K "InvalidNumber")) "__class__" = some (some (.builtin "object.__class__"))),
  decide (PySem.W.mroIn K (He.ga K "InvalidNumber") (.type "object") = some true)]
def ex4 (K : PySem.W.Frag) : List Bool := [decide (PySem.W.subIn K (.ref (He.ga K "InvalidNumber")) (.ref (He.ga K "InvalidAnswers")) = some false),
  decide (PySem.W.subIn K (.ref (He.ga K "InvalidNumber")) (.ref (He.ga K "InvalidFact")) = some false),
  decide (PySem.W.subIn K (.ref (He.ga K "InvalidNumber")) (.ref (He.ga K "InvalidIndex")) = some false),
  decide (PySem.W.subIn K (.ref (He.ga K "InvalidNumber")) (.ref (He.ga K "InvalidMachine")) = some false),
  decide (PySem.W.subIn K (.ref (He.ga K "InvalidNumber")) (.ref (He.ga K "InvalidNumber")) = some true),
  decide (PySem.W.subIn K (.ref (He.ga K "InvalidNumber")) (.ref (He.ga K "InvalidPlay")) = some false),
  decide (PySem.W.subIn K (.ref (He.ga K "InvalidNumber")) (.ref (He.ga K "InvalidRegion")) = some false),
  decide (PySem.W.subIn K (.ref (He.ga K "InvalidNumber")) (.ref (He.ga K "InvalidRow")) = some false),
  decide (PySem.W.subIn K (.ref (He.ga K "InvalidNumber")) (.ref (He.ga K "InvalidScript")) = some false),
  decide (PySem.W.subIn K (.ref (He.ga K "InvalidNumber")) (.ref (He.ga K "InvalidSlack")) = some false),
  decide (PySem.W.subIn K (.ref (He.ga K "InvalidNumber")) (.ref (He.ga K "InvalidText")) = some false),
  decide (PySem.W.subIn K (.ref (He.ga K "InvalidNumber")) (.ref (He.ga K "NothingToUndo")) = some false),
  decide (PySem.W.subIn K (.ref (He.ga K "InvalidNumber")) (.ref (He.ga K "PlayError")) = some true),
  decide (PySem.W.subIn K (.ref (He.ga K "InvalidNumber")) (.type "ValueError") = some true),
  decide (PySem.W.tabIn K "law" = some ((He.cT K ("law", none)).1, (He.cT K ("law", none)).2)),
  decide (PySem.W.nsIn K mainGlobals "ValueError" = some none),
  decide (PySem.W.nsIn K mainGlobals "abs" = some none),
  decide (PySem.W.nsIn K mainGlobals "all" = some none),
  decide (PySem.W.nsIn K mainGlobals "bool" = some none),
  decide (PySem.W.nsIn K mainGlobals "int" = some none),
  decide (PySem.W.nsIn K mainGlobals "isinstance" = some none),
  decide (PySem.W.nsIn K mainGlobals "len" = some none),
  decide (PySem.W.nsIn K mainGlobals "max" = some none),
  decide (PySem.W.nsIn K mainGlobals "min" = some none),
  decide (PySem.W.nsIn K mainGlobals "range" = some none),
  decide (PySem.W.nsIn K mainGlobals "sorted" = some none),
  decide (PySem.W.nsIn K mainGlobals "str" = some none),
  decide (PySem.W.nsIn K mainGlobals "sum" = some none),
  decide (PySem.W.nsIn K mainGlobals "tuple" = some none),
  decide (PySem.W.nsIn K mainGlobals "zip" = some none),
  intB K "MOST_PLAY" 6]
def ex (K : PySem.W.Frag) : Bool := (ex0 K).all id && (ex1 K).all id && (ex2 K).all id && (ex3 K).all id && (ex4 K).all id
def names0 : List Str := ["PlayError", "InvalidMachine", "InvalidPlay", "InvalidSlack", "InvalidRegion", "InvalidScript", "InvalidAnswers", "InvalidNumber", "InvalidFact", "InvalidIndex", "InvalidRow", "NothingToUndo", "InvalidText", "MOST_PLAY", "is_int", "is_machine", "need_machine", "need_number", "looks_for", "choices", "need_tolerance", "looks_needed", "measuring", "_law_drum", "_law_spin", "_law_pick", "_law_machine", "_law_sign", "_law_regions", "_law_orders"]
def names1 : List Str := ["_law_form_sign", "_law_less_form", "_law_lag", "_law_turned", "_law_seen", "_law_looked", "_law_repeat", "_law_until", "_law_done", "_law_all_done", "_law_fate", "_law_is_whole", "_law_is_turn", "_law_is_word", "_law_is_inner", "_law_is_long", "_law_is_step", "_law_is_script", "_law_kinds", "_law_call", "_law_some_regions", "_law_needed", "_law_measures"]
def names : List Str := names0 ++ names1
abbrev RR : PySem.W.OpenRow := PySem.W.OpenLaw.row PySem.Challenge.rw_screwplay_k18_looks_that_measure_the_pla
abbrev hk : PySem.W.Hook := He.hookX 6 [] fn [] tf ex
def ob (s : PySem.W.SharedT) : He.AlX := He.obsX 6 [] fn [] tf ex (HandSHeadRun.getT s)
theorem ob_eq (s : PySem.W.SharedT) : ob s = hk.obs s.abs := He.obsX_eq (HandSHeadRun.getT_eq s)
set_option maxHeartbeats 0 in
theorem run (w : World) : HandSHeadRun.RunEq RR (PySem.W.view RR.prog [57]) hk ob 40000 names w := by
  intro os
  kernel_rfl
theorem facts {w : World} {K : PySem.W.Frag} {h : Heap} {mg : Str → Option Value} {fa : Addr} (KX : K.In h) (G : h.Ns mainGlobals mg) (hfa : mg "law" = some (.ref fa)) (c : He.SaysX [] fn [] tf ex w h K) : LawAtS PySem.Challenge.rw_screwplay_k18_looks_that_measure_the_pla w K (L2N.CX (PySem.Challenge.rw_screwplay_k18_looks_that_measure_the_pla).prog w) 22 63 "script" mg fa h := by
  have e := c.more
  unfold ex at e
  simp only [Bool.and_eq_true] at e
  obtain ⟨⟨⟨⟨e0, e1⟩, e2⟩, e3⟩, e4⟩ := e
  obtain ⟨_, F0⟩ := c.t.d.def_ 0 (d := fn_0) rfl
  obtain ⟨oc0, od0, kV0, dc0, pm0, an0, cd0, ct0, sl0, rfl, l0, c0⟩ := (He5.fun_of (st := s_is_int) F0).ex
  obtain ⟨_, F1⟩ := c.t.d.def_ 1 (d := fn_1) rfl
  obtain ⟨oc1, od1, kV1, dc1, pm1, an1, cd1, ct1, sl1, rfl, l1, c1⟩ := (He5.fun_of (st := s_is_machine) F1).ex
  obtain ⟨_, F2⟩ := c.t.d.def_ 2 (d := fn_2) rfl
  obtain ⟨oc2, od2, kV2, dc2, pm2, an2, cd2, ct2, sl2, rfl, l2, c2⟩ := (He5.fun_of (st := s_need_machine) F2).ex
  obtain ⟨_, F3⟩ := c.t.d.def_ 3 (d := fn_3) rfl
  obtain ⟨oc3, od3, kV3, dc3, pm3, an3, cd3, ct3, sl3, rfl, l3, c3⟩ := (He5.fun_of (st := s_need_number) F3).ex
  obtain ⟨_, F4⟩ := c.t.d.def_ 4 (d := fn_4) rfl
  obtain ⟨oc4, od4, kV4, dc4, pm4, an4, cd4, ct4, sl4, rfl, l4, c4⟩ := (He5.fun_of (st := s_looks_for) F4).ex
  obtain ⟨_, F5⟩ := c.t.d.def_ 5 (d := fn_5) rfl
  obtain ⟨oc5, od5, kV5, dc5, pm5, an5, cd5, ct5, sl5, rfl, l5, c5⟩ := (He5.fun_of (st := s_choices) F5).ex
  obtain ⟨_, F6⟩ := c.t.d.def_ 6 (d := fn_6) rfl
  obtain ⟨oc6, od6, kV6, dc6, pm6, an6, cd6, ct6, sl6, rfl, l6, c6⟩ := (He5.fun_of (st := s_need_tolerance) F6).ex
  obtain ⟨_, F7⟩ := c.t.d.def_ 7 (d := fn_7) rfl
  obtain ⟨oc7, od7, kV7, dc7, pm7, an7, cd7, ct7, sl7, rfl, l7, c7⟩ := (He5.fun_of (st := s_looks_needed) F7).ex
  obtain ⟨_, F8⟩ := c.t.d.def_ 8 (d := fn_8) rfl
  obtain ⟨oc8, od8, kV8, dc8, pm8, an8, cd8, ct8, sl8, rfl, l8, c8⟩ := (He5.fun_of (st := s_measuring) F8).ex
  obtain ⟨_, F9⟩ := c.t.d.def_ 9 (d := fn_9) rfl
  obtain ⟨oc9, od9, kV9, dc9, pm9, an9, cd9, ct9, sl9, rfl, l9, c9⟩ := (He5.fun_of (st := s_law_drum) F9).ex
  obtain ⟨_, F10⟩ := c.t.d.def_ 10 (d := fn_10) rfl
  obtain ⟨oc10, od10, kV10, dc10, pm10, an10, cd10, ct10, sl10, rfl, l10, c10⟩ := (He5.fun_of (st := s_law_spin) F10).ex
  obtain ⟨_, F11⟩ := c.t.d.def_ 11 (d := fn_11) rfl
  obtain ⟨oc11, od11, kV11, dc11, pm11, an11, cd11, ct11, sl11, rfl, l11, c11⟩ := (He5.fun_of (st := s_law_pick) F11).ex
  obtain ⟨_, F12⟩ := c.t.d.def_ 12 (d := fn_12) rfl
  obtain ⟨oc12, od12, kV12, dc12, pm12, an12, cd12, ct12, sl12, rfl, l12, c12⟩ := (He5.fun_of (st := s_law_machine) F12).ex
  obtain ⟨_, F13⟩ := c.t.d.def_ 13 (d := fn_13) rfl
  obtain ⟨oc13, od13, kV13, dc13, pm13, an13, cd13, ct13, sl13, rfl, l13, c13⟩ := (He5.fun_of (st := s_law_sign) F13).ex
  obtain ⟨_, F14⟩ := c.t.d.def_ 14 (d := fn_14) rfl
  obtain ⟨oc14, od14, kV14, dc14, pm14, an14, cd14, ct14, sl14, rfl, l14, c14⟩ := (He5.fun_of (st := s_law_regions) F14).ex
  obtain ⟨_, F15⟩ := c.t.d.def_ 15 (d := fn_15) rfl
  obtain ⟨oc15, od15, kV15, dc15, pm15, an15, cd15, ct15, sl15, rfl, l15, c15⟩ := (He5.fun_of (st := s_law_orders) F15).ex
  obtain ⟨_, F16⟩ := c.t.d.def_ 16 (d := fn_16) rfl
  obtain ⟨oc16, od16, kV16, dc16, pm16, an16, cd16, ct16, sl16, rfl, l16, c16⟩ := (He5.fun_of (st := s_law_form_sign) F16).ex
  obtain ⟨_, F17⟩ := c.t.d.def_ 17 (d := fn_17) rfl
  obtain ⟨oc17, od17, kV17, dc17, pm17, an17, cd17, ct17, sl17, rfl, l17, c17⟩ := (He5.fun_of (st := s_law_less_form) F17).ex
  obtain ⟨_, F18⟩ := c.t.d.def_ 18 (d := fn_18) rfl
  obtain ⟨oc18, od18, kV18, dc18, pm18, an18, cd18, ct18, sl18, rfl, l18, c18⟩ := (He5.fun_of (st := s_law_lag) F18).ex
  obtain ⟨_, F19⟩ := c.t.d.def_ 19 (d := fn_19) rfl
  obtain ⟨oc19, od19, kV19, dc19, pm19, an19, cd19, ct19, sl19, rfl, l19, c19⟩ := (He5.fun_of (st := s_law_turned) F19).ex
  obtain ⟨_, F20⟩ := c.t.d.def_ 20 (d := fn_20) rfl
  obtain ⟨oc20, od20, kV20, dc20, pm20, an20, cd20, ct20, sl20, rfl, l20, c20⟩ := (He5.fun_of (st := s_law_seen) F20).ex
  obtain ⟨_, F21⟩ := c.t.d.def_ 21 (d := fn_21) rfl
  obtain ⟨oc21, od21, kV21, dc21, pm21, an21, cd21, ct21, sl21, rfl, l21, c21⟩ := (He5.fun_of (st := s_law_looked) F21).ex
  obtain ⟨_, F22⟩ := c.t.d.def_ 22 (d := fn_22) rfl
  obtain ⟨oc22, od22, kV22, dc22, pm22, an22, cd22, ct22, sl22, rfl, l22, c22⟩ := (He5.fun_of (st := s_law_repeat) F22).ex
  obtain ⟨_, F23⟩ := c.t.d.def_ 23 (d := fn_23) rfl
  obtain ⟨oc23, od23, kV23, dc23, pm23, an23, cd23, ct23, sl23, rfl, l23, c23⟩ := (He5.fun_of (st := s_law_until) F23).ex
  obtain ⟨_, F24⟩ := c.t.d.def_ 24 (d := fn_24) rfl
  obtain ⟨oc24, od24, kV24, dc24, pm24, an24, cd24, ct24, sl24, rfl, l24, c24⟩ := (He5.fun_of (st := s_law_done) F24).ex
  obtain ⟨_, F25⟩ := c.t.d.def_ 25 (d := fn_25) rfl
  obtain ⟨oc25, od25, kV25, dc25, pm25, an25, cd25, ct25, sl25, rfl, l25, c25⟩ := (He5.fun_of (st := s_law_all_done) F25).ex
  obtain ⟨_, F26⟩ := c.t.d.def_ 26 (d := fn_26) rfl
  obtain ⟨oc26, od26, kV26, dc26, pm26, an26, cd26, ct26, sl26, rfl, l26, c26⟩ := (He5.fun_of (st := s_law_fate) F26).ex
  obtain ⟨_, F27⟩ := c.t.d.def_ 27 (d := fn_27) rfl
  obtain ⟨oc27, od27, kV27, dc27, pm27, an27, cd27, ct27, sl27, rfl, l27, c27⟩ := (He5.fun_of (st := s_law_is_whole) F27).ex
  obtain ⟨_, F28⟩ := c.t.d.def_ 28 (d := fn_28) rfl
  obtain ⟨oc28, od28, kV28, dc28, pm28, an28, cd28, ct28, sl28, rfl, l28, c28⟩ := (He5.fun_of (st := s_law_is_turn) F28).ex
  obtain ⟨_, F29⟩ := c.t.d.def_ 29 (d := fn_29) rfl
  obtain ⟨oc29, od29, kV29, dc29, pm29, an29, cd29, ct29, sl29, rfl, l29, c29⟩ := (He5.fun_of (st := s_law_is_word) F29).ex
  obtain ⟨_, F30⟩ := c.t.d.def_ 30 (d := fn_30) rfl
  obtain ⟨oc30, od30, kV30, dc30, pm30, an30, cd30, ct30, sl30, rfl, l30, c30⟩ := (He5.fun_of (st := s_law_is_inner) F30).ex
  obtain ⟨_, F31⟩ := c.t.d.def_ 31 (d := fn_31) rfl
  obtain ⟨oc31, od31, kV31, dc31, pm31, an31, cd31, ct31, sl31, rfl, l31, c31⟩ := (He5.fun_of (st := s_law_is_long) F31).ex
  obtain ⟨_, F32⟩ := c.t.d.def_ 32 (d := fn_32) rfl
  obtain ⟨oc32, od32, kV32, dc32, pm32, an32, cd32, ct32, sl32, rfl, l32, c32⟩ := (He5.fun_of (st := s_law_is_step) F32).ex
  obtain ⟨_, F33⟩ := c.t.d.def_ 33 (d := fn_33) rfl
  obtain ⟨oc33, od33, kV33, dc33, pm33, an33, cd33, ct33, sl33, rfl, l33, c33⟩ := (He5.fun_of (st := s_law_is_script) F33).ex
  obtain ⟨_, F34⟩ := c.t.d.def_ 34 (d := fn_34) rfl
  obtain ⟨oc34, od34, kV34, dc34, pm34, an34, cd34, ct34, sl34, rfl, l34, c34⟩ := (He5.fun_of (st := s_law_some_regions) F34).ex
  obtain ⟨_, F35⟩ := c.t.d.def_ 35 (d := fn_35) rfl
  obtain ⟨oc35, od35, kV35, dc35, pm35, an35, cd35, ct35, sl35, rfl, l35, c35⟩ := (He5.fun_of (st := s_law_needed) F35).ex
  obtain ⟨_, F36⟩ := c.t.d.def_ 36 (d := fn_36) rfl
  obtain ⟨oc36, od36, kV36, dc36, pm36, an36, cd36, ct36, sl36, rfl, l36, c36⟩ := (He5.fun_of (st := s_law_measures) F36).ex
  obtain ⟨_, F37⟩ := c.t.d.def_ 37 (d := fn_37) rfl
  obtain ⟨oc37, od37, kV37, dc37, pm37, an37, cd37, ct37, sl37, rfl, l37, c37⟩ := (He5.fun_of (st := s_law) F37).ex
  obtain ⟨_, F38⟩ := c.t.d.def_ 38 (d := fn_38) rfl
  obtain ⟨oc38, od38, kV38, dc38, pm38, an38, cd38, ct38, sl38, rfl, l38, c38⟩ := (He5.fun_of (st := s_law_kinds) F38).ex
  obtain ⟨_, F39⟩ := c.t.d.def_ 39 (d := fn_39) rfl
  obtain ⟨oc39, od39, kV39, dc39, pm39, an39, cd39, ct39, sl39, rfl, l39, c39⟩ := (He5.fun_of (st := s_law_call) F39).ex
  obtain ⟨t_MOST_PLAY, g_MOST_PLAY⟩ := int_get (all_get e4 30 rfl)
  exact all_mk KX G hfa (of_decide_eq_true (all_get e0 0 rfl)) l0 c0 (all_get e0 1 rfl) (of_decide_eq_true (all_get e0 2 rfl)) l1 c1 (all_get e0 3 rfl) (of_decide_eq_true (all_get e0 4 rfl)) l2 c2 (all_get e0 5 rfl) (of_decide_eq_true (all_get e0 6 rfl)) l3 c3 (all_get e0 7 rfl) (of_decide_eq_true (all_get e0 8 rfl)) l4 c4 (all_get e0 9 rfl) (of_decide_eq_true (all_get e0 10 rfl)) l5 c5 (all_get e0 11 rfl) (of_decide_eq_true (all_get e0 12 rfl)) l6 c6 (all_get e0 13 rfl) (of_decide_eq_true (all_get e0 14 rfl)) l7 c7 (all_get e0 15 rfl) (of_decide_eq_true (all_get e0 16 rfl)) l8 c8 (all_get e0 17 rfl) (of_decide_eq_true (all_get e0 18 rfl)) l9 c9 (all_get e0 19 rfl) (of_decide_eq_true (all_get e0 20 rfl)) l10 c10 (all_get e0 21 rfl) (of_decide_eq_true (all_get e0 22 rfl)) l11 c11 (all_get e0 23 rfl) (of_decide_eq_true (all_get e0 24 rfl)) l12 c12 (all_get e0 25 rfl) (of_decide_eq_true (all_get e0 26 rfl)) l13 c13 (all_get e0 27 rfl) (of_decide_eq_true (all_get e0 28 rfl)) l14 c14 (all_get e0 29 rfl) (of_decide_eq_true (all_get e0 30 rfl)) l15 c15 (all_get e0 31 rfl) (of_decide_eq_true (all_get e0 32 rfl)) l16 c16 (all_get e0 33 rfl) (of_decide_eq_true (all_get e0 34 rfl)) l17 c17 (all_get e0 35 rfl) (of_decide_eq_true (all_get e0 36 rfl)) l18 c18 (all_get e0 37 rfl) (of_decide_eq_true (all_get e0 38 rfl)) l19 c19 (all_get e0 39 rfl) (of_decide_eq_true (all_get e1 0 rfl)) l20 c20 (all_get e1 1 rfl) (of_decide_eq_true (all_get e1 2 rfl)) l21 c21 (all_get e1 3 rfl) (of_decide_eq_true (all_get e1 4 rfl)) l22 c22 (all_get e1 5 rfl) (of_decide_eq_true (all_get e1 6 rfl)) l23 c23 (all_get e1 7 rfl) (of_decide_eq_true (all_get e1 8 rfl)) l24 c24 (all_get e1 9 rfl) (of_decide_eq_true (all_get e1 10 rfl)) l25 c25 (all_get e1 11 rfl) (of_decide_eq_true (all_get e1 12 rfl)) l26 c26 (all_get e1 13 rfl) (of_decide_eq_true (all_get e1 14 rfl)) l27 c27 (all_get e1 15 rfl) (of_decide_eq_true (all_get e1 16 rfl)) l28 c28 (all_get e1 17 rfl) (of_decide_eq_true (all_get e1 18 rfl)) l29 c29 (all_get e1 19 rfl) (of_decide_eq_true (all_get e1 20 rfl)) l30 c30 (all_get e1 21 rfl) (of_decide_eq_true (all_get e1 22 rfl)) l31 c31 (all_get e1 23 rfl) (of_decide_eq_true (all_get e1 24 rfl)) l32 c32 (all_get e1 25 rfl) (of_decide_eq_true (all_get e1 26 rfl)) l33 c33 (all_get e1 27 rfl) (of_decide_eq_true (all_get e1 28 rfl)) l34 c34 (all_get e1 29 rfl) (of_decide_eq_true (all_get e1 30 rfl)) l35 c35 (all_get e1 31 rfl) (of_decide_eq_true (all_get e1 32 rfl)) l36 c36 (all_get e1 33 rfl) (of_decide_eq_true (all_get e1 34 rfl)) l37 c37 (all_get e1 35 rfl) (of_decide_eq_true (all_get e1 36 rfl)) l38 c38 (all_get e1 37 rfl) (of_decide_eq_true (all_get e1 38 rfl)) l39 c39 (all_get e1 39 rfl) (of_decide_eq_true (all_get e2 0 rfl)) (of_decide_eq_true (all_get e2 1 rfl)) (of_decide_eq_true (all_get e2 2 rfl)) (of_decide_eq_true (all_get e2 3 rfl)) (of_decide_eq_true (all_get e2 4 rfl)) (of_decide_eq_true (all_get e2 5 rfl)) (of_decide_eq_true (all_get e2 6 rfl)) (of_decide_eq_true (all_get e2 7 rfl)) (of_decide_eq_true (all_get e2 8 rfl)) (of_decide_eq_true (all_get e2 9 rfl)) (of_decide_eq_true (all_get e2 10 rfl)) (of_decide_eq_true (all_get e2 11 rfl)) (of_decide_eq_true (all_get e2 12 rfl)) (of_decide_eq_true (all_get e2 13 rfl)) (of_decide_eq_true (all_get e2 14 rfl)) (of_decide_eq_true (all_get e2 15 rfl)) (all_get e2 16 rfl) (of_decide_eq_true (all_get e2 17 rfl)) (of_decide_eq_true (all_get e2 18 rfl)) (all_get e2 19 rfl) (of_decide_eq_true (all_get e2 20 rfl)) (of_decide_eq_true (all_get e2 21 rfl)) (all_get e2 22 rfl) (of_decide_eq_true (all_get e2 23 rfl)) (of_decide_eq_true (all_get e2 24 rfl)) (all_get e2 25 rfl) (of_decide_eq_true (all_get e2 26 rfl)) (of_decide_eq_true (all_get e2 27 rfl)) (all_get e2 28 rfl) (of_decide_eq_true (all_get e2 29 rfl)) (of_decide_eq_true (all_get e2 30 rfl)) (all_get e2 31 rfl) (of_decide_eq_true (all_get e2 32 rfl)) (of_decide_eq_true (all_get e2 33 rfl)) (all_get e2 34 rfl) (of_decide_eq_true (all_get e2 35 rfl)) (of_decide_eq_true (all_get e2 36 rfl)) (all_get e2 37 rfl) (of_decide_eq_true (all_get e2 38 rfl)) (of_decide_eq_true (all_get e2 39 rfl)) (all_get e3 0 rfl) (of_decide_eq_true (all_get e3 1 rfl)) (of_decide_eq_true (all_get e3 2 rfl)) (all_get e3 3 rfl) (of_decide_eq_true (all_get e3 4 rfl)) (of_decide_eq_true (all_get e3 5 rfl)) (all_get e3 6 rfl) (of_decide_eq_true (all_get e3 7 rfl)) (of_decide_eq_true (all_get e3 8 rfl)) (all_get e3 9 rfl) (of_decide_eq_true (all_get e3 10 rfl)) (of_decide_eq_true (all_get e3 11 rfl)) (all_get e3 12 rfl) (of_decide_eq_true (all_get e3 13 rfl)) (all_get e3 14 rfl) (all_get e3 15 rfl) (of_decide_eq_true (all_get e3 16 rfl)) (of_decide_eq_true (all_get e3 17 rfl)) (of_decide_eq_true (all_get e3 18 rfl)) (of_decide_eq_true (all_get e3 19 rfl)) (of_decide_eq_true (all_get e3 20 rfl)) (of_decide_eq_true (all_get e3 21 rfl)) (of_decide_eq_true (all_get e3 22 rfl)) (of_decide_eq_true (all_get e3 23 rfl)) (of_decide_eq_true (all_get e3 24 rfl)) (of_decide_eq_true (all_get e3 25 rfl)) (of_decide_eq_true (all_get e3 26 rfl)) (of_decide_eq_true (all_get e3 27 rfl)) (of_decide_eq_true (all_get e3 28 rfl)) (of_decide_eq_true (all_get e3 29 rfl)) (of_decide_eq_true (all_get e3 30 rfl)) (of_decide_eq_true (all_get e3 31 rfl)) (of_decide_eq_true (all_get e3 32 rfl)) (of_decide_eq_true (all_get e3 33 rfl)) (all_get e3 34 rfl) (all_get e3 35 rfl) (of_decide_eq_true (all_get e3 36 rfl)) (of_decide_eq_true (all_get e3 37 rfl)) (of_decide_eq_true (all_get e3 38 rfl)) (of_decide_eq_true (all_get e3 39 rfl)) (of_decide_eq_true (all_get e4 0 rfl)) (of_decide_eq_true (all_get e4 1 rfl)) (of_decide_eq_true (all_get e4 2 rfl)) (of_decide_eq_true (all_get e4 3 rfl)) (of_decide_eq_true (all_get e4 4 rfl)) (of_decide_eq_true (all_get e4 5 rfl)) (of_decide_eq_true (all_get e4 6 rfl)) (of_decide_eq_true (all_get e4 7 rfl)) (of_decide_eq_true (all_get e4 8 rfl)) (of_decide_eq_true (all_get e4 9 rfl)) (of_decide_eq_true (all_get e4 10 rfl)) (of_decide_eq_true (all_get e4 11 rfl)) (of_decide_eq_true (all_get e4 12 rfl)) (of_decide_eq_true (all_get e4 13 rfl)) (of_decide_eq_true (all_get e4 14 rfl)) (c.hd ("law", none) (by simp [tf])) (c.out ("law", none) (by simp [tf])) (of_decide_eq_true (all_get e4 15 rfl)) (of_decide_eq_true (all_get e4 16 rfl)) (of_decide_eq_true (all_get e4 17 rfl)) (of_decide_eq_true (all_get e4 18 rfl)) (of_decide_eq_true (all_get e4 19 rfl)) (of_decide_eq_true (all_get e4 20 rfl)) (of_decide_eq_true (all_get e4 21 rfl)) (of_decide_eq_true (all_get e4 22 rfl)) (of_decide_eq_true (all_get e4 23 rfl)) (of_decide_eq_true (all_get e4 24 rfl)) (of_decide_eq_true (all_get e4 25 rfl)) (of_decide_eq_true (all_get e4 26 rfl)) (of_decide_eq_true (all_get e4 27 rfl)) (of_decide_eq_true (all_get e4 28 rfl)) (of_decide_eq_true (all_get e4 29 rfl)) g_MOST_PLAY (c.empty ("law", none) (by simp [tf]))
end head
end K18
open PySem PySem.W PySem.Calls PyProof.Rows
set_option maxHeartbeats 0 in
theorem PySem.Challenge.cw_screwplay_k18_looks_that_measure_the_pla_holds : PySem.Challenge.rw_screwplay_k18_looks_that_measure_the_pla.Holds := by
  w_on; o_law
  refine HandSHeadRun.head_any (r := OpenLaw.row PySem.Challenge.rw_screwplay_k18_looks_that_measure_the_pla) (q := view (OpenLaw.row PySem.Challenge.rw_screwplay_k18_looks_that_measure_the_pla).prog [57]) (H := K18.hk) (ob := K18.ob) (M := 40000) (loose := K18.names) (d := HandSHeadRun.topDef (OpenLaw.row PySem.Challenge.rw_screwplay_k18_looks_that_measure_the_pla).prog 57) (kwd := []) K18.ob_eq (by kernel_rfl) (fun s => by kernel_rfl) K18.run (by kernel_rfl) (by kernel_rfl) (by kernel_rfl) (by rfl) (by first | assumption | decide +kernel) (by decide +kernel) ⟨rfl, rfl, rfl, rfl, rfl, by decide +kernel⟩ ?hw ?hc
  case hw => w_witness2
  case hc =>
    refine LamX.walk_ofTsE (l := PySem.Challenge.rw_screwplay_k18_looks_that_measure_the_pla) (n := 63) (k := 22) (x := "script") (CX := fun w => L2N.CX (PySem.Challenge.rw_screwplay_k18_looks_that_measure_the_pla).prog w) rfl (by decide) (by kernel_rfl) ⟨rfl, by decide, by decide⟩ ?F (fun _ _ _ _ _ h => by obtain ⟨_, _, _, _, _, _, _, _, _, _, _, _, h⟩ := h; exact h)
    intro w mg fa h Y G hmg0
    obtain ⟨K, KX, c⟩ := Y
    have hmg : mg ("law" : PySem.Str) = some (.ref fa) := by
      have e : (HandSHeadRun.topDef (OpenLaw.row PySem.Challenge.rw_screwplay_k18_looks_that_measure_the_pla).prog 57).name = ("law" : PySem.Str) := by kernel_rfl
      rw [← e]
      exact hmg0
    exact ⟨K, KX, K18.facts KX G hmg c⟩

