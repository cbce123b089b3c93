import PyProof.Rows.All
import HandS.ForMost
import HandS.ForExc
import HandS.Conv
import HandS.TupAny
import KE.KIndexOf
import HandS.Deep
import HandS.WordsDict
import HandS.SortInts
import HandS.More
import KE.DataMinMax
import KE.SortData
import HandS.Small
import KE.GoesEnum
import HandS.IsInst
import HandS.Style
import HandS.SetFor
import HandS.Strs
import KE.GoesMore
import PyProof.AutoSeq1
import HandS.TupMul
import HandS.NoneIn
import PyProof.TupleOfSeq
import HandS.Dict
import KE.KDictList
import PyProof.DictValues
import HandS.ClsMeth
import HandS.ExcInit
import HandS.ExcField
import HandS.ExcIs
import HandS.TryOnly
import KE.KExcIs
import HandS.HotCalls
import PyProof.Rows.IntBool
import PyProof.SumWalkG
import PyProof.WalksMore
import PyProof.DictUpdate
import PySem.Challenge.RW_rimasks_k72_cases_told
set_option Elab.async false
set_option linter.all false
set_option maxRecDepth 100000
set_option maxHeartbeats 4000000
/-! Tuples of which is known that they have no dict: all that this layer makes are such. -/
namespace DL
open PySem PySem.Spec L2
def TupR (K : PySem.W.Frag) (H : Hp) (a : Addr) (vs : List V) : Prop := (∃ o, H a = some (.frz o (.tup vs)) ∧ o.dict = none) ∨
  ∃ (o : Obj) (its : Array Value) (n : Nat), K.lookup a = some o ∧ o.dict = none ∧ o.cls = .type "tuple" ∧ o.data = .seq its n ∧ its.size ≤ sizeLine ∧ Vals vs its.toList
theorem TupR.sq {K : PySem.W.Frag} {H : Hp} {a : Addr} {vs : List V} (h : TupR K H a vs) : SqT K H a vs := by
  rcases h with ⟨o, h, _⟩ | ⟨o, its, n, h1, _, h2, h3, h4, h5⟩
  · exact .inl (.inr ⟨o, h⟩)
  · exact .inr ⟨o, its, n, h1, h2, h3, h4, h5⟩
/-- a new tuple that may be anywhere -/
def newT (H : Hp) (vs : List V) (Q : VK) : Prop := ∀ p o, H p = none → o.dict = none → Q (.ref p) (upd H p (.frz o (.tup vs)))
abbrev tupObj (its : List Value) : Obj := { cls := .type "tuple", data := .seq its.toArray }
section
variable {X : Cx} {pins : List (Addr × Obj)} {σ : L2.St} {H : Hp} {s : Shared}
theorem laidT {its : List Value} {vs : List V} {t' : Nat} (I : Inv X pins σ H s) (r : Vals vs its) (hz : vs.length ≤ sizeLine) :
    Inv X pins σ (upd H s.heap.objs.size (.frz (tupObj its) (.tup vs))) { s with heap := s.heap.push (tupObj its), toks := t' } :=
  I.laid (fun b u e => Heap.get?_push_of_some _ e) (Nat.le_refl _)
    ⟨Heap.get?_push_size _ rfl, show ObjOk X.prog X.w _ _ _ (.tup vs) from ⟨hz, its, r, PyProof.Rows.IsTup.new _ _⟩⟩
theorem newT_fin {its : List Value} {vs : List V} {t' : Nat} {Q : VK} (I : Inv X pins σ H s) (r : Vals vs its) (hz : vs.length ≤ sizeLine) (q : newT H vs Q) :
    EP X pins σ Q (.ref s.heap.objs.size) { s with heap := s.heap.push (tupObj its), toks := t' } :=
  ⟨.ref s.heap.objs.size, _, laidT I r hz, rfl, q _ _ (I.hok.fresh (Nat.le_refl _)) rfl⟩
theorem tuple_dict {a : Addr} {vs : List V} (I : Inv X pins σ H s) (h : TupR X.K H a vs) :
    ∃ its : List Value, Vals vs its ∧ PyProof.Rows.IsTup s.heap a its.toArray ∧ vs.length ≤ sizeLine ∧ ∃ ob, s.heap.get? a = some ob ∧ ob.dict = none := by
  obtain ⟨its, r, p, hz⟩ := I.tuple h.sq
  refine ⟨its, r, p, hz, ?_⟩
  rcases h with ⟨o, h, d⟩ | ⟨o, _, _, h1, d, _⟩
  · exact ⟨o, (I.hok _ _ h).1, d⟩
  · exact ⟨o, I.kIn a o h1, d⟩
end
section
variable {X : Cx} {es : List Expr} {t : TA} {pos : Pos}
def tTupF (t : TA) : TE := fun σ H Q => t σ H fun xs H1 => xs.length ≤ sizeLine ∧ newT H1 xs Q
theorem pe_tupF {k : Nat} (h : PA X es t) : PE X (.Tuple es k pos) (tTupF t) :=
  ⟨fun pins s σ H Q I hq => wpAny_Tuple_spliced (thn (h.run pos pins s σ H _ I hq)
    fun us s1 ⟨xs, H1, I1, r, z, q⟩ => ⟨by rw [← r.length]; exact z, newT_fin (t' := s1.toks) I1 r z q⟩)⟩
/-- t + u -/
def rCatF (K : PySem.W.Frag) : R2 := fun x y H Q => ∃ a b xs ys, x = .ref a ∧ y = .ref b ∧ SqT K H a xs ∧ SqT K H b ys ∧ xs.length + ys.length ≤ sizeLine ∧
  (xs = [] → Q (.ref b) H) ∧ (xs ≠ [] → ys = [] → Q (.ref a) H) ∧ (xs ≠ [] → ys ≠ [] → newT H (xs ++ ys) Q)
theorem op_catF : OpR X (binaryOp .Add) (rCatF X.K) := fun pins s σ H _ _ v u Q I rx ry ⟨a, b, xs, ys, ex, ey, ha, hb, hz, q0, q1, q2⟩ => by
  rcases Decidable.em (xs = [] ∨ ys = []) with void | full
  · -- one of them is void: the other one itself
    exact op_catA pins s σ H _ _ v u Q I rx ry ⟨a, b, xs, ys, ex, ey, ha, hb, hz, q0, q1, fun n1 n2 => (void.elim n1 n2).elim⟩
  · obtain ⟨n1, n2⟩ := not_or.mp full
    subst ex ey
    cases rx
    cases ry
    have ⟨us, ru, tu, _⟩ := I.tuple ha
    have ⟨ws, rw', tw, _⟩ := I.tuple hb
    apply HT.cat_tup tu tw
    · exact fun z => n1 (ru.nil_iff.mp z)
    · exact fun z => (n2 (rw'.nil_iff.mp z)).elim
    · exact fun _ => newT_fin I (ru.append rw') (List.length_append ▸ hz) (q2 n1 n2)
    · exact ru.length ▸ rw'.length ▸ hz
/-- t[lo:hi] -/
def whole (n : Nat) (lo hi : Option Int) : Prop := HT.sIx n 0 lo = 0 ∧ HT.sIx n n hi = n
def rSlF (K : PySem.W.Frag) : V → Option Int → Option Int → Hp → VK → Prop := fun x lo hi H Q =>
  ∃ a xs, x = .ref a ∧ SqT K H a xs ∧ (whole xs.length lo hi → Q (.ref a) H) ∧ (¬ whole xs.length lo hi → newT H (cutV xs lo hi) Q)
theorem cutV_vals {xs : List V} {its : List Value} (r : Vals xs its) (lo hi : Option Int) :
    Vals (cutV xs lo hi) ((its.drop (HT.sIx its.length 0 lo)).take (HT.sIx its.length its.length hi - HT.sIx its.length 0 lo)) := by
  unfold cutV
  rw [r.length]
  exact (r.drop _).take _
theorem sl_tupF : SlR X (rSlF X.K) := fun pins s σ H _ v vl vu lo hi sl Q I rx hs pl pu ⟨a, xs, ex, hx, all, part⟩ => by
  by_cases hw : whole xs.length lo hi
  · exact sl_tupA pins s σ H _ v vl vu lo hi sl Q I rx hs pl pu ⟨a, xs, ex, hx, fun _ => all hw, fun n => (n hw).elim⟩
  · subst ex
    cases rx
    have ⟨us, ru, tu, small⟩ := I.tuple hx
    have size : us.toArray.size = xs.length := List.size_toArray.trans ru.length.symm
    have piece := newT_fin (t' := s.toks) I (cutV_vals ru lo hi) (Nat.le_trans (cutV_length ..) small) (part hw)
    exact ⟨"tuple", _, PyProof.Rows.slot_tuple_getitem.lookup, tu.typeIs, HT.getItem_tuple_cut tu hs pl pu (size ▸ hw) (by simpa using piece) (size ▸ small)⟩
/-- tuple(xs) -/
def rTupOf (K : PySem.W.Frag) : List V → Hp → VK → Prop := fun xs H Q => ∃ p ys, xs = [.ref p] ∧ ((SqL K H p ys ∧ newT H ys Q) ∨ (SqT K H p ys ∧ Q (.ref p) H))
theorem call_tupOf : CallR X (.type "tuple") (rTupOf X.K) := fun pins s σ H _ us Q I r ⟨p, ys, ex, h⟩ => by
  cases h with
  | inr own => exact call_tuple_of pins s σ H _ us Q I r ⟨p, ys, ex, .inr own⟩
  | inl new =>
    subst ex
    rw [Vals.ref1 r]
    have ⟨ws, rw', lw, small⟩ := I.list new.1
    have few : ws.toArray.size ≤ sizeLine := by simpa [← rw'.length] using small
    exact call_tuple_list lw.isList (fun g kept => newT_fin (s := { s with heap := g }) (I.kept (t' := s.toks) kept) rw' small new.2) few
end
/-! ### t.index(x) -/
section
variable {X : Cx} {o e : Expr} {to te : TE} {apos cpos : Pos} {rr : V → List V → Hp → VK → Prop} {name : Str} {id : String}
/-- a method of a tuple -/
def tTM (K : PySem.W.Frag) (r : V → List V → Hp → VK → Prop) (to : TE) (t : TA) : TE := fun σ H Q => to σ H fun x H1 => (∃ a vs, x = .ref a ∧ TupR K H1 a vs) ∧ t σ H1 fun xs H2 => r x xs H2 Q
/-- how a method's call is written: what the model looks at ahead of it -/
structure Written (X : Cx) (o e : Expr) (es : List Expr) (name : Str) (apos cpos : Pos) : Prop where
  base : attributeBase o name X.env (eval o X.env) = eval o X.env
  few : (((backTo cpos (starEach (e :: es) X.env)).all fun x => !x.1) && (backToKw cpos (keywordEach [] X.env)).all (fun x => x.1.isSome) && decide ((e :: es).length + 0 + 0 < 30)) = true
  line : (apos.endLine == cpos.line) = true
  first : starEach (e :: es) X.env = (false, eval e X.env) :: starEach es X.env
  plain : (backTo cpos (starEach es X.env)).any (·.1) = false
theorem pe_tm {es : List Expr} {t : TA} (slot : Slot "tuple" name id) (hty : typeOf (.builtin id) = pure (.type "method_descriptor")) (hm : MtR X id rr) (ho : PE X o to) (ha : PA X (e :: es) t)
    (W : Written X o e es name apos cpos := by exact ⟨rfl, rfl, rfl, rfl, rfl⟩) : PE X (.Call (.Attribute o name apos) (e :: es) [] cpos) (tTM X.K rr to t) where
  run pins s σ H Q I h := wpAny_Call_method_late W.base W.few W.line rfl <| thn (ho.run pins s σ H _ I h) <| by
    rintro _ s1 ⟨_, H1, I1, told1, ⟨a, vs, rfl, tr⟩, args⟩
    cases told1
    have ⟨_, _, tup, _, bare⟩ := tuple_dict I1 tr
    refine ⟨"tuple", id, PySem.F.plainAttrs_tuple, slot, hty, tup.typeIs, fun _ eb => by cases eb; exact bare, ?_⟩
    have told := ha.run cpos pins s1 σ H1 _ I1 args
    rw [W.first] at told ⊢
    exact Calls.callWith_builtin (by simpa [backTo] using W.plain) (Calls.evalArgs_plain (thn told fun us s2 ⟨ws, H2, I2, r2, q2⟩ => hm pins s2 σ H2 (.ref a) ws _ us Q I2 rfl r2 q2))
/-- its first place, of ints -/
def rTIdx (K : PySem.W.Frag) : V → List V → Hp → VK → Prop := fun x xs H Q => ∃ (a : Addr) (ns : List Int) (k : Int), x = .ref a ∧ xs = [.int k] ∧ SqT K H a (ns.map V.int) ∧ k ∈ ns ∧ Q (.int (ns.idxOf k : Nat)) H
theorem mt_tidx : MtR X "tuple.index" (rTIdx X.K) := by
  rintro pins s σ H _ _ _ us Q I at1 args ⟨a, ns, k, rfl, rfl, ht, mem, q⟩
  cases at1
  cases args with
  | cons one rest =>
    cases rest
    obtain ⟨t, rfl⟩ := one
    obtain ⟨_, nums, tup, _⟩ := I.tuple ht
    exact PySem.SeqAt.tuple_index_ints tup nums.ints mem ⟨.int _, H, I.tok _, ⟨_, rfl⟩, q⟩
end
end DL
/-! Data by value over the hand layer: what stands in a frame's slots, and what it owns. -/
namespace DL
open PySem PySem.Spec L2
inductive D where
  | non | bl (b : Bool) | int (i : Int) | str (x : Str)
  | tup (ds : List D) | lst (ds : List D) | flst (ds : List D) | dic (kvs : List (Key × D)) | fdic (kvs : List (Key × D))
  | exc (a : Addr) (c : Str) (dd : Addr) (kvs : List (Key × D))
mutual
/-- holds nothing that may be changed -/
def imm : D → Bool
  | .non => true | .bl _ => true | .int _ => true | .str _ => true
  | .tup ds => immL ds
  | .lst _ => false
  | .flst ds => immL ds
  | .dic _ => false
  | .fdic kvs => immK kvs
  | .exc _ _ _ kvs => immK kvs
def immL : List D → Bool
  | [] => true
  | d :: ds => imm d && immL ds
def immK : List (Key × D) → Bool
  | [] => true
  | (_, d) :: r => imm d && immK r
end
/-- a list that nobody changes any more -/
def SqF (K : PySem.W.Frag) (H : Hp) (a : Addr) (vs : List V) : Prop := (∃ o, H a = some (.frz o (.lst vs))) ∨ SqL K (fun _ => none) a vs
/-- the fields of a caught exception -/
def fldOf : Key → Str
  | .inr x => x
  | .inl _ => ""
def xdOf (ws : List (Key × V)) : List (Str × V) := ws.map fun kv => (fldOf kv.1, kv.2)
mutual
/-- the value v is d, by the heap H; what it owns: f -/
def Rep (K : PySem.W.Frag) (H : Hp) : D → V → List Addr → Prop
  | .non, v, f => v = .non ∧ f = []
  | .bl b, v, f => v = .bl b ∧ f = []
  | .int i, v, f => v = .int i ∧ f = []
  | .str x, v, f => v = .str x ∧ f = []
  | .tup ds, v, f => ∃ a vs, v = .ref a ∧ TupR K H a vs ∧ RepL K H ds vs f
  | .lst ds, v, f => ∃ a vs g, v = .ref a ∧ H a = some (.lst vs) ∧ f = a :: g ∧ RepL K H ds vs g
  | .flst ds, v, f => ∃ a vs, v = .ref a ∧ SqF K H a vs ∧ RepL K H ds vs f
  | .dic kvs, v, f => ∃ a ws g, v = .ref a ∧ H a = some (.dK ws) ∧ f = a :: g ∧ RepK K H kvs ws g
  | .fdic kvs, v, f => ∃ a ws, v = .ref a ∧ (∃ o, H a = some (.frz o (.dK ws))) ∧ RepK K H kvs ws f
  | .exc a _ dd kvs, v, f => ∃ ws, v = .ref a ∧ H dd = some (.xd (xdOf ws)) ∧ RepK K H kvs ws f
def RepL (K : PySem.W.Frag) (H : Hp) : List D → List V → List Addr → Prop
  | [], vs, f => vs = [] ∧ f = []
  | d :: ds, vs, f => ∃ v vs' f1 f2, vs = v :: vs' ∧ f = f1 ++ f2 ∧ Rep K H d v f1 ∧ RepL K H ds vs' f2
def RepK (K : PySem.W.Frag) (H : Hp) : List (Key × D) → List (Key × V) → List Addr → Prop
  | [], ws, f => ws = [] ∧ f = []
  | (k, d) :: r, ws, f => ∃ v ws' f1 f2, ws = (k, v) :: ws' ∧ f = f1 ++ f2 ∧ Rep K H d v f1 ∧ RepK K H r ws' f2
end
def MutO : Option HO → Prop
  | some (.lst _) => True
  | some (.dK _) => True
  | some (.ins _ _ _) => True
  | some (.own _) => True
  | _ => False
theorem MutO.some_ {o : Option HO} (h : MutO o) : ∃ u, o = some u := by
  cases o with
  | none => exact h.elim
  | some u => exact ⟨u, rfl⟩
section
variable {K : PySem.W.Frag} {H H' : Hp}
mutual
theorem Rep.mut : ∀ (d : D) (v : V) (f : List Addr), Rep K H d v f → ∀ a ∈ f, MutO (H a)
  | .non, v, f, h => by obtain ⟨_, rfl⟩ := h; intro a ha; cases ha
  | .bl _, v, f, h => by obtain ⟨_, rfl⟩ := h; intro a ha; cases ha
  | .int _, v, f, h => by obtain ⟨_, rfl⟩ := h; intro a ha; cases ha
  | .str _, v, f, h => by obtain ⟨_, rfl⟩ := h; intro a ha; cases ha
  | .tup ds, v, f, h => by obtain ⟨_, vs, _, _, h⟩ := h; exact RepL.mut ds vs f h
  | .lst ds, v, f, h => by
    obtain ⟨p, vs, g, _, e, rfl, h⟩ := h
    intro a ha
    rcases List.mem_cons.mp ha with rfl | ha
    · rw [e]; trivial
    · exact RepL.mut ds vs g h a ha
  | .flst ds, v, f, h => by obtain ⟨_, vs, _, _, h⟩ := h; exact RepL.mut ds vs f h
  | .dic kvs, v, f, h => by
    obtain ⟨p, ws, g, _, e, rfl, h⟩ := h
    intro a ha
    rcases List.mem_cons.mp ha with rfl | ha
    · rw [e]; trivial
    · exact RepK.mut kvs ws g h a ha
  | .fdic kvs, v, f, h => by obtain ⟨_, ws, _, _, h⟩ := h; exact RepK.mut kvs ws f h
  | .exc _ _ _ kvs, v, f, h => by obtain ⟨ws, _, _, h⟩ := h; exact RepK.mut kvs ws f h
theorem RepL.mut : ∀ (ds : List D) (vs : List V) (f : List Addr), RepL K H ds vs f → ∀ a ∈ f, MutO (H a)
  | [], vs, f, h => by obtain ⟨_, rfl⟩ := h; intro a ha; cases ha
  | d :: ds, vs, f, h => by
    obtain ⟨v, vs', f1, f2, _, rfl, h1, h2⟩ := h
    intro a ha
    rcases List.mem_append.mp ha with ha | ha
    · exact Rep.mut d v f1 h1 a ha
    · exact RepL.mut ds vs' f2 h2 a ha
theorem RepK.mut : ∀ (kvs : List (Key × D)) (ws : List (Key × V)) (f : List Addr), RepK K H kvs ws f → ∀ a ∈ f, MutO (H a)
  | [], ws, f, h => by obtain ⟨_, rfl⟩ := h; intro a ha; cases ha
  | (k, d) :: r, ws, f, h => by
    obtain ⟨v, ws', f1, f2, _, rfl, h1, h2⟩ := h
    intro a ha
    rcases List.mem_append.mp ha with ha | ha
    · exact Rep.mut d v f1 h1 a ha
    · exact RepK.mut r ws' f2 h2 a ha
end
/-- nothing but what may be changed, and nothing of f, is otherwise -/
def Keep (H : Hp) (f : List Addr) (H' : Hp) : Prop := ∀ a u, H a = some u → (¬ MutO (H a) ∨ a ∈ f) → H' a = some u
theorem Keep.sub {f g : List Addr} (k : Keep H f H') (h : ∀ a ∈ g, a ∈ f) : Keep H g H' := fun a u e q => k a u e (q.imp id (h a))
theorem tupR_keep {a : Addr} {vs : List V} {f : List Addr} (h : TupR K H a vs) (k : Keep H f H') : TupR K H' a vs := by
  rcases h with ⟨o, h, d⟩ | h
  · exact .inl ⟨o, k a _ h (.inl (by rw [h]; exact id)), d⟩
  · exact .inr h
theorem SqF.keep {a : Addr} {vs : List V} {f : List Addr} (h : SqF K H a vs) (k : Keep H f H') : SqF K H' a vs := by
  rcases h with ⟨o, h⟩ | h
  · exact .inl ⟨o, k a _ h (.inl (by rw [h]; exact id))⟩
  · exact .inr h
theorem SqF.seq {a : Addr} {vs : List V} (h : SqF K H a vs) : SqL K H a vs := by
  rcases h with ⟨o, h⟩ | h
  · exact .inl (.inr ⟨o, h⟩)
  · rcases h with (h | ⟨o, h⟩) | h
    · cases h
    · cases h
    · exact .inr h
mutual
theorem Rep.keep : ∀ (d : D) (v : V) (f : List Addr), Rep K H d v f → Keep H f H' → Rep K H' d v f
  | .non, v, f, h, _ => h
  | .bl _, v, f, h, _ => h
  | .int _, v, f, h, _ => h
  | .str _, v, f, h, _ => h
  | .tup ds, v, f, h, k => by
    obtain ⟨a, vs, e, q, h⟩ := h
    exact ⟨a, vs, e, tupR_keep q k, RepL.keep ds vs f h k⟩
  | .lst ds, v, f, h, k => by
    obtain ⟨p, vs, g, e1, e, rfl, h⟩ := h
    exact ⟨p, vs, g, e1, k p _ e (.inr List.mem_cons_self), rfl, RepL.keep ds vs g h (k.sub fun a ha => List.mem_cons_of_mem _ ha)⟩
  | .flst ds, v, f, h, k => by
    obtain ⟨a, vs, e, q, h⟩ := h
    exact ⟨a, vs, e, SqF.keep q k, RepL.keep ds vs f h k⟩
  | .dic kvs, v, f, h, k => by
    obtain ⟨p, ws, g, e1, e, rfl, h⟩ := h
    exact ⟨p, ws, g, e1, k p _ e (.inr List.mem_cons_self), rfl, RepK.keep kvs ws g h (k.sub fun a ha => List.mem_cons_of_mem _ ha)⟩
  | .fdic kvs, v, f, h, k => by
    obtain ⟨a, ws, e, ⟨o, q⟩, h⟩ := h
    exact ⟨a, ws, e, ⟨o, k a _ q (.inl (by rw [q]; exact id))⟩, RepK.keep kvs ws f h k⟩
  | .exc a C dd kvs, v, f, h, k => by
    obtain ⟨ws, e, q, h⟩ := h
    exact ⟨ws, e, k dd _ q (.inl (by rw [q]; exact id)), RepK.keep kvs ws f h k⟩
theorem RepL.keep : ∀ (ds : List D) (vs : List V) (f : List Addr), RepL K H ds vs f → Keep H f H' → RepL K H' ds vs f
  | [], vs, f, h, _ => h
  | d :: ds, vs, f, h, k => by
    obtain ⟨v, vs', f1, f2, e, rfl, h1, h2⟩ := h
    exact ⟨v, vs', f1, f2, e, rfl, Rep.keep d v f1 h1 (k.sub fun a ha => List.mem_append_left _ ha), RepL.keep ds vs' f2 h2 (k.sub fun a ha => List.mem_append_right _ ha)⟩
theorem RepK.keep : ∀ (kvs : List (Key × D)) (ws : List (Key × V)) (f : List Addr), RepK K H kvs ws f → Keep H f H' → RepK K H' kvs ws f
  | [], ws, f, h, _ => h
  | (kk, d) :: r, ws, f, h, k => by
    obtain ⟨v, ws', f1, f2, e, rfl, h1, h2⟩ := h
    exact ⟨v, ws', f1, f2, e, rfl, Rep.keep d v f1 h1 (k.sub fun a ha => List.mem_append_left _ ha), RepK.keep r ws' f2 h2 (k.sub fun a ha => List.mem_append_right _ ha)⟩
end
mutual
theorem Rep.imm : ∀ (d : D) (v : V) (f : List Addr), Rep K H d v f → imm d = true → f = []
  | .non, v, f, h, _ => h.2
  | .bl _, v, f, h, _ => h.2
  | .int _, v, f, h, _ => h.2
  | .str _, v, f, h, _ => h.2
  | .tup ds, v, f, h, k => by
    obtain ⟨a, vs, e, q, h⟩ := h
    exact RepL.imm ds vs f h k
  | .lst ds, v, f, h, k => by cases k
  | .flst ds, v, f, h, k => by
    obtain ⟨a, vs, e, q, h⟩ := h
    exact RepL.imm ds vs f h k
  | .dic kvs, v, f, h, k => by cases k
  | .fdic kvs, v, f, h, k => by
    obtain ⟨a, ws, e, q, h⟩ := h
    exact RepK.imm kvs ws f h k
  | .exc _ _ _ kvs, v, f, h, k => by
    obtain ⟨ws, e, q, h⟩ := h
    exact RepK.imm kvs ws f h k
theorem RepL.imm : ∀ (ds : List D) (vs : List V) (f : List Addr), RepL K H ds vs f → immL ds = true → f = []
  | [], vs, f, h, _ => h.2
  | d :: ds, vs, f, h, k => by
    obtain ⟨v, vs', f1, f2, e, rfl, h1, h2⟩ := h
    have k' : (DL.imm d && immL ds) = true := k
    rw [Bool.and_eq_true] at k'
    rw [Rep.imm d v f1 h1 k'.1, RepL.imm ds vs' f2 h2 k'.2]
    rfl
theorem RepK.imm : ∀ (kvs : List (Key × D)) (ws : List (Key × V)) (f : List Addr), RepK K H kvs ws f → immK kvs = true → f = []
  | [], ws, f, h, _ => h.2
  | (kk, d) :: r, ws, f, h, k => by
    obtain ⟨v, ws', f1, f2, e, rfl, h1, h2⟩ := h
    have k' : (DL.imm d && immK r) = true := k
    rw [Bool.and_eq_true] at k'
    rw [Rep.imm d v f1 h1 k'.1, RepK.imm r ws' f2 h2 k'.2]
    rfl
end
theorem RepL.length : ∀ {ds : List D} {vs : List V} {f : List Addr}, RepL K H ds vs f → vs.length = ds.length
  | [], vs, f, h => by rw [h.1]; rfl
  | d :: ds, vs, f, h => by
    obtain ⟨v, vs', f1, f2, e, _, _, h2⟩ := h
    rw [e, List.length_cons, List.length_cons, RepL.length h2]
theorem RepL.append : ∀ {ds es : List D} {vs ws : List V} {f g : List Addr}, RepL K H ds vs f → RepL K H es ws g → RepL K H (ds ++ es) (vs ++ ws) (f ++ g)
  | [], es, vs, ws, f, g, h, h' => by obtain ⟨rfl, rfl⟩ := h; exact h'
  | d :: ds, es, vs, ws, f, g, h, h' => by
    obtain ⟨v, vs', f1, f2, rfl, rfl, h1, h2⟩ := h
    exact ⟨v, vs' ++ ws, f1, f2 ++ g, rfl, List.append_assoc .., h1, RepL.append h2 h'⟩
theorem RepL.split : ∀ {ds es : List D} {vs : List V} {f : List Addr}, RepL K H (ds ++ es) vs f → ∃ v1 v2 f1 f2, vs = v1 ++ v2 ∧ f = f1 ++ f2 ∧ RepL K H ds v1 f1 ∧ RepL K H es v2 f2
  | [], es, vs, f, h => ⟨[], vs, [], f, rfl, rfl, ⟨rfl, rfl⟩, h⟩
  | d :: ds, es, vs, f, h => by
    obtain ⟨v, vs', f1, f2, rfl, rfl, h1, h2⟩ := h
    obtain ⟨v1, v2, g1, g2, rfl, rfl, q1, q2⟩ := RepL.split h2
    exact ⟨v :: v1, v2, f1 ++ g1, g2, rfl, (List.append_assoc ..).symm, ⟨v, v1, f1, g1, rfl, rfl, h1, q1⟩, q2⟩
/-- an item, and the rest -/
theorem RepL.at {ds : List D} {vs : List V} {f : List Addr} {i : Nat} {d : D} (h : RepL K H ds vs f) (e : ds[i]? = some d) :
    ∃ v f1 f2 f3, vs[i]? = some v ∧ f = f1 ++ (f2 ++ f3) ∧ Rep K H d v f2 ∧
      (∀ d' v' g, Rep K H d' v' g → RepL K H (ds.set i d') (vs.set i v') (f1 ++ (g ++ f3))) ∧ RepL K H (ds.eraseIdx i) (vs.eraseIdx i) (f1 ++ f3) := by
  induction ds generalizing vs f i with
  | nil => simp at e
  | cons d0 ds ih =>
    obtain ⟨v, vs', f1, f2, rfl, rfl, h1, h2⟩ := h
    cases i with
    | zero =>
      simp at e
      subst e
      exact ⟨v, [], f1, f2, rfl, rfl, h1, fun d' v' g r => ⟨v', vs', g, f2, rfl, rfl, r, h2⟩, h2⟩
    | succ i =>
      obtain ⟨v1, g1, g2, g3, e1, rfl, r1, r2, r3⟩ := ih h2 (by simpa using e)
      refine ⟨v1, f1 ++ g1, g2, g3, by simpa using e1, by simp, r1, fun d' v' g r => ?_, ?_⟩
      · exact ⟨v, vs'.set i v', f1, g1 ++ (g ++ g3), rfl, by simp, h1, r2 d' v' g r⟩
      · exact ⟨v, vs'.eraseIdx i, f1, g1 ++ g3, rfl, by simp, h1, r3⟩
/-- every single item of things that own nothing -/
theorem RepL.each {ds : List D} {vs : List V} {f : List Addr} (h : RepL K H ds vs f) (k : immL ds = true) : ∀ (i : Nat) (v : V), vs[i]? = some v → ∃ d, ds[i]? = some d ∧ Rep K H d v [] := by
  induction ds generalizing vs f with
  | nil => intro i v e; rw [h.1] at e; simp at e
  | cons d ds ih =>
    obtain ⟨v, vs', f1, f2, rfl, rfl, h1, h2⟩ := h
    have k' : (DL.imm d && immL ds) = true := k
    rw [Bool.and_eq_true] at k'
    intro i w e
    cases i with
    | zero => simp at e; subst e; have := Rep.imm _ _ _ h1 k'.1; subst this; exact ⟨d, rfl, h1⟩
    | succ i => exact ih h2 k'.2 i w (by simpa using e)
/-- things that own nothing, each by itself -/
theorem RepL.of_each : ∀ {ds : List D} {vs : List V}, vs.length = ds.length → (∀ (i : Nat) (d : D) (v : V), ds[i]? = some d → vs[i]? = some v → Rep K H d v []) → RepL K H ds vs []
  | [], vs, hl, _ => ⟨List.eq_nil_of_length_eq_zero hl, rfl⟩
  | d :: ds, [], hl, _ => by simp at hl
  | d :: ds, v :: vs, hl, h => ⟨v, vs, [], [], rfl, rfl, h 0 d v rfl rfl, RepL.of_each (by simpa using hl) fun i d' v' e1 e2 => h (i + 1) d' v' (by simpa using e1) (by simpa using e2)⟩
end
/-! ### a frame -/
abbrev Fm := List (Option D)
/-- the frame's slots -/
def EnvR (K : PySem.W.Frag) (H : Hp) : Fm → L2.St → List Addr → Prop
  | [], σ, F => σ = [] ∧ F = []
  | none :: ρ, σ, F => ∃ o σ', σ = o :: σ' ∧ EnvR K H ρ σ' F
  | some d :: ρ, σ, F => ∃ v σ' f g, σ = some v :: σ' ∧ F = f ++ g ∧ Rep K H d v f ∧ EnvR K H ρ σ' g
/-- what stood outside of F stands as it stood, outside of F' -/
def Step (H : Hp) (F : List Addr) (H' : Hp) (F' : List Addr) : Prop := ∀ a u, H a = some u → a ∉ F → H' a = some u ∧ a ∉ F'
section
variable {K : PySem.W.Frag} {H H' H2 : Hp} {F F' F2 f g : List Addr} {ρ : Fm} {σ : L2.St}
theorem Step.refl : Step H F H F := fun _ _ e n => ⟨e, n⟩
theorem Step.trans (a : Step H F H' F') (b : Step H' F' H2 F2) : Step H F H2 F2 := fun p u e n => let ⟨e1, n1⟩ := a p u e n; b p u e1 n1
theorem Step.to (a : Step H F H' F') (h : ∀ p ∈ F2, p ∈ F' ∨ H p = none) : Step H F H' F2 := fun p u e n => let ⟨e1, n1⟩ := a p u e n; ⟨e1, fun q => (h p q).elim n1 fun z => by rw [e] at z; cases z⟩
/-- .. with a part that isn't touched -/
theorem Step.keep (a : Step H F H' F') (mu : ∀ p ∈ F, MutO (H p)) (hd : ∀ p ∈ f, p ∉ F) : Keep H f H' := fun p u e q => by
  refine (a p u e ?_).1
  intro hp
  rcases q with q | q
  · exact q (mu p hp)
  · exact hd p q hp
theorem Step.apart (a : Step H F H' F') (mu : ∀ p ∈ f, MutO (H p)) (hd : ∀ p ∈ f, p ∉ F) : ∀ p ∈ f, p ∉ F' := fun p hp => by
  obtain ⟨u, e⟩ := (mu p hp).some_
  exact (a p u e (hd p hp)).2
theorem EnvR.mut : ∀ {ρ : Fm} {σ : L2.St} {F : List Addr}, EnvR K H ρ σ F → ∀ a ∈ F, MutO (H a)
  | [], σ, F, h => by intro a ha; rw [h.2] at ha; cases ha
  | none :: ρ, σ, F, h => by obtain ⟨_, _, _, h⟩ := h; exact EnvR.mut h
  | some d :: ρ, σ, F, h => by
    obtain ⟨v, σ', f, g, _, rfl, h1, h2⟩ := h
    intro a ha
    rcases List.mem_append.mp ha with ha | ha
    · exact Rep.mut _ _ _ h1 a ha
    · exact EnvR.mut h2 a ha
theorem EnvR.keep : ∀ {ρ : Fm} {σ : L2.St} {F : List Addr}, EnvR K H ρ σ F → Keep H F H' → EnvR K H' ρ σ F
  | [], σ, F, h, _ => h
  | none :: ρ, σ, F, h, k => by obtain ⟨o, σ', e, h⟩ := h; exact ⟨o, σ', e, EnvR.keep h k⟩
  | some d :: ρ, σ, F, h, k => by
    obtain ⟨v, σ', f, g, e, rfl, h1, h2⟩ := h
    exact ⟨v, σ', f, g, e, rfl, Rep.keep _ _ _ h1 (k.sub fun a ha => List.mem_append_left _ ha), EnvR.keep h2 (k.sub fun a ha => List.mem_append_right _ ha)⟩
theorem EnvR.length : ∀ {ρ : Fm} {σ : L2.St} {F : List Addr}, EnvR K H ρ σ F → σ.length = ρ.length
  | [], σ, F, h => by rw [h.1]; rfl
  | none :: ρ, σ, F, h => by obtain ⟨_, _, e, h⟩ := h; rw [e, List.length_cons, List.length_cons, EnvR.length h]
  | some d :: ρ, σ, F, h => by obtain ⟨_, _, _, _, e, _, _, h⟩ := h; rw [e, List.length_cons, List.length_cons, EnvR.length h]
/-- a slot, and the others -/
theorem EnvR.at {i : Nat} {d : D} (h : EnvR K H ρ σ F) (e : ρ[i]? = some (some d)) :
    ∃ v F1 f F3, σ[i]? = some (some v) ∧ F = F1 ++ (f ++ F3) ∧ Rep K H d v f ∧ EnvR K H (ρ.set i none) σ (F1 ++ F3) := by
  induction ρ generalizing σ F i with
  | nil => simp at e
  | cons o ρ ih =>
    cases i with
    | zero =>
      simp at e
      subst e
      obtain ⟨v, σ', f, g, rfl, rfl, h1, h2⟩ := h
      exact ⟨v, [], f, g, rfl, rfl, h1, ⟨some v, σ', rfl, h2⟩⟩
    | succ i =>
      cases o with
      | none =>
        obtain ⟨o', σ', rfl, h⟩ := h
        obtain ⟨v, F1, f, F3, e1, rfl, r, h'⟩ := ih h (by simpa using e)
        exact ⟨v, F1, f, F3, by simpa using e1, rfl, r, ⟨o', σ', rfl, h'⟩⟩
      | some d0 =>
        obtain ⟨v0, σ', f0, g0, rfl, rfl, h1, h2⟩ := h
        obtain ⟨v, F1, f, F3, e1, rfl, r, h'⟩ := ih h2 (by simpa using e)
        exact ⟨v, f0 ++ F1, f, F3, by simpa using e1, by simp, r, ⟨v0, σ', f0, F1 ++ F3, rfl, by simp, h1, h'⟩⟩
/-- a slot is forgotten -/
theorem EnvR.drop {i : Nat} (h : EnvR K H ρ σ F) : ∃ F1 f F3, F = F1 ++ (f ++ F3) ∧ EnvR K H (ρ.set i none) σ (F1 ++ F3) := by
  cases e : ρ[i]? with
  | none =>
    have hi : ρ.length ≤ i := List.getElem?_eq_none_iff.mp e
    rw [List.set_eq_of_length_le hi]
    exact ⟨F, [], [], by simp, by simpa using h⟩
  | some o =>
    cases o with
    | none =>
      have : ρ.set i none = ρ := by
        apply List.ext_getElem?
        intro j
        rw [List.getElem?_set]
        split
        · subst_vars
          split
          · rw [e]
          · rw [List.getElem?_eq_none (by omega)]
        · rfl
      rw [this]
      exact ⟨F, [], [], by simp, by simpa using h⟩
    | some d =>
      obtain ⟨v, F1, f, F3, e1, e2, r, h'⟩ := h.at e
      exact ⟨F1, f, F3, e2, h'⟩
/-- a slot that holds nothing known is filled -/
theorem EnvR.put {i : Nat} {d : D} {v : V} (h : EnvR K H (ρ.set i none) σ F) (hi : i < ρ.length) (e : σ[i]? = some (some v)) (r : Rep K H d v f) : ∃ F1 F3, F = F1 ++ F3 ∧ EnvR K H (ρ.set i (some d)) σ (F1 ++ (f ++ F3)) := by
  induction ρ generalizing σ F i with
  | nil => simp at hi
  | cons o ρ ih =>
    cases i with
    | zero =>
      obtain ⟨o', σ', rfl, h'⟩ := h
      simp at e
      subst e
      exact ⟨[], F, rfl, ⟨v, σ', f, F, rfl, rfl, r, h'⟩⟩
    | succ i =>
      cases o with
      | none =>
        obtain ⟨o', σ', rfl, h⟩ := h
        obtain ⟨F1, F3, rfl, h'⟩ := ih h (by simpa using hi) (by simpa using e)
        exact ⟨F1, F3, rfl, ⟨o', σ', rfl, h'⟩⟩
      | some d0 =>
        obtain ⟨v0, σ', f0, g0, rfl, rfl, h1, h2⟩ := h
        obtain ⟨F1, F3, rfl, h'⟩ := ih h2 (by simpa using hi) (by simpa using e)
        exact ⟨f0 ++ F1, F3, by simp, ⟨v0, σ', f0, F1 ++ (f ++ F3), rfl, by simp, h1, h'⟩⟩
/-- the value of a slot of which nothing is known -/
theorem EnvR.other {i : Nat} {o : Option V} (h : EnvR K H (ρ.set i none) σ F) : EnvR K H (ρ.set i none) (σ.set i o) F := by
  induction ρ generalizing σ F i with
  | nil => obtain ⟨rfl, rfl⟩ := h; exact ⟨rfl, rfl⟩
  | cons p ρ ih =>
    cases i with
    | zero => obtain ⟨o', σ', rfl, h'⟩ := h; exact ⟨o, σ', rfl, h'⟩
    | succ i =>
      cases p with
      | none => obtain ⟨o', σ', rfl, h⟩ := h; exact ⟨o', σ'.set i o, rfl, ih h⟩
      | some d0 => obtain ⟨v0, σ', f0, g0, rfl, rfl, h1, h2⟩ := h; exact ⟨v0, σ'.set i o, f0, g0, rfl, rfl, h1, ih h2⟩
end
end DL
/-! Expressions, tests, argument lists as partial functions of a frame. -/
namespace DL
open PySem PySem.Spec L2
/-- what an expression tells: a thing of its own, or what stands in a slot -/
inductive R where
  | val (d : D) | var (i : Nat)
def slot (ρ : Fm) (i : Nat) : Option D := match ρ[i]? with
  | some (some d) => some d
  | _ => none
def cont (ρ : Fm) : R → Option D
  | .val d => some d
  | .var i => slot ρ i
/-- it is kept somewhere else from now on: what may be changed is the slot's no more -/
def take1 (ρ : Fm) : R → Option (D × Fm)
  | .val d => some (d, ρ)
  | .var i => (slot ρ i).map fun d => (d, if imm d then ρ else ρ.set i none)
def RepR (K : PySem.W.Frag) (H : Hp) (σ : L2.St) : R → V → List Addr → Prop
  | .val d, v, g => Rep K H d v g
  | .var i, v, g => σ[i]? = some (some v) ∧ g = []
def RepRs (K : PySem.W.Frag) (H : Hp) (σ : L2.St) : List R → List V → List Addr → Prop
  | [], vs, g => vs = [] ∧ g = []
  | r :: rs, vs, g => ∃ v vs' g1 g2, vs = v :: vs' ∧ g = g1 ++ g2 ∧ RepR K H σ r v g1 ∧ RepRs K H σ rs vs' g2
def conts (ρ : Fm) : List R → Option (List D)
  | [] => some []
  | r :: rs => (cont ρ r).bind fun d => (conts ρ rs).map fun ds => d :: ds
def takes (ρ : Fm) : List R → Option (List D × Fm)
  | [] => some ([], ρ)
  | r :: rs => (take1 ρ r).bind fun (d, ρ1) => (takes ρ1 rs).map fun (ds, ρ2) => (d :: ds, ρ2)
section
variable {K : PySem.W.Frag} {H H' H2 : Hp} {F F' F2 G f g h : List Addr} {ρ ρ' : Fm} {σ : L2.St}
theorem nodup3 {a b : List Addr} (h : (a ++ b).Nodup) : a.Nodup ∧ b.Nodup ∧ ∀ x ∈ a, x ∉ b := by
  obtain ⟨h1, h2, h3⟩ := List.nodup_append.mp h
  exact ⟨h1, h2, fun x hx hy => h3 x hx x hy rfl⟩
theorem nodup_of {a b : List Addr} (h1 : a.Nodup) (h2 : b.Nodup) (h3 : ∀ x ∈ a, x ∉ b) : (a ++ b).Nodup :=
  List.nodup_append.mpr ⟨h1, h2, fun x hx y hy e => h3 x hx (e ▸ hy)⟩
theorem nodup_mid {a b c : List Addr} (h : (a ++ (b ++ c)).Nodup) : (b ++ (a ++ c)).Nodup := by
  obtain ⟨h1, h2, h3⟩ := nodup3 h
  obtain ⟨h4, h5, h6⟩ := nodup3 h2
  refine nodup_of h4 (nodup_of h1 h5 fun x hx hy => h3 x hx (List.mem_append_right _ hy)) fun x hx hy => ?_
  rcases List.mem_append.mp hy with hy | hy
  · exact h3 x hy (List.mem_append_left _ hx)
  · exact h6 x hx hy
theorem slot_some {i : Nat} {d : D} (e : slot ρ i = some d) : ρ[i]? = some (some d) := by
  unfold slot at e
  split at e
  · rename_i x q; cases e; exact q
  · cases e
theorem slot_lt {i : Nat} {d : D} (e : slot ρ i = some d) : i < ρ.length := (List.getElem?_eq_some_iff.mp (slot_some e)).1
theorem RepR.mut {r : R} {v : V} (h : RepR K H σ r v g) : ∀ a ∈ g, MutO (H a) := by
  cases r with
  | val d => exact Rep.mut _ _ _ h
  | var i => rw [h.2]; intro a ha; cases ha
theorem RepR.keep {r : R} {v : V} (h : RepR K H σ r v g) (k : Keep H g H') : RepR K H' σ r v g := by
  cases r with
  | val d => exact Rep.keep _ _ _ h k
  | var i => exact h
theorem RepRs.mut : ∀ {rs : List R} {vs : List V} {g : List Addr}, RepRs K H σ rs vs g → ∀ a ∈ g, MutO (H a)
  | [], vs, g, h => by rw [h.2]; intro a ha; cases ha
  | r :: rs, vs, g, h => by
    obtain ⟨v, vs', g1, g2, rfl, rfl, h1, h2⟩ := h
    intro a ha
    rcases List.mem_append.mp ha with ha | ha
    · exact h1.mut a ha
    · exact RepRs.mut h2 a ha
theorem RepRs.keep : ∀ {rs : List R} {vs : List V} {g : List Addr}, RepRs K H σ rs vs g → Keep H g H' → RepRs K H' σ rs vs g
  | [], vs, g, h, k => h
  | r :: rs, vs, g, h, k => by
    obtain ⟨v, vs', g1, g2, rfl, rfl, h1, h2⟩ := h
    exact ⟨v, vs', g1, g2, rfl, rfl, h1.keep (k.sub fun a ha => List.mem_append_left _ ha), RepRs.keep h2 (k.sub fun a ha => List.mem_append_right _ ha)⟩
/-- what is there now -/
theorem RepR.cont {r : R} {v : V} {d : D} (h : RepR K H σ r v g) (E : EnvR K H ρ σ F) (e : cont ρ r = some d) : ∃ p, Rep K H d v p ∧ ∀ a ∈ p, a ∈ g ++ F := by
  cases r with
  | val d' => cases e; exact ⟨g, h, fun a ha => List.mem_append_left _ ha⟩
  | var i =>
    obtain ⟨w, F1, f, F3, e1, rfl, r1, _⟩ := E.at (slot_some e)
    obtain ⟨h1, rfl⟩ := h
    rw [e1] at h1
    cases h1
    exact ⟨f, r1, fun a ha => by simp [ha]⟩
theorem RepRs.conts : ∀ {rs : List R} {vs : List V} {g : List Addr} {ds : List D}, RepRs K H σ rs vs g → EnvR K H ρ σ F → DL.conts ρ rs = some ds →
    vs.length = ds.length ∧ ∀ (i : Nat) (d : D) (v : V), ds[i]? = some d → vs[i]? = some v → ∃ p, Rep K H d v p ∧ ∀ a ∈ p, a ∈ g ++ F
  | [], vs, g, ds, h, E, e => by cases e; rw [h.1]; exact ⟨rfl, fun i d v e => by simp at e⟩
  | r :: rs, vs, g, ds, h, E, e => by
    obtain ⟨v, vs', g1, g2, rfl, rfl, h1, h2⟩ := h
    unfold DL.conts at e
    obtain ⟨d, ed, e⟩ := Option.bind_eq_some_iff.mp e
    obtain ⟨ds', es, e⟩ := Option.map_eq_some_iff.mp e
    subst e
    obtain ⟨hl, hi⟩ := RepRs.conts h2 E es
    refine ⟨by simp [hl], fun i d' v' e1 e2 => ?_⟩
    cases i with
    | zero =>
      simp at e1 e2
      subst e1; subst e2
      obtain ⟨p, r1, r2⟩ := h1.cont E ed
      exact ⟨p, r1, fun a ha => by have := r2 a ha; simp at this ⊢; rcases this with z | z <;> simp [z]⟩
    | succ i =>
      obtain ⟨p, r1, r2⟩ := hi i d' v' (by simpa using e1) (by simpa using e2)
      exact ⟨p, r1, fun a ha => by have := r2 a ha; simp at this ⊢; rcases this with z | z <;> simp [z]⟩
theorem RepR.take {r : R} {v : V} {d : D} (h : RepR K H σ r v g) (E : EnvR K H ρ σ F) (nd : (g ++ F).Nodup) (e : take1 ρ r = some (d, ρ')) :
    ∃ p F', Rep K H d v p ∧ EnvR K H ρ' σ F' ∧ (p ++ F').Nodup ∧ ∀ a, a ∈ p ++ F' → a ∈ g ++ F := by
  cases r with
  | val d' => cases e; exact ⟨g, F, h, E, nd, fun a ha => ha⟩
  | var i =>
    obtain ⟨d', es, e3⟩ := Option.map_eq_some_iff.mp (show (slot ρ i).map (fun d => (d, if DL.imm d then ρ else ρ.set i none)) = some (d, ρ') from e)
    obtain ⟨w, F1, f, F3, e1, rfl, r1, E1⟩ := E.at (slot_some es)
    obtain ⟨h1, rfl⟩ := h
    rw [e1] at h1
    cases h1
    simp only [Prod.mk.injEq] at e3
    obtain ⟨rfl, e3⟩ := e3
    by_cases hi : DL.imm d' = true
    · rw [if_pos hi] at e3
      subst e3
      have := Rep.imm _ _ _ r1 hi
      subst this
      exact ⟨[], F1 ++ ([] ++ F3), r1, E, nd, fun a ha => ha⟩
    · rw [if_neg hi] at e3
      subst e3
      exact ⟨f, F1 ++ F3, r1, E1, nodup_mid (by simpa using nd), fun a ha => by simp at ha ⊢; rcases ha with z | z | z <;> simp [z]⟩
theorem RepRs.takes : ∀ {rs : List R} {vs : List V} {g F : List Addr} {ds : List D} {ρ : Fm}, RepRs K H σ rs vs g → EnvR K H ρ σ F → (g ++ F).Nodup → DL.takes ρ rs = some (ds, ρ') →
    ∃ p F', RepL K H ds vs p ∧ EnvR K H ρ' σ F' ∧ (p ++ F').Nodup ∧ ∀ a, a ∈ p ++ F' → a ∈ g ++ F
  | [], vs, g, F, ds, ρ, h, E, nd, e => by cases e; obtain ⟨rfl, rfl⟩ := h; exact ⟨[], F, ⟨rfl, rfl⟩, E, nd, fun a ha => ha⟩
  | r :: rs, vs, g, F, ds, ρ, h, E, nd, e => by
    obtain ⟨v, vs', g1, g2, rfl, rfl, h1, h2⟩ := h
    unfold DL.takes at e
    obtain ⟨⟨d, ρ1⟩, ed, e⟩ := Option.bind_eq_some_iff.mp e
    obtain ⟨⟨ds', ρ2⟩, es, e⟩ := Option.map_eq_some_iff.mp e
    cases e
    obtain ⟨n1, n2, n3⟩ := nodup3 nd
    obtain ⟨n4, n5, n6⟩ := nodup3 n1
    have nd1 : (g1 ++ F).Nodup := nodup_of n4 n2 fun x hx => n3 x (List.mem_append_left _ hx)
    obtain ⟨p, F1, r1, E1, nd2, s1⟩ := h1.take E nd1 ed
    obtain ⟨m1, m2, m3⟩ := nodup3 nd2
    have s1' : ∀ a ∈ g2, a ∉ p ++ F1 := fun a ha q => by
      rcases List.mem_append.mp (s1 a q) with z | z
      · exact n6 a z ha
      · exact n3 a (List.mem_append_right _ ha) z
    have nd3 : (g2 ++ F1).Nodup := nodup_of n5 m2 fun x hx hy => s1' x hx (List.mem_append_right _ hy)
    obtain ⟨q, F2, r2, E2, nd4, s2⟩ := RepRs.takes h2 E1 nd3 es
    refine ⟨p ++ q, F2, ⟨v, vs', p, q, rfl, rfl, r1, r2⟩, E2, ?_, fun a ha => ?_⟩
    · rw [List.append_assoc]
      refine nodup_of m1 nd4 fun x hx hy => ?_
      rcases List.mem_append.mp (s2 x hy) with z | z
      · exact s1' x z (List.mem_append_left _ hx)
      · exact m3 x hx z
    · have key : ∀ b, b ∈ p ++ F1 → b ∈ g1 ++ (g2 ++ F) := fun b hb => by have := s1 b hb; simp at this ⊢; rcases this with z | z <;> simp [z]
      rw [List.append_assoc] at ha ⊢
      rcases List.mem_append.mp ha with ha | ha
      · exact key a (List.mem_append_left _ ha)
      · rcases List.mem_append.mp (s2 a ha) with z | z
        · simp [z]
        · exact key a (List.mem_append_right _ z)
/-- fresh things, all else as it was -/
theorem Step.fresh (S : Step H F H2 G) (sm : Same H2 H') (fr : ∀ a ∈ h, H2 a = none) (sub : ∀ a ∈ F2, a ∈ G) : Step H F H' (h ++ F2) := fun p u e n => by
  obtain ⟨e1, n1⟩ := S p u e n
  refine ⟨sm p u e1, fun q => ?_⟩
  rcases List.mem_append.mp q with q | q
  · rw [fr p q] at e1; cases e1
  · exact n1 (sub p q)
theorem nodup_fresh (E : EnvR K H2 ρ σ F2) (nd : F2.Nodup) (nh : h.Nodup) (fr : ∀ a ∈ h, H2 a = none) : (h ++ F2).Nodup := nodup_of nh nd fun x hx hy => by
  obtain ⟨u, e⟩ := (E.mut x hy).some_
  rw [fr x hx] at e
  cases e
theorem Same.keep {l : List Addr} (s : Same H H') : Keep H l H' := fun a u e _ => s a u e
end
/-! ### the judgements -/
abbrev FE := Fm → Option (R × Fm)
abbrev FT := Fm → Option (Bool × Fm)
abbrev FA := Fm → Option (List R × Fm)
def rdE (K : PySem.W.Frag) (f : FE) : TE := fun σ H Q => ∃ ρ F r ρ', EnvR K H ρ σ F ∧ F.Nodup ∧ f ρ = some (r, ρ') ∧
  ∀ v H' g F', RepR K H' σ r v g → EnvR K H' ρ' σ F' → (g ++ F').Nodup → Step H F H' (g ++ F') → Q v H'
def rdT (K : PySem.W.Frag) (f : FT) : TT := fun σ H Q => ∃ ρ F b ρ', EnvR K H ρ σ F ∧ F.Nodup ∧ f ρ = some (b, ρ') ∧
  ∀ H' F', EnvR K H' ρ' σ F' → F'.Nodup → Step H F H' F' → Q b H'
def rdA (K : PySem.W.Frag) (f : FA) : TA := fun σ H Q => ∃ ρ F rs ρ', EnvR K H ρ σ F ∧ F.Nodup ∧ f ρ = some (rs, ρ') ∧
  ∀ vs H' g F', RepRs K H' σ rs vs g → EnvR K H' ρ' σ F' → (g ++ F').Nodup → Step H F H' (g ++ F') → Q vs H'
structure DE (X : Cx) (e : Expr) (f : FE) : Prop where
  pe : PE X e (rdE X.K f)
structure DT (X : Cx) (e : Expr) (f : FT) : Prop where
  pt : PT X e (rdT X.K f)
structure DW (X : Cx) (e : Expr) (f : FT) : Prop where
  pw : PW X e (rdT X.K f)
structure DA (X : Cx) (es : List Expr) (f : FA) : Prop where
  pa : PA X es (rdA X.K f)
theorem pe_weak {X : Cx} {e : Expr} {t t' : TE} (h : PE X e t) (w : ∀ σ H Q, t' σ H Q → t σ H Q) : PE X e t' := ⟨fun pins s σ H Q I q => h.run pins s σ H Q I (w _ _ _ q)⟩
theorem pt_weak {X : Cx} {e : Expr} {t t' : TT} (h : PT X e t) (w : ∀ σ H Q, t' σ H Q → t σ H Q) : PT X e t' := ⟨fun pins s σ H Q I q => h.run pins s σ H Q I (w _ _ _ q)⟩
theorem pw_weak {X : Cx} {e : Expr} {t t' : TT} (h : PW X e t) (w : ∀ σ H Q, t' σ H Q → t σ H Q) : PW X e t' := ⟨fun wh pins s σ H Q I q => h.run wh pins s σ H Q I (w _ _ _ q)⟩
theorem pa_weak {X : Cx} {es : List Expr} {t t' : TA} (h : PA X es t) (w : ∀ σ H Q, t' σ H Q → t σ H Q) : PA X es t' := ⟨fun pos pins s σ H Q I q => h.run pos pins s σ H Q I (w _ _ _ q)⟩
theorem ps_weak {X : Cx} {st : Stmt} {t t' : TS} (h : PS X st t) (w : ∀ D σ H, t' D σ H → t D σ H) : PS X st t' := ⟨fun pins s σ H D I q => h.run pins s σ H D I (w _ _ _ q)⟩
theorem pss_weak {X : Cx} {st : List Stmt} {t t' : TS} (h : PSs X st t) (w : ∀ D σ H, t' D σ H → t D σ H) : PSs X st t' := ⟨fun pins s σ H D I q => h.run pins s σ H D I (w _ _ _ q)⟩
section
variable {K : PySem.W.Frag} {H : Hp} {F : List Addr} {ρ ρ1 ρ2 : Fm} {σ : L2.St} {fa fb : FE} {x y : R}
/-- one after another -/
theorem two (E : EnvR K H ρ σ F) (nd : F.Nodup) (ea : fa ρ = some (x, ρ1)) (eb : fb ρ1 = some (y, ρ2)) {T : V → V → Hp → Prop}
    (k : ∀ v w H2 gx gy F2, RepR K H2 σ x v gx → RepR K H2 σ y w gy → EnvR K H2 ρ2 σ F2 → (gx ++ (gy ++ F2)).Nodup → Step H F H2 (gx ++ (gy ++ F2)) → T v w H2) :
    rdE K fa σ H fun v H1 => rdE K fb σ H1 fun w H2 => T v w H2 := by
  refine ⟨ρ, F, x, ρ1, E, nd, ea, fun v H1 g F1 r1 E1 N1 S1 => ⟨ρ1, F1, y, ρ2, E1, (nodup3 N1).2.1, eb, fun w H2 g2 F2 r2 E2 N2 S2 => ?_⟩⟩
  obtain ⟨n1, n2, n3⟩ := nodup3 N1
  refine k v w H2 g g2 F2 (r1.keep (S2.keep E1.mut n3)) r2 E2 (nodup_of n1 N2 (S2.apart r1.mut n3)) fun p u e n => ?_
  obtain ⟨e1, q1⟩ := S1 p u e n
  obtain ⟨e2, q2⟩ := S2 p u e1 fun z => q1 (List.mem_append_right _ z)
  exact ⟨e2, fun z => (List.mem_append.mp z).elim (fun z => q1 (List.mem_append_left _ z)) q2⟩
/-- an expression, then arguments -/
theorem oneA {fr : FA} {rs : List R} (E : EnvR K H ρ σ F) (nd : F.Nodup) (ea : fa ρ = some (x, ρ1)) (eb : fr ρ1 = some (rs, ρ2)) {T : V → List V → Hp → Prop}
    (k : ∀ v ws H2 gx gy F2, RepR K H2 σ x v gx → RepRs K H2 σ rs ws gy → EnvR K H2 ρ2 σ F2 → (gx ++ (gy ++ F2)).Nodup → Step H F H2 (gx ++ (gy ++ F2)) → T v ws H2) :
    rdE K fa σ H fun v H1 => rdA K fr σ H1 fun ws H2 => T v ws H2 := by
  refine ⟨ρ, F, x, ρ1, E, nd, ea, fun v H1 g F1 r1 E1 N1 S1 => ⟨ρ1, F1, rs, ρ2, E1, (nodup3 N1).2.1, eb, fun w H2 g2 F2 r2 E2 N2 S2 => ?_⟩⟩
  obtain ⟨n1, n2, n3⟩ := nodup3 N1
  refine k v w H2 g g2 F2 (r1.keep (S2.keep E1.mut n3)) r2 E2 (nodup_of n1 N2 (S2.apart r1.mut n3)) fun p u e n => ?_
  obtain ⟨e1, q1⟩ := S1 p u e n
  obtain ⟨e2, q2⟩ := S2 p u e1 fun z => q1 (List.mem_append_right _ z)
  exact ⟨e2, fun z => (List.mem_append.mp z).elim (fun z => q1 (List.mem_append_left _ z)) q2⟩
end
/-! ### names, constants -/
def fVar (i : Nat) : FE := fun ρ => match slot ρ i with
  | some _ => some (.var i, ρ)
  | none => none
def fC (d : D) : FE := fun ρ => some (.val d, ρ)
section
variable {X : Cx} {e a b c : Expr} {es : List Expr} {pos : Pos} {fa fb fc : FE} {ft fu : FT}
theorem de_var {i : Nat} (h : PE X e (tVar i)) : DE X e (fVar i) := ⟨pe_weak h fun σ H Q ⟨ρ, F, r, ρ', E, nd, ef, k⟩ => by
  unfold fVar at ef
  split at ef
  · rename_i d es
    cases ef
    obtain ⟨v, F1, f, F3, e1, _⟩ := E.at (slot_some es)
    exact ⟨v, e1, k v H [] F ⟨e1, rfl⟩ E nd Step.refl⟩
  · cases ef⟩
theorem de_c {v : V} {d : D} (h : PE X e (tC v)) (r : ∀ K H, Rep K H d v []) : DE X e (fC d) := ⟨pe_weak h fun σ H Q ⟨ρ, F, x, ρ', E, nd, ef, k⟩ => by
  cases ef
  exact k v H [] F (r _ _) E nd Step.refl⟩
theorem de_int {i : Int} {j} : DE X (.Constant (.int i) j pos) (fC (.int i)) := de_c pe_int fun _ _ => ⟨rfl, rfl⟩
theorem de_bl {k : Bool} {j} : DE X (.Constant (.bool k) j pos) (fC (.bl k)) := de_c pe_bl fun _ _ => ⟨rfl, rfl⟩
theorem de_non {j} : DE X (.Constant .none j pos) (fC .non) := de_c pe_non fun _ _ => ⟨rfl, rfl⟩
/-! ### operators -/
/-- what a rule on values does to data: something new, or nothing of its own -/
def Op2 (K : PySem.W.Frag) (r : R2) (g : D → D → Option D) : Prop := ∀ (H : Hp) (x y : D) (v w : V) (p q : List Addr) (z : D) (Q : VK), Rep K H x v p → Rep K H y w q → g x y = some z →
  (∀ u H' h, Rep K H' z u h → h.Nodup → (∀ a ∈ h, H a = none) → Same H H' → Q u H') → r v w H Q
def fOp (g : D → D → Option D) (fa fb : FE) : FE := fun ρ =>
  (fa ρ).bind fun (x, ρ1) => (fb ρ1).bind fun (y, ρ2) => (cont ρ2 x).bind fun dx => (cont ρ2 y).bind fun dy => (g dx dy).map fun z => (.val z, ρ2)
theorem fOp_some {g : D → D → Option D} {ρ ρ' : Fm} {r : R} (e : fOp g fa fb ρ = some (r, ρ')) : ∃ x ρ1 y dx dy z, fa ρ = some (x, ρ1) ∧ fb ρ1 = some (y, ρ') ∧ cont ρ' x = some dx ∧ cont ρ' y = some dy ∧ g dx dy = some z ∧ r = .val z := by
  unfold fOp at e
  obtain ⟨⟨x, ρ1⟩, e1, e⟩ := Option.bind_eq_some_iff.mp e
  obtain ⟨⟨y, ρ2⟩, e2, e⟩ := Option.bind_eq_some_iff.mp e
  obtain ⟨dx, e3, e⟩ := Option.bind_eq_some_iff.mp e
  obtain ⟨dy, e4, e⟩ := Option.bind_eq_some_iff.mp e
  obtain ⟨z, e5, e⟩ := Option.map_eq_some_iff.mp e
  cases e
  exact ⟨x, ρ1, y, dx, dy, z, e1, e2, e3, e4, e5, rfl⟩
theorem tOp_of {r : R2} {g : D → D → Option D} {K : PySem.W.Frag} (hg : Op2 K r g) {σ : L2.St} {H : Hp} {Q : VK} (h : rdE K (fOp g fa fb) σ H Q) : tOp r (rdE K fa) (rdE K fb) σ H Q := by
  obtain ⟨ρ, F, x0, ρ2, E, nd, ef, k⟩ := h
  obtain ⟨x, ρ1, y, dx, dy, z, e1, e2, e3, e4, e5, rfl⟩ := fOp_some ef
  refine two E nd e1 e2 fun v w H2 gx gy F2 r1 r2 E2 N2 S2 => ?_
  obtain ⟨p, q1, _⟩ := r1.cont E2 e3
  obtain ⟨q, q2, _⟩ := r2.cont E2 e4
  obtain ⟨_, N3, _⟩ := nodup3 N2
  refine hg H2 dx dy v w p q z Q q1 q2 e5 fun u H' h ru nh fr sm => ?_
  exact k u H' h F2 ru (E2.keep (Same.keep sm)) (nodup_fresh E2 (nodup3 N3).2.1 nh fr) (S2.fresh sm fr fun a ha => by simp [ha])
theorem de_op {op : Operator} {r : R2} {g : D → D → Option D} (ho : OpR X (binaryOp op) r) (hg : Op2 X.K r g) (ha : DE X a fa) (hb : DE X b fb) : DE X (.BinOp a op b pos) (fOp g fa fb) :=
  ⟨pe_weak (pe_op ho ha.pe hb.pe) fun σ H Q h => tOp_of hg h⟩
theorem de_cmp {op : CmpOp} {r : R2} {g : D → D → Option D} (ho : OpR X (compareOp op) r) (hg : Op2 X.K r g) (ha : DE X a fa) (hb : DE X b fb) (hm : behindInMarks op b = false) : DE X (.Compare a [op] [b] pos) (fOp g fa fb) :=
  ⟨pe_weak (pe_cmpR ho ha.pe hb.pe hm) fun σ H Q h => tOp_of hg h⟩
/-- as a test -/
def fTest (f : FE) : FT := fun ρ => (f ρ).bind fun (x, ρ1) => (cont ρ1 x).bind fun d => match d with
  | .bl k => some (k, ρ1)
  | _ => none
theorem fTest_some {ρ ρ' : Fm} {k : Bool} (e : fTest fa ρ = some (k, ρ')) : ∃ x, fa ρ = some (x, ρ') ∧ cont ρ' x = some (.bl k) := by
  unfold fTest at e
  obtain ⟨⟨x, ρ1⟩, e1, e⟩ := Option.bind_eq_some_iff.mp e
  obtain ⟨d, e2, e⟩ := Option.bind_eq_some_iff.mp e
  cases d <;> cases e
  exact ⟨x, e1, e2⟩
theorem tTest_of {K : PySem.W.Frag} {t : TE} {f : FE} (ht : ∀ σ H Q, rdE K f σ H Q → t σ H Q) {σ : L2.St} {H : Hp} {Q : Bool → Hp → Prop} (h : rdT K (fTest f) σ H Q) : t σ H fun x H' => ∃ k, x = .bl k ∧ Q k H' := by
  obtain ⟨ρ, F, k0, ρ2, E, nd, ef, k⟩ := h
  obtain ⟨x, e1, e2⟩ := fTest_some ef
  refine ht _ _ _ ⟨ρ, F, x, ρ2, E, nd, e1, fun v H' g F' r1 E1 N1 S1 => ?_⟩
  obtain ⟨p, q1, _⟩ := r1.cont E1 e2
  exact ⟨k0, q1.1, k H' F' E1 (nodup3 N1).2.1 (S1.to fun a ha => .inl (List.mem_append_right _ ha))⟩
theorem dt_cmp {op : CmpOp} {r : R2} {g : D → D → Option D} (ho : OpR X (compareOp op) r) (hg : Op2 X.K r g) (ha : DE X a fa) (hb : DE X b fb) (hm : behindInMarks op b = false) : DT X (.Compare a [op] [b] pos) (fTest (fOp g fa fb)) :=
  ⟨pt_weak (pt_cmpR ho ha.pe hb.pe hm) fun σ H Q h => tTest_of (fun _ _ _ q => tOp_of hg q) h⟩
theorem dt_val (ha : DE X a fa) (he : ∀ whole, isTrue a X.env whole = (do let v ← whole; standAt a.pos; holding [v] (truthy v)) := by intro _; rfl) : DT X a (fTest fa) :=
  ⟨pt_weak (pt_val ha.pe he) fun σ H Q h => tTest_of (fun _ _ _ q => q) h⟩
/-! ### and, or, not -/
def fAnd (f g : FT) : FT := fun ρ => (f ρ).bind fun (k, ρ1) => if k then g ρ1 else some (false, ρ1)
def fOr (f g : FT) : FT := fun ρ => (f ρ).bind fun (k, ρ1) => if k then some (true, ρ1) else g ρ1
def fNot (f : FT) : FT := fun ρ => (f ρ).map fun (k, ρ1) => (!k, ρ1)
def fBl (f : FT) : FE := fun ρ => (f ρ).map fun (k, ρ1) => (.val (.bl k), ρ1)
theorem tAnd_of {K : PySem.W.Frag} {σ : L2.St} {H : Hp} {Q : Bool → Hp → Prop} (h : rdT K (fAnd ft fu) σ H Q) : tAnd (rdT K ft) (rdT K fu) σ H Q := by
  obtain ⟨ρ, F, k0, ρ2, E, nd, ef, k⟩ := h
  obtain ⟨⟨k1, ρ1⟩, e1, e⟩ := Option.bind_eq_some_iff.mp ef
  refine ⟨ρ, F, k1, ρ1, E, nd, e1, fun H' F' E1 N1 S1 => ?_⟩
  cases k1 with
  | true =>
    rw [if_pos rfl]
    exact ⟨ρ1, F', k0, ρ2, E1, N1, e, fun H2 F2 E2 N2 S2 => k H2 F2 E2 N2 (S1.trans S2)⟩
  | false =>
    cases e
    rw [if_neg Bool.false_ne_true]
    exact k H' F' E1 N1 S1
theorem tOr_of {K : PySem.W.Frag} {σ : L2.St} {H : Hp} {Q : Bool → Hp → Prop} (h : rdT K (fOr ft fu) σ H Q) : tOr (rdT K ft) (rdT K fu) σ H Q := by
  obtain ⟨ρ, F, k0, ρ2, E, nd, ef, k⟩ := h
  obtain ⟨⟨k1, ρ1⟩, e1, e⟩ := Option.bind_eq_some_iff.mp ef
  refine ⟨ρ, F, k1, ρ1, E, nd, e1, fun H' F' E1 N1 S1 => ?_⟩
  cases k1 with
  | false =>
    rw [if_neg Bool.false_ne_true]
    exact ⟨ρ1, F', k0, ρ2, E1, N1, e, fun H2 F2 E2 N2 S2 => k H2 F2 E2 N2 (S1.trans S2)⟩
  | true =>
    cases e
    rw [if_pos rfl]
    exact k H' F' E1 N1 S1
theorem dw_and1 (ha : DT X a ft) : DW X (.BoolOp .And [a] pos) ft := ⟨pw_and1 ha.pt⟩
theorem dw_or1 (ha : DT X a ft) : DW X (.BoolOp .Or [a] pos) ft := ⟨pw_or1 ha.pt⟩
theorem dw_and (ha : DT X a ft) (hb : DW X (.BoolOp .And (b :: es) pos) fu) : DW X (.BoolOp .And (a :: b :: es) pos) (fAnd ft fu) := ⟨pw_weak (pw_and ha.pt hb.pw) fun _ _ _ h => tAnd_of h⟩
theorem dw_or (ha : DT X a ft) (hb : DW X (.BoolOp .Or (b :: es) pos) fu) : DW X (.BoolOp .Or (a :: b :: es) pos) (fOr ft fu) := ⟨pw_weak (pw_or ha.pt hb.pw) fun _ _ _ h => tOr_of h⟩
theorem DW.dt (h : DW X a ft) : DT X a ft := ⟨PW.pt h.pw⟩
theorem dt_not (ha : DT X a ft) : DT X (.UnaryOp .Not a pos) (fNot ft) := ⟨pt_weak (pt_not ha.pt) fun σ H Q ⟨ρ, F, k0, ρ2, E, nd, ef, k⟩ => by
  obtain ⟨⟨k1, ρ1⟩, e1, e⟩ := Option.map_eq_some_iff.mp ef
  cases e
  exact ⟨ρ, F, k1, ρ2, E, nd, e1, fun H' F' E1 N1 S1 => k H' F' E1 N1 S1⟩⟩
/-- as values -/
theorem de_one {op} (h : DE X a fa) : DE X (.BoolOp op [a] pos) fa := ⟨pe_one h.pe⟩
theorem de_and (ha : DE X a fa) (hb : DE X (.BoolOp .And (b :: es) pos) fb) : DE X (.BoolOp .And (a :: b :: es) pos) (fBl (fAnd (fTest fa) (fTest fb))) :=
  ⟨pe_weak (pe_and ha.pe hb.pe) fun σ H Q ⟨ρ, F, r, ρ2, E, nd, ef, k⟩ => by
    obtain ⟨⟨k0, ρ3⟩, ef, e⟩ := Option.map_eq_some_iff.mp ef
    cases e
    obtain ⟨⟨k1, ρ1⟩, e1, e⟩ := Option.bind_eq_some_iff.mp ef
    obtain ⟨x, e2, e3⟩ := fTest_some e1
    refine ⟨ρ, F, x, ρ1, E, nd, e2, fun v H' g F' r1 E1 N1 S1 => ?_⟩
    obtain ⟨p, q1, _⟩ := r1.cont E1 e3
    have S1' := S1.to (F2 := F') fun a ha => .inl (List.mem_append_right _ ha)
    refine ⟨k1, q1.1, ?_⟩
    cases k1 with
    | true =>
      rw [if_pos rfl]
      obtain ⟨y, e4, e5⟩ := fTest_some e
      refine ⟨ρ1, F', y, ρ2, E1, (nodup3 N1).2.1, e4, fun w H2 g2 F2 r2 E2 N2 S2 => ?_⟩
      obtain ⟨p2, q2, _⟩ := r2.cont E2 e5
      rw [q2.1]
      exact k _ H2 [] F2 ⟨rfl, rfl⟩ E2 (nodup3 N2).2.1 (S1'.trans (S2.to fun a ha => .inl (List.mem_append_right _ ha)))
    | false =>
      cases e
      rw [if_neg Bool.false_ne_true]
      exact k _ H' [] F' ⟨rfl, rfl⟩ E1 (nodup3 N1).2.1 S1'⟩
theorem de_not (ha : DE X a fa) : DE X (.UnaryOp .Not a pos) (fBl (fNot (fTest fa))) := ⟨pe_weak (pe_not ha.pe) fun σ H Q ⟨ρ, F, r, ρ2, E, nd, ef, k⟩ => by
  obtain ⟨⟨k0, ρ3⟩, ef, e⟩ := Option.map_eq_some_iff.mp ef
  cases e
  obtain ⟨⟨k1, ρ1⟩, e1, e⟩ := Option.map_eq_some_iff.mp ef
  cases e
  obtain ⟨x, e2, e3⟩ := fTest_some e1
  refine ⟨ρ, F, x, ρ2, E, nd, e2, fun v H' g F' r1 E1 N1 S1 => ?_⟩
  obtain ⟨p, q1, _⟩ := r1.cont E1 e3
  exact ⟨k1, q1.1, k _ H' [] F' ⟨rfl, rfl⟩ E1 (nodup3 N1).2.1 (S1.to fun a ha => .inl (List.mem_append_right _ ha))⟩⟩
/-- a if t else b -/
def fIf (f : FT) (fa fb : FE) : FE := fun ρ => (f ρ).bind fun (k, ρ1) => if k then fa ρ1 else fb ρ1
theorem de_ifx (hc : DT X c ft) (ha : DE X a fa) (hb : DE X b fb) : DE X (.IfExp c a b pos) (fIf ft fa fb) := ⟨pe_weak (pe_ifExp hc.pt ha.pe hb.pe) fun σ H Q ⟨ρ, F, r, ρ2, E, nd, ef, k⟩ => by
  obtain ⟨⟨k1, ρ1⟩, e1, e⟩ := Option.bind_eq_some_iff.mp ef
  refine ⟨ρ, F, k1, ρ1, E, nd, e1, fun H' F' E1 N1 S1 => ?_⟩
  cases k1 with
  | true =>
    rw [if_pos rfl]
    exact ⟨ρ1, F', r, ρ2, E1, N1, e, fun v H2 g2 F2 r2 E2 N2 S2 => k v H2 g2 F2 r2 E2 N2 (S1.trans S2)⟩
  | false =>
    rw [if_neg Bool.false_ne_true]
    exact ⟨ρ1, F', r, ρ2, E1, N1, e, fun v H2 g2 F2 r2 E2 N2 S2 => k v H2 g2 F2 r2 E2 N2 (S1.trans S2)⟩⟩
/-! ### arguments, displays -/
def fNil : FA := fun ρ => some ([], ρ)
def fCons (f : FE) (fr : FA) : FA := fun ρ => (f ρ).bind fun (x, ρ1) => (fr ρ1).map fun (rs, ρ2) => (x :: rs, ρ2)
variable {fr : FA}
theorem da_nil : DA X [] fNil := ⟨pa_weak pa_nil fun σ H Q ⟨ρ, F, r, ρ2, E, nd, ef, k⟩ => by
  cases ef
  exact k [] H [] F ⟨rfl, rfl⟩ E nd Step.refl⟩
theorem da_cons (ha : DE X e fa) (hr : DA X es fr) (hs : starEach (e :: es) X.env = (false, eval e X.env) :: starEach es X.env := by rfl) : DA X (e :: es) (fCons fa fr) :=
  ⟨pa_weak (pa_cons ha.pe hr.pa hs) fun σ H Q ⟨ρ, F, r, ρ2, E, nd, ef, k⟩ => by
    obtain ⟨⟨x, ρ1⟩, e1, e⟩ := Option.bind_eq_some_iff.mp ef
    obtain ⟨⟨rs, ρ3⟩, e2, e⟩ := Option.map_eq_some_iff.mp e
    cases e
    refine oneA E nd e1 e2 fun v ws H2 gx gy F2 r1 r2 E2 N2 S2 => k (v :: ws) H2 (gx ++ gy) F2 ⟨v, ws, gx, gy, rfl, rfl, r1, r2⟩ E2 (by rw [List.append_assoc]; exact N2) (by rw [List.append_assoc]; exact S2)⟩
def fTup (fr : FA) : FE := fun ρ => (fr ρ).bind fun (rs, ρ1) => (takes ρ1 rs).bind fun (ds, ρ2) => if ds.length ≤ sizeLine then some (.val (.tup ds), ρ2) else none
def fLst (fr : FA) : FE := fun ρ => (fr ρ).bind fun (rs, ρ1) => (takes ρ1 rs).bind fun (ds, ρ2) => if ds.length ≤ sizeLine then some (.val (.lst ds), ρ2) else none
theorem upd_same_of {H : Hp} {p : Addr} {o : HO} (hp : H p = none) : Same H (upd H p o) := fun b u e => by rw [upd_ne (ne_of_none e hp)]; exact e
theorem de_tup {k : Nat} (h : DA X es fr) : DE X (.Tuple es k pos) (fTup fr) := ⟨pe_weak (pe_tupF h.pa) fun σ H Q ⟨ρ, F, r, ρ2, E, nd, ef, k⟩ => by
  obtain ⟨⟨rs, ρ1⟩, e1, e⟩ := Option.bind_eq_some_iff.mp ef
  obtain ⟨⟨ds, ρ3⟩, e2, e⟩ := Option.bind_eq_some_iff.mp e
  simp only at e
  split at e
  · rename_i hl
    cases e
    refine ⟨ρ, F, rs, ρ1, E, nd, e1, fun vs H' g F' r1 E1 N1 S1 => ?_⟩
    obtain ⟨p, F2, r2, E2, N2, s2⟩ := r1.takes E1 N1 e2
    refine ⟨by rw [r2.length]; exact hl, fun t o ht hd => ?_⟩
    have sm := upd_same_of (o := .frz o (.tup vs)) ht
    refine k _ _ p F2 ⟨t, vs, rfl, .inl ⟨o, upd_same, hd⟩, RepL.keep _ _ _ r2 (Same.keep sm)⟩ (E2.keep (Same.keep sm)) N2 fun b u eb nb => ?_
    obtain ⟨q1, q2⟩ := S1 b u eb nb
    exact ⟨sm b u q1, fun z => q2 (s2 b z)⟩
  · cases e⟩
theorem de_lst (h : DA X es fr) : DE X (.List es pos) (fLst fr) := ⟨pe_weak (pe_lst h.pa) fun σ H Q ⟨ρ, F, r, ρ2, E, nd, ef, k⟩ => by
  obtain ⟨⟨rs, ρ1⟩, e1, e⟩ := Option.bind_eq_some_iff.mp ef
  obtain ⟨⟨ds, ρ3⟩, e2, e⟩ := Option.bind_eq_some_iff.mp e
  simp only at e
  split at e
  · rename_i hl
    cases e
    refine ⟨ρ, F, rs, ρ1, E, nd, e1, fun vs H' g F' r1 E1 N1 S1 => ?_⟩
    obtain ⟨p, F2, r2, E2, N2, s2⟩ := r1.takes E1 N1 e2
    refine ⟨by rw [r2.length]; exact hl, fun t ht => ?_⟩
    have sm := upd_same_of (o := .lst vs) ht
    have nt : ∀ a ∈ p ++ F2, a ≠ t := fun a ha q => by
      obtain ⟨u, eu⟩ := (List.mem_append.mp (s2 a ha)).elim (fun z => (r1.mut a z).some_) (fun z => (E1.mut a z).some_)
      rw [q, ht] at eu
      cases eu
    refine k _ _ (t :: p) F2 ⟨t, vs, p, rfl, upd_same, rfl, RepL.keep _ _ _ r2 (Same.keep sm)⟩ (E2.keep (Same.keep sm)) (List.nodup_cons.mpr ⟨fun z => nt t z rfl, N2⟩) fun b u eb nb => ?_
    obtain ⟨q1, q2⟩ := S1 b u eb nb
    refine ⟨sm b u q1, fun z => ?_⟩
    rcases List.mem_cons.mp z with rfl | z
    · rw [ht] at q1; cases q1
    · exact q2 (s2 b z)
  · cases e⟩
end
end DL
/-! Operators on data. -/
namespace DL
open PySem PySem.Spec L2
theorem pe_or' {X : Cx} {e : Expr} {t1 t2 : TE} (h1 : PE X e t1) (h2 : PE X e t2) : PE X e (fun σ H Q => t1 σ H Q ∨ t2 σ H Q) :=
  ⟨fun pins s σ H Q I h => h.elim (h1.run pins s σ H Q I) (h2.run pins s σ H Q I)⟩
def lstOf : D → Option (List D)
  | .lst ds => some ds
  | .flst ds => some ds
  | _ => none
def seqOf : D → Option (List D)
  | .lst ds => some ds
  | .flst ds => some ds
  | .tup ds => some ds
  | _ => none
mutual
def toP : D → PyData
  | .non => .none | .bl b => .bool b | .int i => .int i | .str x => .str x
  | .tup ds => .tuple (toPL ds)
  | .lst ds => .list (toPL ds)
  | .flst ds => .list (toPL ds)
  | .dic kvs => .dict (toPK kvs)
  | .fdic kvs => .dict (toPK kvs)
  | .exc _ _ _ _ => .none
def toPL : List D → List PyData
  | [] => []
  | d :: ds => toP d :: toPL ds
def toPK : List (Key × D) → List (PyData × PyData)
  | [] => []
  | (k, d) :: r => ((match k with | .inl i => .int i | .inr x => .str x), toP d) :: toPK r
end
mutual
/-- no dict within -/
def noDic : D → Bool
  | .non => true | .bl _ => true | .int _ => true | .str _ => true
  | .tup ds => noDicL ds
  | .lst ds => noDicL ds
  | .flst ds => noDicL ds
  | .dic _ => false
  | .fdic _ => false
  | .exc _ _ _ _ => false
def noDicL : List D → Bool
  | [] => true
  | d :: ds => noDic d && noDicL ds
end
section
variable {K : PySem.W.Frag} {H : Hp}
theorem Rep.sqL {d : D} {v : V} {p : List Addr} {ds : List D} (h : Rep K H d v p) (e : lstOf d = some ds) : ∃ a vs g, v = .ref a ∧ SqL K H a vs ∧ RepL K H ds vs g ∧ ∀ b ∈ g, b ∈ p := by
  cases d with
  | lst es =>
    cases e
    obtain ⟨a, vs, g, e1, e2, rfl, r⟩ := h
    exact ⟨a, vs, g, e1, SqL.of e2, r, fun b hb => List.mem_cons_of_mem _ hb⟩
  | flst es =>
    cases e
    obtain ⟨a, vs, e1, e2, r⟩ := h
    exact ⟨a, vs, p, e1, e2.seq, r, fun b hb => hb⟩
  | _ => cases e
theorem Rep.seq {d : D} {v : V} {p : List Addr} {ds : List D} (h : Rep K H d v p) (e : seqOf d = some ds) : ∃ a vs g, v = .ref a ∧ (SqL K H a vs ∨ SqT K H a vs) ∧ RepL K H ds vs g ∧ ∀ b ∈ g, b ∈ p := by
  cases d with
  | lst es =>
    obtain ⟨a, vs, g, e1, e2, r⟩ := Rep.sqL h (show lstOf (.lst es) = some ds from e)
    exact ⟨a, vs, g, e1, .inl e2, r⟩
  | flst es =>
    obtain ⟨a, vs, g, e1, e2, r⟩ := Rep.sqL h (show lstOf (.flst es) = some ds from e)
    exact ⟨a, vs, g, e1, .inl e2, r⟩
  | tup es =>
    cases e
    obtain ⟨a, vs, e1, e2, r⟩ := h
    exact ⟨a, vs, p, e1, .inr e2.sq, r, fun b hb => hb⟩
  | _ => cases e
mutual
theorem Rep.dp : ∀ (d : D) (v : V) (p : List Addr), Rep K H d v p → noDic d = true → Dp K H v (toP d)
  | .non, v, p, h, _ => by rw [h.1]; exact .non
  | .bl _, v, p, h, _ => by rw [h.1]; exact .bl _
  | .int _, v, p, h, _ => by rw [h.1]; exact .int _
  | .str _, v, p, h, _ => by rw [h.1]; exact .str _
  | .tup ds, v, p, h, k => by
    obtain ⟨a, vs, rfl, q, h⟩ := h
    exact .tup q.sq (RepL.dp ds vs p h k)
  | .lst ds, v, p, h, k => by
    obtain ⟨a, vs, g, rfl, q, _, h⟩ := h
    exact .lst (SqL.of q) (RepL.dp ds vs g h k)
  | .flst ds, v, p, h, k => by
    obtain ⟨a, vs, rfl, q, h⟩ := h
    exact .lst q.seq (RepL.dp ds vs p h k)
  | .dic kvs, v, p, h, k => by cases k
  | .fdic kvs, v, p, h, k => by cases k
  | .exc _ _ _ kvs, v, p, h, k => by cases k
theorem RepL.dp : ∀ (ds : List D) (vs : List V) (p : List Addr), RepL K H ds vs p → noDicL ds = true → DpAll K H vs (toPL ds)
  | [], vs, p, h, _ => by rw [h.1]; exact .nil
  | d :: ds, vs, p, h, k => by
    obtain ⟨v, vs', f1, f2, rfl, rfl, h1, h2⟩ := h
    have k' : (noDic d && noDicL ds) = true := k
    rw [Bool.and_eq_true] at k'
    exact .cons (Rep.dp d v f1 h1 k'.1) (RepL.dp ds vs' f2 h2 k'.2)
end
end
/-! ### numbers -/
def dAddI : D → D → Option D
  | .int i, .int j => some (.int (i + j))
  | _, _ => none
def dSub : D → D → Option D
  | .int i, .int j => some (.int (i - j))
  | _, _ => none
def mulOk (i j : Int) : Bool := decide (i.natAbs < 2 ^ 64) || decide (j.natAbs < 2 ^ 64)
def dMulI : D → D → Option D
  | .int i, .int j => if mulOk i j then some (.int (i * j)) else none
  | _, _ => none
def dDiv : D → D → Option D
  | .int i, .int j => if j ≠ 0 ∧ j.natAbs < 1073741824 then some (.int (i.fdiv j)) else none
  | _, _ => none
def dMod : D → D → Option D
  | .int i, .int j => if j ≠ 0 then some (.int (i.fmod j)) else none
  | _, _ => none
def dPow : D → D → Option D
  | .int i, .int j => if 0 ≤ j ∧ j ≤ 1000000 ∧ i.natAbs < 2 ^ 64 then some (.int (i ^ j.toNat)) else none
  | _, _ => none
def dCmp (p : Int → Int → Bool) : D → D → Option D
  | .int i, .int j => some (.bl (p i j))
  | _, _ => none
section
variable {K : PySem.W.Frag} {X : Cx}
theorem op2_I0 {g : Int → Int → V} {f : D → D → Option D} {k : Int → Int → D} (hf : ∀ x y z, f x y = some z → ∃ i j, x = .int i ∧ y = .int j ∧ z = k i j) (hk : ∀ K H i j, Rep K H (k i j) (g i j) []) : Op2 K (rI0 g) f := by
  intro H x y v w p q z Q r1 r2 e h
  obtain ⟨i, j, rfl, rfl, rfl⟩ := hf x y z e
  exact ⟨i, j, r1.1, r2.1, h _ H [] (hk _ _ _ _) List.nodup_nil (by simp) (Same.refl H)⟩
theorem op2_I {C : Int → Int → Prop} {g : Int → Int → V} {f : D → D → Option D} {k : Int → Int → D} (hf : ∀ x y z, f x y = some z → ∃ i j, x = .int i ∧ y = .int j ∧ C i j ∧ z = k i j) (hk : ∀ K H i j, Rep K H (k i j) (g i j) []) : Op2 K (rI C g) f := by
  intro H x y v w p q z Q r1 r2 e h
  obtain ⟨i, j, rfl, rfl, c, rfl⟩ := hf x y z e
  exact ⟨i, j, r1.1, r2.1, c, h _ H [] (hk _ _ _ _) List.nodup_nil (by simp) (Same.refl H)⟩
theorem Op2.or {r r' : R2} {f f' : D → D → Option D} (h : Op2 K r f) (h' : Op2 K r' f') : Op2 K (fun x y H Q => r x y H Q ∨ r' x y H Q) (fun x y => (f x y).orElse fun _ => f' x y) := by
  intro H x y v w p q z Q r1 r2 e k
  have e : (f x y).orElse (fun _ => f' x y) = some z := e
  cases e1 : f x y with
  | some z' =>
    rw [e1] at e
    cases e
    exact .inl (h H x y v w p q z Q r1 r2 e1 k)
  | none =>
    rw [e1] at e
    exact .inr (h' H x y v w p q z Q r1 r2 e k)
theorem o2_addI : Op2 K (rI0 fun i j => .int (i + j)) dAddI := op2_I0 (k := fun i j => .int (i + j)) (fun x y z e => by
  cases x <;> cases y <;> cases e; exact ⟨_, _, rfl, rfl, rfl⟩) fun _ _ _ _ => ⟨rfl, rfl⟩
theorem o2_sub : Op2 K (rI0 fun i j => .int (i - j)) dSub := op2_I0 (k := fun i j => .int (i - j)) (fun x y z e => by
  cases x <;> cases y <;> cases e; exact ⟨_, _, rfl, rfl, rfl⟩) fun _ _ _ _ => ⟨rfl, rfl⟩
theorem o2_cmp (p : Int → Int → Bool) : Op2 K (rI0 fun i j => .bl (p i j)) (dCmp p) := op2_I0 (k := fun i j => .bl (p i j)) (fun x y z e => by
  cases x <;> cases y <;> cases e; exact ⟨_, _, rfl, rfl, rfl⟩) fun _ _ _ _ => ⟨rfl, rfl⟩
theorem if_some {α : Type} {c : Prop} [Decidable c] {x z : α} (e : (if c then some x else none) = some z) : c ∧ x = z := by
  by_cases h : c
  · rw [if_pos h] at e; cases e; exact ⟨h, rfl⟩
  · rw [if_neg h] at e; cases e
theorem by_cases_if {α : Type} {c : Prop} [Decidable c] {x : Option α} {z : α} (e : (if c then x else none) = some z) : c ∧ x = some z := by
  by_cases h : c
  · rw [if_pos h] at e; exact ⟨h, e⟩
  · rw [if_neg h] at e; cases e
theorem o2_mulI : Op2 K (rI CMul fun i j => .int (i * j)) dMulI := op2_I (k := fun i j => .int (i * j)) (fun x y z e => by
  cases x <;> cases y <;> try cases e
  obtain ⟨c, e⟩ := if_some e
  refine ⟨_, _, rfl, rfl, ?_, e.symm⟩
  unfold mulOk at c
  simp only [Bool.or_eq_true, decide_eq_true_eq] at c
  rcases c with c | c
  · exact .inl ⟨by omega, by omega⟩
  · exact .inr ⟨by omega, by omega⟩) fun _ _ _ _ => ⟨rfl, rfl⟩
theorem o2_div : Op2 K (rI CDivN fun i j => .int (i.fdiv j)) dDiv := op2_I (k := fun i j => .int (i.fdiv j)) (fun x y z e => by
  cases x <;> cases y <;> try cases e
  obtain ⟨c, e⟩ := if_some e
  exact ⟨_, _, rfl, rfl, c, e.symm⟩) fun _ _ _ _ => ⟨rfl, rfl⟩
theorem o2_mod : Op2 K (rI (fun _ j => j ≠ 0) fun i j => .int (i.fmod j)) dMod := op2_I (k := fun i j => .int (i.fmod j)) (fun x y z e => by
  cases x <;> cases y <;> try cases e
  obtain ⟨c, e⟩ := if_some e
  exact ⟨_, _, rfl, rfl, c, e.symm⟩) fun _ _ _ _ => ⟨rfl, rfl⟩
theorem o2_pow : Op2 K (rI CPow fun i j => .int (i ^ j.toNat)) dPow := op2_I (k := fun i j => .int (i ^ j.toNat)) (fun x y z e => by
  cases x <;> cases y <;> try cases e
  obtain ⟨c, e⟩ := if_some e
  exact ⟨_, _, rfl, rfl, c, e.symm⟩) fun _ _ _ _ => ⟨rfl, rfl⟩
/-! ### + and * of texts, lists, tuples -/
def dAddS : D → D → Option D
  | .str x, .str y => if x.length + y.length ≤ sizeLine then some (.str (x ++ y)) else none
  | _, _ => none
def dCatL : D → D → Option D
  | .lst a, .lst b => if (immL a && immL b) = true ∧ a.length + b.length ≤ sizeLine then some (.lst (a ++ b)) else none
  | _, _ => none
def dCatT : D → D → Option D
  | .tup a, .tup b => if (immL a && immL b) = true ∧ a.length + b.length ≤ sizeLine then some (.tup (a ++ b)) else none
  | _, _ => none
theorem RepL.nil_of {K : PySem.W.Frag} {H : Hp} {ds : List D} {vs : List V} {p : List Addr} (h : RepL K H ds vs p) (k : immL ds = true) : RepL K H ds vs [] := by
  have := RepL.imm _ _ _ h k
  subst this
  exact h
theorem o2_addS : Op2 K (fun x y H Q => ∃ i j, x = .str i ∧ y = .str j ∧ i.length + j.length ≤ sizeLine ∧ Q (.str (i ++ j)) H) dAddS := by
  intro H x y v w p q z Q r1 r2 e h
  cases x <;> cases y <;> try cases e
  obtain ⟨c, rfl⟩ := if_some e
  exact ⟨_, _, r1.1, r2.1, c, h _ H [] ⟨rfl, rfl⟩ List.nodup_nil (by simp) (Same.refl H)⟩
theorem o2_catL : Op2 K rCat dCatL := by
  intro H x y v w p q z Q r1 r2 e h
  cases x <;> cases y <;> try cases e
  rename_i a b
  obtain ⟨⟨c, hl⟩, rfl⟩ := if_some e
  rw [Bool.and_eq_true] at c
  obtain ⟨pa, va, ga, rfl, ea, _, ra⟩ := r1
  obtain ⟨pb, vb, gb, rfl, eb, _, rb⟩ := r2
  refine ⟨pa, pb, va, vb, rfl, rfl, ea, eb, by rw [ra.length, rb.length]; exact hl, fun t ht => ?_⟩
  have sm := upd_same_of (o := .lst (va ++ vb)) ht
  refine h _ _ [t] ⟨t, va ++ vb, [], rfl, upd_same, rfl, ?_⟩ (by simp) (by simpa using ht) sm
  exact (RepL.keep _ _ _ (ra.nil_of c.1) (Same.keep sm)).append (RepL.keep _ _ _ (rb.nil_of c.2) (Same.keep sm))
theorem o2_catT : Op2 K (rCatF K) dCatT := by
  intro H x y v w p q z Q r1 r2 e h
  cases x <;> cases y <;> try cases e
  rename_i a b
  obtain ⟨⟨c, hl⟩, rfl⟩ := if_some e
  rw [Bool.and_eq_true] at c
  obtain ⟨pa, va, rfl, ea, ra⟩ := r1
  obtain ⟨pb, vb, rfl, eb, rb⟩ := r2
  have la := ra.length
  have lb := rb.length
  refine ⟨pa, pb, va, vb, rfl, rfl, ea.sq, eb.sq, by rw [la, lb]; exact hl, fun h0 => ?_, fun h0 h1 => ?_, fun h0 h1 t o ht hd => ?_⟩
  · subst h0
    have : a = [] := List.eq_nil_of_length_eq_zero la.symm
    subst this
    exact h _ H [] ⟨pb, vb, rfl, eb, rb.nil_of c.2⟩ List.nodup_nil (by simp) (Same.refl H)
  · subst h1
    have : b = [] := List.eq_nil_of_length_eq_zero lb.symm
    subst this
    exact h _ H [] ⟨pa, va, rfl, ea, by rw [List.append_nil]; exact ra.nil_of c.1⟩ List.nodup_nil (by simp) (Same.refl H)
  · have sm := upd_same_of (o := .frz o (.tup (va ++ vb))) ht
    refine h _ _ [] ⟨t, va ++ vb, rfl, .inl ⟨o, upd_same, hd⟩, ?_⟩ List.nodup_nil (by simp) sm
    exact (RepL.keep _ _ _ (ra.nil_of c.1) (Same.keep sm)).append (RepL.keep _ _ _ (rb.nil_of c.2) (Same.keep sm))
def dAdd (x y : D) : Option D := (dAddI x y).orElse fun _ => (dAddS x y).orElse fun _ => (dCatL x y).orElse fun _ => dCatT x y
theorem o2_add : Op2 K (fun x y H Q => rI0 (fun i j => .int (i + j)) x y H Q ∨ (∃ i j, x = .str i ∧ y = .str j ∧ i.length + j.length ≤ sizeLine ∧ Q (.str (i ++ j)) H) ∨ rCat x y H Q ∨ rCatF K x y H Q) dAdd :=
  o2_addI.or (o2_addS.or (o2_catL.or o2_catT))
theorem ox_add : OpR X (binaryOp .Add) (fun x y H Q => rI0 (fun i j => .int (i + j)) x y H Q ∨ (∃ i j, x = .str i ∧ y = .str j ∧ i.length + j.length ≤ sizeLine ∧ Q (.str (i ++ j)) H) ∨ rCat x y H Q ∨ rCatF X.K x y H Q) :=
  op_add.or (op_add_str.or (op_cat.or op_catF))
def dRepL : D → D → Option D
  | .lst a, .int k => if immL a = true ∧ k.natAbs < 2 ^ 63 ∧ a.length * k.toNat ≤ sizeLine then some (.lst (List.replicate k.toNat a).flatten) else none
  | _, _ => none
theorem RepL.rep {K : PySem.W.Frag} {H : Hp} {ds : List D} {vs : List V} (h : RepL K H ds vs []) : ∀ k : Nat, RepL K H (List.replicate k ds).flatten (List.replicate k vs).flatten []
  | 0 => ⟨rfl, rfl⟩
  | k + 1 => by rw [List.replicate_succ, List.replicate_succ, List.flatten_cons, List.flatten_cons]; exact h.append (RepL.rep h k)
theorem o2_repL : Op2 K rRep dRepL := by
  intro H x y v w p q z Q r1 r2 e h
  cases x <;> cases y <;> try cases e
  rename_i a k
  obtain ⟨⟨c, h0, h3⟩, rfl⟩ := if_some e
  have h1 : -(2 ^ 63) ≤ k := by omega
  have h2 : k < 2 ^ 63 := by omega
  obtain ⟨pa, va, ga, rfl, ea, _, ra⟩ := r1
  refine ⟨pa, k, va, rfl, r2.1, ea, h1, h2, by rw [ra.length]; exact h3, fun t ht => ?_⟩
  have sm := upd_same_of (o := .lst (List.replicate k.toNat va).flatten) ht
  exact h _ _ [t] ⟨t, _, [], rfl, upd_same, rfl, RepL.keep _ _ _ ((ra.nil_of c).rep _) (Same.keep sm)⟩ (by simp) (by simpa using ht) sm
def dMul (x y : D) : Option D := (dMulI x y).orElse fun _ => dRepL x y
theorem o2_mul : Op2 K (fun x y H Q => rI CMul (fun i j => .int (i * j)) x y H Q ∨ rRep x y H Q) dMul := o2_mulI.or o2_repL
theorem ox_mul : OpR X (binaryOp .Mult) (fun x y H Q => rI CMul (fun i j => .int (i * j)) x y H Q ∨ rRep x y H Q) := op_mul.or op_rep
/-! ### ==, != -/
def toV : D → Option V
  | .non => some .non | .bl b => some (.bl b) | .int i => some (.int i) | .str x => some (.str x)
  | _ => none
theorem Rep.toV {K : PySem.W.Frag} {H : Hp} {d : D} {v w : V} {p : List Addr} (h : Rep K H d v p) (e : toV d = some w) : v = w := by
  cases d <;> cases e <;> exact h.1
/-- plain things compared -/
def dEqS (x y : D) : Option Bool := (toV x).bind fun v => (toV y).bind fun w => if scal v w = true then some (decide (v = w)) else none
def dEqD (x y : D) : Option Bool := if noDic x = true ∧ noDic y = true ∧ SeqAt.shaped (toP x) = true ∧ SeqAt.shaped (toP y) = true then some (PyData.eqv (toP x) (toP y)) else none
def dEqB (x y : D) : Option Bool := (dEqS x y).orElse fun _ => dEqD x y
def dEq (x y : D) : Option D := (dEqB x y).map .bl
def dNe (x y : D) : Option D := (dEqB x y).map fun b => .bl (!b)
theorem dEqS_some {x y : D} {b : Bool} (e : dEqS x y = some b) : ∃ v w, toV x = some v ∧ toV y = some w ∧ scal v w = true ∧ b = decide (v = w) := by
  unfold dEqS at e
  obtain ⟨v, e1, e⟩ := Option.bind_eq_some_iff.mp e
  obtain ⟨w, e2, e⟩ := Option.bind_eq_some_iff.mp e
  obtain ⟨c, e⟩ := if_some e
  exact ⟨v, w, e1, e2, c, e.symm⟩
theorem o2_eq : Op2 K (fun x y H Q => rEq x y H Q ∨ rEqD K x y H Q) dEq := by
  intro H x y v w p q z Q r1 r2 e0 h
  obtain ⟨b, e, rfl⟩ := Option.map_eq_some_iff.mp e0
  have fin := h (.bl b) H [] ⟨rfl, rfl⟩ List.nodup_nil (by simp) (Same.refl H)
  unfold dEqB at e
  cases e1 : dEqS x y with
  | some b' =>
    rw [e1] at e; cases e
    obtain ⟨v', w', e2, e3, e4, rfl⟩ := dEqS_some e1
    obtain rfl := r1.toV e2
    obtain rfl := r2.toV e3
    exact .inl ⟨e4, fin⟩
  | none =>
    rw [e1] at e
    obtain ⟨⟨n1, n2, s1, s2⟩, rfl⟩ := if_some (show (if noDic x = true ∧ noDic y = true ∧ SeqAt.shaped (toP x) = true ∧ SeqAt.shaped (toP y) = true then some (PyData.eqv (toP x) (toP y)) else none) = some b from e)
    exact .inr ⟨_, _, Rep.dp _ _ _ r1 n1, Rep.dp _ _ _ r2 n2, s1, s2, fin⟩
theorem o2_ne : Op2 K (fun x y H Q => rNe x y H Q ∨ rNeD K x y H Q) dNe := by
  intro H x y v w p q z Q r1 r2 e0 h
  obtain ⟨b, e, rfl⟩ := Option.map_eq_some_iff.mp e0
  have fin := h (.bl (!b)) H [] ⟨rfl, rfl⟩ List.nodup_nil (by simp) (Same.refl H)
  unfold dEqB at e
  cases e1 : dEqS x y with
  | some b' =>
    rw [e1] at e; cases e
    obtain ⟨v', w', e2, e3, e4, rfl⟩ := dEqS_some e1
    obtain rfl := r1.toV e2
    obtain rfl := r2.toV e3
    exact .inl ⟨e4, fin⟩
  | none =>
    rw [e1] at e
    obtain ⟨⟨n1, n2, s1, s2⟩, rfl⟩ := if_some (show (if noDic x = true ∧ noDic y = true ∧ SeqAt.shaped (toP x) = true ∧ SeqAt.shaped (toP y) = true then some (PyData.eqv (toP x) (toP y)) else none) = some b from e)
    exact .inr ⟨_, _, Rep.dp _ _ _ r1 n1, Rep.dp _ _ _ r2 n2, s1, s2, fin⟩
theorem ox_eq (hu : X.A.units + 64 < cLine) : OpR X (compareOp .Eq) (fun x y H Q => rEq x y H Q ∨ rEqD X.K x y H Q) := op_eq.or (op_eqD hu)
theorem ox_ne (hu : X.A.units + 64 < cLine) : OpR X (compareOp .NotEq) (fun x y H Q => rNe x y H Q ∨ rNeD X.K x y H Q) := op_ne.or (op_neD hu)
/-! ### in, not in -/
def keyOf : D → Option Key
  | .int i => some (.inl i)
  | .str x => some (.inr x)
  | _ => none
def kvGet (kvs : List (Key × D)) (k : Key) : Option D := (kvs.find? fun kv => decide (kv.1 = k)).map (·.2)
def kvPut (kvs : List (Key × D)) (k : Key) (v : D) : List (Key × D) := if kvs.any (fun kv => decide (kv.1 = k)) then kvs.map fun kv => if kv.1 = k then (kv.1, v) else kv else kvs ++ [(k, v)]
def inS (x : D) : List D → Option Bool
  | [] => some false
  | y :: ys => (toV x).bind fun v => (toV y).bind fun w => (inS x ys).map fun b => eqV w v || b
/-- in a list, a tuple of plain things; in a list of any data; in a dict; in a text -/
def dInB (x y : D) : Option Bool := match y with
  | .dic kvs => (keyOf x).map fun k => (kvGet kvs k).isSome
  | .fdic kvs => (keyOf x).map fun k => (kvGet kvs k).isSome
  | .str z => match x with
    | .str c => some (!(Builtin.Str.occurrences z c 0 z.length 1).isEmpty)
    | _ => none
  | _ => (seqOf y).bind fun ys => ((toV x).bind fun _ => inS x ys).orElse fun _ =>
    (lstOf y).bind fun ys => if noDic x = true ∧ noDicL ys = true ∧ SeqAt.shaped (toP x) = true ∧ SeqAt.shaped (.list (toPL ys)) = true then some ((toPL ys).any fun z => PyData.eqv z (toP x)) else none
def dIn (x y : D) : Option D := (dInB x y).map .bl
def dNotIn (x y : D) : Option D := (dInB x y).map fun b => .bl (!b)
theorem flat_toV {d : D} {v : V} (e : toV d = some v) : flatV v = true := by cases d <;> cases e <;> rfl
theorem inS_all {K : PySem.W.Frag} {H : Hp} {x : D} {v : V} (ex : toV x = some v) : ∀ {ys : List D} {ws : List V} {p : List Addr} {b : Bool}, RepL K H ys ws p → inS x ys = some b → ws.all flatV = true ∧ inV v ws = b
  | [], ws, p, b, r, e => by cases e; rw [r.1]; exact ⟨rfl, rfl⟩
  | y :: ys, ws, p, b, r, e => by
    obtain ⟨w, ws', f1, f2, rfl, rfl, r1, r2⟩ := r
    unfold inS at e
    rw [ex] at e
    obtain ⟨w', e1, e⟩ := Option.bind_eq_some_iff.mp (show ((toV y).bind fun w => (inS x ys).map fun b => eqV w v || b) = some b from e)
    obtain ⟨b', e2, e⟩ := Option.map_eq_some_iff.mp e
    subst e
    obtain rfl := r1.toV e1
    obtain ⟨q1, q2⟩ := inS_all ex r2 e2
    refine ⟨by simp [flat_toV e1, q1], ?_⟩
    show ((w :: ws').any fun y => eqV y v) = _
    rw [List.any_cons]
    show (eqV w v || inV v ws') = _
    rw [q2]
theorem RepK.get {K : PySem.W.Frag} {H : Hp} {k : Key} : ∀ {kvs : List (Key × D)} {ws : List (Key × V)} {p : List Addr}, RepK K H kvs ws p →
    (kvGet kvs k = none ∧ valV ws k = none) ∨ ∃ d v f, kvGet kvs k = some d ∧ valV ws k = some v ∧ Rep K H d v f
  | [], ws, p, r => by rw [r.1]; exact .inl ⟨rfl, rfl⟩
  | (k0, d0) :: kvs, ws, p, r => by
    obtain ⟨v, ws', f1, f2, rfl, rfl, r1, r2⟩ := r
    by_cases e : k0 = k
    · refine .inr ⟨d0, v, f1, by simp [kvGet, List.find?_cons, e], valV_pos e, r1⟩
    · have e1 : kvGet ((k0, d0) :: kvs) k = kvGet kvs k := by simp [kvGet, List.find?_cons, e]
      rw [e1, valV_neg e]
      exact RepK.get r2
theorem keyOf_kV {K : PySem.W.Frag} {H : Hp} {x : D} {v : V} {p : List Addr} {k : Key} (r : Rep K H x v p) (e : keyOf x = some k) : v = kV k := by
  cases x <;> cases e <;> exact r.1
def rInDic : R2 := fun y x H Q => ∃ a o, x = .ref a ∧ DGet H a y o ∧ Q (.bl o.isSome) H
def rNotInDic : R2 := fun y x H Q => ∃ a o, x = .ref a ∧ DGet H a y o ∧ Q (.bl (!o.isSome)) H
theorem op_inDic (hu : X.A.units + 1 < cLine) : OpR X (compareOp .In) rInDic := fun _ _ _ H _ _ _ _ _ I rx ry ⟨_, o, ex, get, q⟩ => by
  subst ex; cases ry
  exact d_in hu I get rx fun _ J => ⟨.bl o.isSome, H, J, rfl, q⟩
theorem op_notInDic (hu : X.A.units + 1 < cLine) : OpR X (compareOp .NotIn) rNotInDic := fun _ _ _ H _ _ _ _ _ I rx ry ⟨_, o, ex, get, q⟩ => by
  subst ex; cases ry
  exact d_notIn hu I get rx fun _ J => ⟨.bl (!o.isSome), H, J, rfl, q⟩
def rInAll (K : PySem.W.Frag) : R2 := fun x y H Q => rInDic x y H Q ∨ (∃ i j, x = .str i ∧ y = .str j ∧ Q (.bl (!(Builtin.Str.occurrences j i 0 j.length 1).isEmpty)) H) ∨ rIn K false x y H Q ∨ rInD K x y H Q
def rNotInAll (K : PySem.W.Frag) : R2 := fun x y H Q => rNotInDic x y H Q ∨ (∃ i j, x = .str i ∧ y = .str j ∧ Q (.bl (!(!(Builtin.Str.occurrences j i 0 j.length 1).isEmpty))) H) ∨ rIn K true x y H Q ∨ rNotInD K x y H Q
theorem ox_in (hu : X.A.units + 65 < cLine) : OpR X (compareOp .In) (rInAll X.K) := (op_inDic (by omega)).or (op_in_str.or (op_in_seq.or (op_inD hu)))
theorem ox_notIn (hu : X.A.units + 65 < cLine) : OpR X (compareOp .NotIn) (rNotInAll X.K) := (op_notInDic (by omega)).or (op_notin_str.or (op_notIn_seq.or (op_notInD hu)))
/-- both at once: n tells 'not' -/
theorem dget_frz {H : Hp} {a : Addr} {kvs : List (Key × V)} {k : Key} {o : Obj} (e : H a = some (.frz o (.dK kvs))) : DGet H a (kV k) (valV kvs k) := .inl ⟨kvs, k, .inr ⟨o, e⟩, rfl, rfl⟩
theorem in_core {K : PySem.W.Frag} {H : Hp} {x y : D} {v w : V} {p q : List Addr} {b : Bool} (r1 : Rep K H x v p) (r2 : Rep K H y w q) (e : dInB x y = some b) :
    (∃ a o, w = .ref a ∧ DGet H a v o ∧ o.isSome = b) ∨ (∃ i j, v = .str i ∧ w = .str j ∧ (!(Builtin.Str.occurrences j i 0 j.length 1).isEmpty) = b) ∨
      (∃ p xs, w = .ref p ∧ (SqL K H p xs ∨ SqT K H p xs) ∧ flatV v = true ∧ xs.all flatV = true ∧ inV v xs = b) ∨
      (∃ d ds, Dp K H v d ∧ Dp K H w (.list ds) ∧ SeqAt.shaped d = true ∧ SeqAt.shaped (.list ds) = true ∧ (ds.any fun z => PyData.eqv z d) = b) := by
  have seqCase : ∀ ys, seqOf y = some ys → (((toV x).bind fun _ => inS x ys).orElse fun _ => (lstOf y).bind fun ys => if noDic x = true ∧ noDicL ys = true ∧ SeqAt.shaped (toP x) = true ∧ SeqAt.shaped (.list (toPL ys)) = true then some ((toPL ys).any fun z => PyData.eqv z (toP x)) else none) = some b →
      (∃ p xs, w = .ref p ∧ (SqL K H p xs ∨ SqT K H p xs) ∧ flatV v = true ∧ xs.all flatV = true ∧ inV v xs = b) ∨ (∃ d ds, Dp K H v d ∧ Dp K H w (.list ds) ∧ SeqAt.shaped d = true ∧ SeqAt.shaped (.list ds) = true ∧ (ds.any fun z => PyData.eqv z d) = b) := by
    intro ys hy e
    cases e1 : ((toV x).bind fun _ => inS x ys) with
    | some b' =>
      rw [e1] at e
      cases e
      obtain ⟨v', e2, e3⟩ := Option.bind_eq_some_iff.mp e1
      obtain rfl := r1.toV e2
      obtain ⟨a, ws, g, rfl, hs, rl, _⟩ := r2.seq hy
      obtain ⟨q1, q2⟩ := inS_all e2 rl e3
      exact .inl ⟨a, ws, rfl, hs, flat_toV e2, q1, q2⟩
    | none =>
      rw [e1] at e
      obtain ⟨zs, e2, e3⟩ := Option.bind_eq_some_iff.mp (show ((lstOf y).bind fun ys => if noDic x = true ∧ noDicL ys = true ∧ SeqAt.shaped (toP x) = true ∧ SeqAt.shaped (.list (toPL ys)) = true then some ((toPL ys).any fun z => PyData.eqv z (toP x)) else none) = some b from e)
      obtain ⟨⟨n1, n2, s1, s2⟩, e4⟩ := if_some e3
      obtain ⟨a, ws, g, rfl, hs, rl, _⟩ := r2.sqL e2
      exact .inr ⟨toP x, toPL zs, Rep.dp _ _ _ r1 n1, .lst hs (RepL.dp _ _ _ rl n2), s1, s2, e4⟩
  cases y with
  | dic kvs =>
    obtain ⟨k, e1, e⟩ := Option.map_eq_some_iff.mp e
    obtain rfl := keyOf_kV r1 e1
    obtain ⟨a, ws, g, rfl, ea, _, rk⟩ := r2
    refine .inl ⟨a, _, rfl, DGet.k ea, ?_⟩
    rw [← e]
    rcases rk.get (k := k) with ⟨q1, q2⟩ | ⟨d, v, f, q1, q2, _⟩ <;> rw [q1, q2] <;> rfl
  | fdic kvs =>
    obtain ⟨k, e1, e⟩ := Option.map_eq_some_iff.mp e
    obtain rfl := keyOf_kV r1 e1
    obtain ⟨a, ws, rfl, ⟨o, ea⟩, rk⟩ := r2
    refine .inl ⟨a, _, rfl, dget_frz ea, ?_⟩
    rw [← e]
    rcases rk.get (k := k) with ⟨q1, q2⟩ | ⟨d, v, f, q1, q2, _⟩ <;> rw [q1, q2] <;> rfl
  | str z =>
    cases x <;> cases e
    exact .inr (.inl ⟨_, _, r1.1, r2.1, rfl⟩)
  | lst ds => exact .inr (.inr (seqCase ds rfl e))
  | flst ds => exact .inr (.inr (seqCase ds rfl e))
  | tup ds => exact .inr (.inr (seqCase ds rfl e))
  | _ => cases e
theorem o2_in : Op2 K (rInAll K) dIn := by
  intro H x y v w p q z Q r1 r2 e0 h
  obtain ⟨b, e, rfl⟩ := Option.map_eq_some_iff.mp e0
  have fin := h (.bl b) H [] ⟨rfl, rfl⟩ List.nodup_nil (by simp) (Same.refl H)
  rcases in_core r1 r2 e with ⟨a, o, e1, g, rfl⟩ | ⟨i, j, e1, e2, rfl⟩ | ⟨a, xs, e1, hs, f1, f2, rfl⟩ | ⟨d, ds, d1, d2, s1, s2, rfl⟩
  · exact .inl ⟨a, o, e1, g, fin⟩
  · exact .inr (.inl ⟨i, j, e1, e2, fin⟩)
  · exact .inr (.inr (.inl ⟨a, xs, e1, hs, f1, f2, fin⟩))
  · exact .inr (.inr (.inr ⟨d, ds, d1, d2, s1, s2, fin⟩))
theorem o2_notIn : Op2 K (rNotInAll K) dNotIn := by
  intro H x y v w p q z Q r1 r2 e0 h
  obtain ⟨b, e, rfl⟩ := Option.map_eq_some_iff.mp e0
  have fin := h (.bl (!b)) H [] ⟨rfl, rfl⟩ List.nodup_nil (by simp) (Same.refl H)
  rcases in_core r1 r2 e with ⟨a, o, e1, g, rfl⟩ | ⟨i, j, e1, e2, rfl⟩ | ⟨a, xs, e1, hs, f1, f2, rfl⟩ | ⟨d, ds, d1, d2, s1, s2, rfl⟩
  · exact .inl ⟨a, o, e1, g, fin⟩
  · exact .inr (.inl ⟨i, j, e1, e2, fin⟩)
  · exact .inr (.inr (.inl ⟨a, xs, e1, hs, f1, f2, fin⟩))
  · exact .inr (.inr (.inr ⟨d, ds, d1, d2, s1, s2, fin⟩))
/-! ### items -/
def dIxS : D → D → Option D
  | .str z, .int i => if z.length ≤ sizeLine then (atI z.cps.toList i).map fun c => .str ⟨#[c]⟩ else none
  | _, _ => none
def dIxQ (x y : D) : Option D := match y with
  | .int i => (seqOf x).bind fun ds => (atI ds i).bind fun d => if imm d = true then some d else none
  | _ => none
def dIxD (x y : D) : Option D := match x with
  | .dic kvs => (keyOf y).bind fun k => (kvGet kvs k).bind fun d => if imm d = true then some d else none
  | .fdic kvs => (keyOf y).bind fun k => (kvGet kvs k).bind fun d => if imm d = true then some d else none
  | _ => none
theorem RepL.atI {K : PySem.W.Frag} {H : Hp} {ds : List D} {vs : List V} {p : List Addr} {i : Int} {d : D} (r : RepL K H ds vs p) (e : L2.atI ds i = some d) : ∃ v f, L2.atI vs i = some v ∧ Rep K H d v f := by
  unfold L2.atI at e ⊢
  obtain ⟨j, e1, e2⟩ := Option.bind_eq_some_iff.mp e
  obtain ⟨v, f1, f2, f3, e3, _, r1, _⟩ := r.at e2
  exact ⟨v, f2, by rw [r.length, e1]; exact e3, r1⟩
theorem rep_nil {K : PySem.W.Frag} {H : Hp} {d : D} {v : V} {p : List Addr} (r : Rep K H d v p) (k : imm d = true) : Rep K H d v [] := by
  have := Rep.imm _ _ _ r k
  subst this
  exact r
theorem o2_ixS : Op2 K rIxS dIxS := by
  intro H x y v w p q z Q r1 r2 e h
  cases x <;> cases y <;> try cases e
  obtain ⟨c, e⟩ := by_cases_if e
  obtain ⟨u, e1, e⟩ := Option.map_eq_some_iff.mp e
  subst e
  exact ⟨_, _, u, r1.1, r2.1, c, e1, h _ H [] ⟨rfl, rfl⟩ List.nodup_nil (by simp) (Same.refl H)⟩
theorem o2_ixQ : Op2 K (fun x y H Q => rIxL K x y H Q ∨ rIxT K x y H Q) dIxQ := by
  intro H x y v w p q z Q r1 r2 e h
  cases y <;> try cases e
  rename_i i
  obtain ⟨ds, e1, e⟩ := Option.bind_eq_some_iff.mp (show ((seqOf x).bind fun ds => (L2.atI ds i).bind fun d => if imm d = true then some d else none) = some z from e)
  obtain ⟨d, e2, e⟩ := Option.bind_eq_some_iff.mp e
  obtain ⟨c, rfl⟩ := if_some e
  obtain ⟨a, ws, g, rfl, hs, rl, _⟩ := r1.seq e1
  obtain ⟨u, f, e3, r3⟩ := rl.atI e2
  have fin := h u H [] (rep_nil r3 c) List.nodup_nil (by simp) (Same.refl H)
  rcases hs with hs | hs
  · exact .inl ⟨a, ws, i, u, rfl, r2.1, hs, e3, fin⟩
  · exact .inr ⟨a, ws, i, u, rfl, r2.1, hs, e3, fin⟩
def dIx (x y : D) : Option D := (dIxS x y).orElse fun _ => dIxQ x y
theorem o2_ix : Op2 K (fun x y H Q => rIxS x y H Q ∨ rIxL K x y H Q ∨ rIxT K x y H Q) dIx := o2_ixS.or o2_ixQ
theorem ox_ix : IxR X (fun x y H Q => rIxS x y H Q ∨ rIxL X.K x y H Q ∨ rIxT X.K x y H Q) := ix_str.or (ix_list.or ix_tup)
end
/-- x[i], of a list, a tuple, a text, a dict -/
def dSubs (x y : D) : Option D := (dIx x y).orElse fun _ => dIxD x y
def rDicGet : R2 := fun x y H Q => ∃ a v, x = .ref a ∧ DGet H a y (some v) ∧ Q v H
theorem o2_ixD {K : PySem.W.Frag} : Op2 K rDicGet dIxD := by
  intro H x y v w p q z Q r1 r2 e h
  cases x <;> try cases e
  · rename_i kvs
    obtain ⟨k, e1, e⟩ := Option.bind_eq_some_iff.mp (show ((keyOf y).bind fun k => (kvGet kvs k).bind fun d => if imm d = true then some d else none) = some z from e)
    obtain ⟨d, e2, e⟩ := Option.bind_eq_some_iff.mp e
    obtain ⟨c, rfl⟩ := if_some e
    obtain rfl := keyOf_kV r2 e1
    obtain ⟨a, ws, g, rfl, ea, _, rk⟩ := r1
    rcases rk.get (k := k) with ⟨q1, q2⟩ | ⟨d', u, f, q1, q2, r3⟩
    · rw [e2] at q1; cases q1
    · rw [e2] at q1
      cases q1
      exact ⟨a, u, rfl, by have := DGet.k (k := k) ea; rw [q2] at this; exact this, h u H [] (rep_nil r3 c) List.nodup_nil (by simp) (Same.refl H)⟩
  · rename_i kvs
    obtain ⟨k, e1, e⟩ := Option.bind_eq_some_iff.mp (show ((keyOf y).bind fun k => (kvGet kvs k).bind fun d => if imm d = true then some d else none) = some z from e)
    obtain ⟨d, e2, e⟩ := Option.bind_eq_some_iff.mp e
    obtain ⟨c, rfl⟩ := if_some e
    obtain rfl := keyOf_kV r2 e1
    obtain ⟨a, ws, rfl, ⟨o, ea⟩, rk⟩ := r1
    rcases rk.get (k := k) with ⟨q1, q2⟩ | ⟨d', u, f, q1, q2, r3⟩
    · rw [e2] at q1; cases q1
    · rw [e2] at q1
      cases q1
      exact ⟨a, u, rfl, by have := dget_frz (k := k) ea; rw [q2] at this; exact this, h u H [] (rep_nil r3 c) List.nodup_nil (by simp) (Same.refl H)⟩
theorem de_sub {X : Cx} {a b : Expr} {pos : Pos} {fa fb : FE} (hu : X.A.units + 1 < cLine) (ha : DE X a fa) (hb : DE X b fb) (hs : PlainIx b) : DE X (.Subscript a b pos) (fOp dSubs fa fb) :=
  ⟨pe_weak (pe_or' (pe_ix ox_ix ha.pe hb.pe hs) (pe_dget (td := rdE X.K fa) (ty := rdE X.K fb) hu ha.pe hb.pe hs)) fun σ H Q h => by
    obtain ⟨ρ, F, x0, ρ2, E, nd, ef, k⟩ := h
    obtain ⟨x, ρ1, y, dx, dy, z, e1, e2, e3, e4, e5, rfl⟩ := fOp_some ef
    unfold dSubs at e5
    cases e6 : dIx dx dy with
    | some z' =>
      rw [e6] at e5
      cases e5
      refine .inl (tOp_of (g := dIx) o2_ix ⟨ρ, F, .val z, ρ2, E, nd, ?_, k⟩)
      unfold fOp
      simp [e1, e2, e3, e4, e6]
    | none =>
      rw [e6] at e5
      refine .inr (tOp_of (g := dIxD) (r := rDicGet) o2_ixD ⟨ρ, F, .val z, ρ2, E, nd, ?_, k⟩)
      unfold fOp
      have e5' : dIxD dx dy = some z := e5
      simp [e1, e2, e3, e4, e5']⟩
end DL
/-! Calls of built-ins, methods. -/
namespace DL
open PySem PySem.Spec L2
/-- the arguments as they stand -/
def Args (K : PySem.W.Frag) (H : Hp) (ds : List D) (vs : List V) : Prop := vs.length = ds.length ∧ ∀ (i : Nat) (d : D) (v : V), ds[i]? = some d → vs[i]? = some v → ∃ p, Rep K H d v p
theorem Args.one {K : PySem.W.Frag} {H : Hp} {d : D} {vs : List V} (h : Args K H [d] vs) : ∃ v p, vs = [v] ∧ Rep K H d v p := by
  obtain ⟨hl, h⟩ := h
  match vs, hl with
  | [v], _ => obtain ⟨p, r⟩ := h 0 d v rfl rfl; exact ⟨v, p, rfl, r⟩
theorem Args.two {K : PySem.W.Frag} {H : Hp} {d e : D} {vs : List V} (h : Args K H [d, e] vs) : ∃ v w p q, vs = [v, w] ∧ Rep K H d v p ∧ Rep K H e w q := by
  obtain ⟨hl, h⟩ := h
  match vs, hl with
  | [v, w], _ => obtain ⟨p, r⟩ := h 0 d v rfl rfl; obtain ⟨q, r'⟩ := h 1 e w rfl rfl; exact ⟨v, w, p, q, rfl, r, r'⟩
/-- something new comes, or a thing that owns nothing -/
def Tells (K : PySem.W.Frag) (H : Hp) (z : D) (Q : VK) : Prop := ∀ u H' h, Rep K H' z u h → h.Nodup → (∀ a ∈ h, H a = none) → Same H H' → Q u H'
theorem Tells.flat {K : PySem.W.Frag} {H : Hp} {z : D} {Q : VK} (t : Tells K H z Q) {u : V} (r : Rep K H z u []) : Q u H := t u H [] r List.nodup_nil (by simp) (Same.refl H)
theorem Tells.list {K : PySem.W.Frag} {H : Hp} {ds : List D} {Q : VK} (t : Tells K H (.lst ds) Q) {vs : List V} (r : RepL K H ds vs []) {p : Addr} (hp : H p = none) : Q (.ref p) (upd H p (.lst vs)) := by
  have sm := upd_same_of (o := .lst vs) hp
  exact t _ _ [p] ⟨p, vs, [], rfl, upd_same, rfl, RepL.keep _ _ _ r (Same.keep sm)⟩ (by simp) (by simpa using hp) sm
theorem Tells.tup {K : PySem.W.Frag} {H : Hp} {ds : List D} {Q : VK} (t : Tells K H (.tup ds) Q) {vs : List V} (r : RepL K H ds vs []) : newT H vs Q := fun p o hp hd => by
  have sm := upd_same_of (o := .frz o (.tup vs)) hp
  exact t _ _ [] ⟨p, vs, rfl, .inl ⟨o, upd_same, hd⟩, RepL.keep _ _ _ r (Same.keep sm)⟩ List.nodup_nil (by simp) sm
def CallS (K : PySem.W.Frag) (r : List V → Hp → VK → Prop) (g : List D → Option D) : Prop := ∀ (H : Hp) (ds : List D) (vs : List V) (z : D) (Q : VK), Args K H ds vs → g ds = some z → Tells K H z Q → r vs H Q
def fCall (g : List D → Option D) (fr : FA) : FE := fun ρ => (fr ρ).bind fun (rs, ρ1) => (conts ρ1 rs).bind fun ds => (g ds).map fun z => (.val z, ρ1)
section
variable {X : Cx} {e o : Expr} {es : List Expr} {pos p : Pos} {x : Str} {id T : String} {r : List V → Hp → VK → Prop} {g : List D → Option D} {fr : FA} {fo : FE}
theorem tCB_of {K : PySem.W.Frag} (hg : CallS K r g) {σ : L2.St} {H : Hp} {Q : VK} (h : rdE K (fCall g fr) σ H Q) : tCB r (rdA K fr) σ H Q := by
  obtain ⟨ρ, F, x0, ρ2, E, nd, ef, k⟩ := h
  obtain ⟨⟨rs, ρ1⟩, e1, ef⟩ := Option.bind_eq_some_iff.mp ef
  obtain ⟨ds, e2, ef⟩ := Option.bind_eq_some_iff.mp ef
  obtain ⟨z, e3, ef⟩ := Option.map_eq_some_iff.mp ef
  cases ef
  refine ⟨ρ, F, rs, ρ2, E, nd, e1, fun vs H' g' F' r1 E1 N1 S1 => ?_⟩
  obtain ⟨hl, hi⟩ := r1.conts E1 e2
  refine hg H' ds vs z Q ⟨hl, fun i d v a b => let ⟨p, q, _⟩ := hi i d v a b; ⟨p, q⟩⟩ e3 fun u H2 h ru nh fr' sm => ?_
  exact k u H2 h F' ru (E1.keep (Same.keep sm)) (nodup_fresh E1 (nodup3 N1).2.1 nh fr') (S1.fresh sm fr' fun a ha => List.mem_append_right _ ha)
theorem de_callB (hc : CallR X (.builtin id) r) (hs : CallS X.K r g) (hg : Gl X x) (hm : X.mg x = none) (hv : bootBuiltins x = some (.builtin id)) (ha : DA X (e :: es) fr) (hn : x ≠ "__name__" := by decide) (hdb : (x == ("__debug__" : Str)) = false := by decide)
    (he : starEach (e :: es) X.env = (false, eval e X.env) :: starEach es X.env := by rfl) (hpl : (backTo pos (starEach es X.env)).any (·.1) = false := by rfl) : DE X (.Call (.Name x p) (e :: es) [] pos) (fCall g fr) :=
  ⟨pe_weak (pe_callB hc hg hm hv ha.pa hn hdb he hpl) fun _ _ _ h => tCB_of hs h⟩
theorem de_callTy (hc : CallR X (.type T) r) (hs : CallS X.K r g) (hg : Gl X x) (hm : X.mg x = none) (hv : bootBuiltins x = some (.type T)) (ha : DA X (e :: es) fr) (hn : x ≠ "__name__" := by decide) (hdb : (x == ("__debug__" : Str)) = false := by decide)
    (he : starEach (e :: es) X.env = (false, eval e X.env) :: starEach es X.env := by rfl) (hpl : (backTo pos (starEach es X.env)).any (·.1) = false := by rfl) : DE X (.Call (.Name x p) (e :: es) [] pos) (fCall g fr) :=
  ⟨pe_weak (pe_callTy hc hg hm hv ha.pa hn hdb he hpl) fun _ _ _ h => tCB_of hs h⟩
end
theorem CallS.or {K : PySem.W.Frag} {r r' : List V → Hp → VK → Prop} {f f' : List D → Option D} (h : CallS K r f) (h' : CallS K r' f') : CallS K (fun xs H Q => r xs H Q ∨ r' xs H Q) (fun xs => (f xs).orElse fun _ => f' xs) := by
  intro H ds vs z Q a e k
  have e : (f ds).orElse (fun _ => f' ds) = some z := e
  cases e1 : f ds with
  | some z' =>
    rw [e1] at e
    cases e
    exact .inl (h H ds vs z Q a e1 k)
  | none =>
    rw [e1] at e
    exact .inr (h' H ds vs z Q a e k)
/-! ### len -/
def dLenQ : List D → Option D
  | [.str z] => if z.length ≤ sizeLine then some (.int z.length) else none
  | [x] => (seqOf x).map fun ds => .int ds.length
  | _ => none
def dLenD : List D → Option D
  | [.dic kvs] => some (.int kvs.length)
  | _ => none
def dLen (xs : List D) : Option D := (dLenQ xs).orElse fun _ => dLenD xs
section
variable {K : PySem.W.Frag} {X : Cx}
theorem cs_lenQ : CallS K (fun xs H Q => ∃ x n, xs = [x] ∧ LenV K x H n ∧ Q (.int n) H) dLenQ := by
  intro H ds vs z Q a e k
  unfold dLenQ at e
  split at e
  · obtain ⟨v, p, rfl, r⟩ := a.one
    obtain ⟨c, rfl⟩ := if_some e
    obtain ⟨rfl, _⟩ := r
    exact ⟨_, _, rfl, ⟨c, rfl⟩, k.flat ⟨rfl, rfl⟩⟩
  · obtain ⟨v, p, rfl, r⟩ := a.one
    obtain ⟨ys, e1, rfl⟩ := Option.map_eq_some_iff.mp e
    obtain ⟨b, ws, g, rfl, hs, rl, _⟩ := r.seq e1
    refine ⟨_, ws.length, rfl, ?_, by rw [rl.length]; exact k.flat ⟨rfl, rfl⟩⟩
    rcases hs with hs | hs
    · exact .inl ⟨ws, hs, rfl⟩
    · exact .inr ⟨ws, hs, rfl⟩
  · cases e
theorem RepK.length {H : Hp} : ∀ {kvs : List (Key × D)} {ws : List (Key × V)} {p : List Addr}, RepK K H kvs ws p → ws.length = kvs.length
  | [], ws, p, r => by rw [r.1]; rfl
  | (k0, d0) :: kvs, ws, p, r => by
    obtain ⟨v, ws', f1, f2, rfl, rfl, r1, r2⟩ := r
    rw [List.length_cons, List.length_cons, RepK.length r2]
theorem cs_lenD : CallS K (fun xs H Q => ∃ a kvs, xs = [V.ref a] ∧ H a = some (.dK kvs) ∧ Q (.int kvs.length) H) dLenD := by
  intro H ds vs z Q a e k
  unfold dLenD at e
  split at e
  · obtain ⟨v, p, rfl, r⟩ := a.one
    cases e
    obtain ⟨b, ws, g, rfl, hb, _, rk⟩ := r
    exact ⟨b, ws, rfl, hb, by rw [rk.length]; exact k.flat ⟨rfl, rfl⟩⟩
  · cases e
theorem cs_len : CallS K (fun xs H Q => (∃ x n, xs = [x] ∧ LenV K x H n ∧ Q (.int n) H) ∨ ∃ a kvs, xs = [V.ref a] ∧ H a = some (.dK kvs) ∧ Q (.int kvs.length) H) dLen := cs_lenQ.or cs_lenD
theorem cx_len : CallR X (.builtin "len") (fun xs H Q => (∃ x n, xs = [x] ∧ LenV X.K x H n ∧ Q (.int n) H) ∨ ∃ a kvs, xs = [V.ref a] ∧ H a = some (.dK kvs) ∧ Q (.int kvs.length) H) := call_len.or call_lenD
/-! ### list, tuple, int, str, abs, sum -/
def dList : List D → Option D
  | [x] => (seqOf x).bind fun ds => if immL ds = true then some (.lst ds) else none
  | _ => none
theorem cs_list : CallS K (fun xs H Q => ∃ p ys, xs = [.ref p] ∧ (SqL K H p ys ∨ SqT K H p ys) ∧ ∀ l, H l = none → Q (.ref l) (upd H l (.lst ys))) dList := by
  intro H ds vs z Q a e k
  unfold dList at e
  split at e
  · obtain ⟨v, p, rfl, r⟩ := a.one
    obtain ⟨ys, e1, e⟩ := Option.bind_eq_some_iff.mp e
    obtain ⟨c, rfl⟩ := if_some e
    obtain ⟨b, ws, g, rfl, hs, rl, _⟩ := r.seq e1
    exact ⟨b, ws, rfl, hs, fun l hl => k.list (rl.nil_of c) hl⟩
  · cases e
def dTuple : List D → Option D
  | [x] => (seqOf x).bind fun ds => if immL ds = true then some (.tup ds) else none
  | _ => none
theorem cs_tuple : CallS K (rTupOf K) dTuple := by
  intro H ds vs z Q a e k
  unfold dTuple at e
  split at e
  · rename_i x
    obtain ⟨v, p, rfl, r⟩ := a.one
    obtain ⟨ys, e1, e⟩ := Option.bind_eq_some_iff.mp e
    obtain ⟨c, rfl⟩ := if_some e
    cases x with
    | tup es =>
      cases e1
      obtain ⟨b, ws, rfl, hs, rl⟩ := r
      exact ⟨b, ws, rfl, .inr ⟨hs.sq, k.flat ⟨b, ws, rfl, hs, rl.nil_of c⟩⟩⟩
    | lst es =>
      obtain ⟨b, ws, g, rfl, hs, rl, _⟩ := r.sqL (show lstOf (.lst es) = some ys from e1)
      exact ⟨b, ws, rfl, .inl ⟨hs, k.tup (rl.nil_of c)⟩⟩
    | flst es =>
      obtain ⟨b, ws, g, rfl, hs, rl, _⟩ := r.sqL (show lstOf (.flst es) = some ys from e1)
      exact ⟨b, ws, rfl, .inl ⟨hs, k.tup (rl.nil_of c)⟩⟩
    | _ => cases e1
  · cases e
def dInt : List D → Option D
  | [.int i] => some (.int i)
  | [.bl b] => some (.int (if b then 1 else 0))
  | _ => none
theorem cs_int : CallS K (fun xs H Q => (∃ i, xs = [.int i] ∧ Q (.int i) H) ∨ ∃ k, xs = [.bl k] ∧ Q (.int (if k then 1 else 0)) H) dInt := by
  intro H ds vs z Q a e k
  unfold dInt at e
  split at e
  · obtain ⟨v, p, rfl, r⟩ := a.one
    cases e
    exact .inl ⟨_, by rw [r.1], k.flat ⟨rfl, rfl⟩⟩
  · obtain ⟨v, p, rfl, r⟩ := a.one
    cases e
    exact .inr ⟨_, by rw [r.1], k.flat ⟨rfl, rfl⟩⟩
  · cases e
def dAbs : List D → Option D
  | [.int i] => some (.int (if i < 0 then -i else i))
  | _ => none
theorem cs_abs : CallS K (fun xs H Q => ∃ i, xs = [.int i] ∧ Q (.int (if i < 0 then -i else i)) H) dAbs := by
  intro H ds vs z Q a e k
  unfold dAbs at e
  split at e
  · obtain ⟨v, p, rfl, r⟩ := a.one
    cases e
    exact ⟨_, by rw [r.1], k.flat ⟨rfl, rfl⟩⟩
  · cases e
/-- all whole numbers -/
def intsOf : List D → Option (List Int)
  | [] => some []
  | .int i :: ds => (intsOf ds).map fun is => i :: is
  | _ :: _ => none
theorem RepL.ints {H : Hp} : ∀ {ds : List D} {vs : List V} {p : List Addr} {ns : List Int}, RepL K H ds vs p → intsOf ds = some ns → vs = ns.map V.int ∧ ds = ns.map D.int
  | [], vs, p, ns, r, e => by cases e; exact ⟨r.1, rfl⟩
  | d :: ds, vs, p, ns, r, e => by
    obtain ⟨v, vs', f1, f2, rfl, rfl, r1, r2⟩ := r
    cases d <;> try cases e
    obtain ⟨is, e1, rfl⟩ := Option.map_eq_some_iff.mp e
    obtain ⟨rfl, rfl⟩ := RepL.ints r2 e1
    exact ⟨by rw [r1.1]; rfl, rfl⟩
def dSum : List D → Option D
  | [x] => (lstOf x).bind fun ds => (intsOf ds).map fun ns => .int ns.sum
  | _ => none
theorem cs_sum : CallS K (rSum K) dSum := by
  intro H ds vs z Q a e k
  unfold dSum at e
  split at e
  · obtain ⟨v, p, rfl, r⟩ := a.one
    obtain ⟨ys, e1, e⟩ := Option.bind_eq_some_iff.mp e
    obtain ⟨ns, e2, rfl⟩ := Option.map_eq_some_iff.mp e
    obtain ⟨b, ws, g, rfl, hs, rl, _⟩ := r.sqL e1
    obtain ⟨rfl, _⟩ := rl.ints e2
    exact ⟨b, ns, rfl, hs, k.flat ⟨rfl, rfl⟩⟩
  · cases e
def blsOf : List D → Option (List Bool)
  | [] => some []
  | .bl i :: ds => (blsOf ds).map fun is => i :: is
  | _ :: _ => none
theorem RepL.bls {H : Hp} : ∀ {ds : List D} {vs : List V} {p : List Addr} {ns : List Bool}, RepL K H ds vs p → blsOf ds = some ns → vs = ns.map V.bl
  | [], vs, p, ns, r, e => by cases e; exact r.1
  | d :: ds, vs, p, ns, r, e => by
    obtain ⟨v, vs', f1, f2, rfl, rfl, r1, r2⟩ := r
    cases d <;> try cases e
    obtain ⟨is, e1, rfl⟩ := Option.map_eq_some_iff.mp e
    obtain rfl := RepL.bls r2 e1
    rw [r1.1]; rfl
def dAll : List D → Option D
  | [x] => (lstOf x).bind fun ds => (blsOf ds).map fun ns => .bl (ns.all id)
  | _ => none
theorem cs_all : CallS K (rAll K) dAll := by
  intro H ds vs z Q a e k
  unfold dAll at e
  split at e
  · obtain ⟨v, p, rfl, r⟩ := a.one
    obtain ⟨ys, e1, e⟩ := Option.bind_eq_some_iff.mp e
    obtain ⟨ns, e2, rfl⟩ := Option.map_eq_some_iff.mp e
    obtain ⟨b, ws, g, rfl, hs, rl, _⟩ := r.sqL e1
    obtain rfl := rl.bls e2
    exact ⟨b, ns, rfl, hs, k.flat ⟨rfl, rfl⟩⟩
  · cases e
/-! ### min, max of whole numbers -/
def rMm (K : PySem.W.Frag) (f : Int → Int → Int) : List V → Hp → VK → Prop := fun vs H Q => ∃ (a : Addr) (n : Int) (ns : List Int), vs = [.ref a] ∧ (SqL K H a ((n :: ns).map V.int) ∨ SqT K H a ((n :: ns).map V.int)) ∧ Q (.int (ns.foldl f n)) H
theorem reads_ints {h : Heap} : ∀ {us : List Value} {ns : List Int}, PyProof.Rows.IntsAre us ns → ∃ as, ReadsAll h us (ns.map PyData.int) as
  | _, _, .nil => ⟨_, .nil⟩
  | _, _, .cons n t r => let ⟨as, q⟩ := reads_ints r; ⟨_, .cons (.int n t) q⟩
theorem alike_ints' (ns : List Int) : PySem.W.AlikeAll (ns.map PyData.int) := by
  constructor
  · intro x hx y hy
    obtain ⟨a, _, rfl⟩ := List.mem_map.mp hx
    obtain ⟨b, _, rfl⟩ := List.mem_map.mp hy
    simp [PySem.W.alike]
  · intro x hx
    obtain ⟨a, _, rfl⟩ := List.mem_map.mp hx
    exact fun q => nomatch q
theorem depth_ints' (ns : List Int) : PyData.depthAll (ns.map PyData.int) = 0 := by
  induction ns <;> simp_all [PyData.depthAll, PyData.depth]
/-- the whole numbers of a list, a tuple, as data -/
theorem nums_at {pins : List (Addr × Obj)} {σ : L2.St} {H : Hp} {st : Shared} {a : Addr} {ns : List Int} (I : Inv X pins σ H st) (h : SqL X.K H a (ns.map V.int) ∨ SqT X.K H a (ns.map V.int)) :
    ∃ (zs : List Value) (as : List Addr), ReadsAll st.heap zs (ns.map .int) as ∧ (st.heap.IsList a zs.toArray ∨ st.heap.IsTuple a zs.toArray) :=
  h.elim (fun l => let ⟨zs, rv, p, _⟩ := I.list l; let ⟨as, rd⟩ := reads_ints rv.ints; ⟨zs, as, rd, .inl p.isList⟩)
    fun t => let ⟨zs, rv, p, _⟩ := I.tuple t; let ⟨as, rd⟩ := reads_ints rv.ints; ⟨zs, as, rd, .inr p⟩
theorem mm_end {pins : List (Addr × Obj)} {σ : L2.St} {H : Hp} {st : Shared} {Q : VK} {m : Int} (I : Inv X pins σ H st) (q : Q (.int m) H) {v : Value} {g : Heap} {tk : Nat} {bs : List Addr} (rd : Reads g v (.int m) bs)
    (kp : ∀ b o, st.heap.get? b = some o → g.get? b = some o) : EP X pins σ Q v { st with heap := g, toks := tk } := by
  cases rd
  exact ⟨.int m, H, I.kept kp, ⟨_, rfl⟩, q⟩
theorem shallow {u : Nat} (ns : List Int) (h : u + 1 < cLine) : u + 1 + PyData.depthAll (ns.map .int) < cLine := by rw [depth_ints']; exact h
theorem cx_min (calm : X.calm = true) (hu : X.A.units + 1 < cLine) : CallR X (.builtin "min") (rMm X.K min) := fun pins st σ H _ us Q I r ⟨a, n, ns, ex, at_, q⟩ => by
  subst ex
  rw [Vals.ref1 r]
  obtain ⟨zs, as, rd, p | p⟩ := nums_at I at_
  · exact PySem.W.min_list_data (I.ok.hd calm) p rd (alike_ints' (n :: ns)) (shallow (n :: ns) hu) fun _ _ _ _ _ _ rv kp => mm_end I q (PySem.W.minD_ints n ns ▸ rv) kp
  · exact PySem.W.min_tuple_data (I.ok.hd calm) p rd (alike_ints' (n :: ns)) (shallow (n :: ns) hu) fun _ _ _ _ _ _ rv kp => mm_end I q (PySem.W.minD_ints n ns ▸ rv) kp
def dMm (f : Int → Int → Int) : List D → Option D
  | [x] => (seqOf x).bind fun ds => (intsOf ds).bind fun ns => match ns with
    | [] => none
    | n :: ns => some (.int (ns.foldl f n))
  | _ => none
theorem cs_mm (f : Int → Int → Int) : CallS K (rMm K f) (dMm f) := by
  intro H ds vs z Q a e k
  unfold dMm at e
  split at e
  · obtain ⟨v, p, rfl, r⟩ := a.one
    obtain ⟨ys, e1, e⟩ := Option.bind_eq_some_iff.mp e
    obtain ⟨ns, e2, e⟩ := Option.bind_eq_some_iff.mp e
    obtain ⟨b, ws, g, rfl, hs, rl, _⟩ := r.seq e1
    obtain ⟨rfl, _⟩ := rl.ints e2
    cases ns with
    | nil => cases e
    | cons n ns =>
      cases e
      exact ⟨b, n, ns, rfl, hs, k.flat ⟨rfl, rfl⟩⟩
  · cases e
/-! ### sorted -/
def sortable (ds : List PyData) : Bool := (ds.all fun d => match d with | .tuple (_ :: _) => true | _ => false) || ds.all fun d => match d with | .none => false | .tuple _ => false | _ => true
def allAlike (ds : List PyData) : Bool := ds.all fun d => ds.all fun e => PySem.W.alike d e
theorem sortable_ok {ds : List PyData} (h : sortable ds = true) : PySem.W.Sortable ds := by
  unfold sortable at h
  rw [Bool.or_eq_true, List.all_eq_true, List.all_eq_true] at h
  rcases h with h | h
  · refine .inl fun d hd => ?_
    have q := h d hd
    split at q
    · exact ⟨_, _, rfl⟩
    · cases q
  · refine .inr fun d hd => ?_
    have q := h d hd
    split at q
    · cases q
    · cases q
    · rename_i h1 h2
      exact ⟨h1, fun xs => h2 xs⟩
def rSortedD (K : PySem.W.Frag) : List V → Hp → VK → Prop := fun vs H Q => ∃ (a : Addr) (ds : List D) (ws : List V), vs = [.ref a] ∧ SqL K H a ws ∧ RepL K H ds ws [] ∧ noDicL ds = true ∧ immL ds = true ∧
  sortable (ds.map toP) = true ∧ allAlike (ds.map toP) = true ∧ (∀ d ∈ ds, (toP d).depth ≤ 32) ∧
  ∀ (p : Addr) (xs : List V), H p = none → RepL K H (ds.mergeSort (PySem.W.dataLe false toP)) xs [] → Q (.ref p) (upd H p (.lst xs))
theorem each_of {H : Hp} {R : Value → D → Prop} : ∀ {ds : List D} {vs : List V} {us : List Value}, RepL K H ds vs [] → immL ds = true → Vals vs us → (∀ d v u, d ∈ ds → Rep K H d v [] → RelV v u → R u d) → PySem.W.EachIs R us ds
  | [], vs, us, r, _, rv, _ => by obtain ⟨rfl, _⟩ := r; cases rv; exact .nil
  | d :: ds, vs, us, r, hi, rv, f => by
    obtain ⟨v, vs', f1, f2, rfl, e, r1, r2⟩ := r
    obtain ⟨rfl, rfl⟩ := List.nil_eq_append_iff.mp e
    have hi' : (imm d && immL ds) = true := hi
    rw [Bool.and_eq_true] at hi'
    cases rv with
    | cons a b => exact .cons (f d v _ List.mem_cons_self r1 a) (each_of r2 hi'.2 b fun d' v' u hd => f d' v' u (List.mem_cons_of_mem _ hd))
theorem of_each {H : Hp} : ∀ {us : List Value} {ds : List D}, PySem.W.EachIs (fun u d => ∃ v, RelV v u ∧ Rep K H d v []) us ds → ∃ vs, Vals vs us ∧ RepL K H ds vs []
  | _, _, .nil => ⟨[], .nil, rfl, rfl⟩
  | _, _, .cons h t => by
    obtain ⟨v, r, q⟩ := h
    obtain ⟨vs, r2, q2⟩ := of_each t
    exact ⟨v :: vs, .cons r r2, v, vs, [], [], rfl, rfl, q, q2⟩
theorem noDicL_mem : ∀ {ds : List D} {d : D}, noDicL ds = true → d ∈ ds → noDic d = true
  | x :: ds, d, h, hd => by
    have h' : (noDic x && noDicL ds) = true := h
    rw [Bool.and_eq_true] at h'
    rcases List.mem_cons.mp hd with rfl | hd
    · exact h'.1
    · exact noDicL_mem h'.2 hd
/-- a list's items as they read, and as they are told -/
theorem items_at {pins : List (Addr × Obj)} {σ : L2.St} {H : Hp} {st : Shared} {zs : List Value} {ds : List D} {ws : List V} (I : Inv X pins σ H st) (rl : RepL X.K H ds ws []) (flat : noDicL ds = true) (still : immL ds = true) (rv : Vals ws zs) :
    PySem.W.EachIs (fun v b => ∃ as, Reads st.heap v (toP b) as) zs ds ∧ PySem.W.EachIs (fun u d => ∃ v, RelV v u ∧ Rep X.K H d v []) zs ds :=
  ⟨each_of rl still rv fun d v u hd r1 r2 => Dp.reads I (toP d) v u (Rep.dp d v [] r1 (noDicL_mem flat hd)) r2, each_of rl still rv fun d v u _ r1 r2 => ⟨v, r2, r1⟩⟩
theorem cx_sorted (hu : X.A.units + 40 < cLine) : CallR X (.builtin "sorted") (rSortedD X.K) := fun pins st σ H _ us Q I r ⟨a, ds, ws, ex, at_, rl, flat, still, so, al, dp, q⟩ => by
  subst ex
  rw [Vals.ref1 r]
  have ⟨zs, rv, p, small⟩ := I.list at_
  have count : ws.length = ds.length := rl.length
  have ⟨reads, told⟩ := items_at I rl flat still rv
  apply PySem.W.sorted_data p.isList told reads (fun x hx y hy => List.all_eq_true.mp (List.all_eq_true.mp al x hx) y hy) (sortable_ok so) (count ▸ small)
  · intro b hb
    have := dp b hb
    omega
  · intro out same each
    have ⟨xs, rx, rxl⟩ := of_each each
    have ⟨_, new⟩ := PyProof.Rows.sortedAll_at st.heap zs out.toArray
    have fits : xs.length ≤ sizeLine := by rw [rx.length, same, ← count]; exact small
    exact ⟨.ref _, _, I.laid (t' := st.toks) (o := .lst xs) (fun _ _ => PyProof.Rows.sortedAll_old) (Nat.le_succ _) ⟨fits, out, _, rx, new⟩, rfl, q _ xs (I.hok.fresh (Nat.le_succ _)) rxl⟩
def dSorted : List D → Option D
  | [x] => (lstOf x).bind fun ds => if noDicL ds = true ∧ immL ds = true ∧ sortable (ds.map toP) = true ∧ allAlike (ds.map toP) = true ∧ (∀ d ∈ ds, (toP d).depth ≤ 32) then some (.lst (ds.mergeSort (PySem.W.dataLe false toP))) else none
  | _ => none
theorem cs_sorted : CallS K (rSortedD K) dSorted := by
  intro H ds vs z Q a e k
  unfold dSorted at e
  split at e
  · obtain ⟨v, p, rfl, r⟩ := a.one
    obtain ⟨ys, e1, e⟩ := Option.bind_eq_some_iff.mp e
    obtain ⟨⟨c1, c2, c3, c4, c5⟩, rfl⟩ := if_some e
    obtain ⟨b, ws, g, rfl, hs, rl, _⟩ := r.sqL e1
    exact ⟨b, ys, ws, rfl, hs, rl.nil_of c2, c1, c2, c3, c4, c5, fun p xs hp rx => k.list rx hp⟩
  · cases e
end
end DL
/-! Methods: such as read, such as change what a slot holds. -/
namespace DL
open PySem PySem.Spec L2
/-! ### read -/
def MethS (K : PySem.W.Frag) (r : V → List V → Hp → VK → Prop) (g : D → List D → Option D) : Prop :=
  ∀ (H : Hp) (d : D) (v : V) (p : List Addr) (ds : List D) (vs : List V) (z : D) (Q : VK), Rep K H d v p → Args K H ds vs → g d ds = some z → Tells K H z Q → r v vs H Q
def fMethR (g : D → List D → Option D) (fo : FE) (fr : FA) : FE := fun ρ =>
  (fo ρ).bind fun (x, ρ1) => (cont ρ1 x).bind fun d0 => (fr ρ1).bind fun (rs, ρ2) => (cont ρ2 x).bind fun d => (conts ρ2 rs).bind fun ds => (g d ds).map fun z => (.val z, ρ2)
theorem fMethR_some {g : D → List D → Option D} {fo : FE} {fr : FA} {ρ ρ' : Fm} {r : R} (e : fMethR g fo fr ρ = some (r, ρ')) :
    ∃ x ρ1 d0 rs d ds z, fo ρ = some (x, ρ1) ∧ cont ρ1 x = some d0 ∧ fr ρ1 = some (rs, ρ') ∧ cont ρ' x = some d ∧ conts ρ' rs = some ds ∧ g d ds = some z ∧ r = .val z := by
  unfold fMethR at e
  obtain ⟨⟨x, ρ1⟩, e1, e⟩ := Option.bind_eq_some_iff.mp e
  obtain ⟨d0, e0, e⟩ := Option.bind_eq_some_iff.mp e
  obtain ⟨⟨rs, ρ2⟩, e2, e⟩ := Option.bind_eq_some_iff.mp e
  obtain ⟨d, e3, e⟩ := Option.bind_eq_some_iff.mp e
  obtain ⟨ds, e4, e⟩ := Option.bind_eq_some_iff.mp e
  obtain ⟨z, e5, e⟩ := Option.map_eq_some_iff.mp e
  cases e
  exact ⟨x, ρ1, d0, rs, d, ds, z, e1, e0, e2, e3, e4, e5, rfl⟩
section
variable {K : PySem.W.Frag} {r : V → List V → Hp → VK → Prop} {g : D → List D → Option D} {fo : FE} {fr : FA}
/-- the common part: T what is asked of the receiver as soon as it stands -/
theorem meth_of (hg : MethS K r g) {T : V → Hp → Prop} {σ : L2.St} {H : Hp} {Q : VK} {ρ ρ2 : Fm} {F : List Addr} {x : R} {ρ1 : Fm} {rs : List R} {d0 d : D} {ds : List D} {z : D} (E : EnvR K H ρ σ F) (nd : F.Nodup) (e1 : fo ρ = some (x, ρ1)) (e0 : cont ρ1 x = some d0) (e2 : fr ρ1 = some (rs, ρ2))
    (e3 : cont ρ2 x = some d) (e4 : conts ρ2 rs = some ds) (e5 : g d ds = some z) (hT : ∀ v H p, Rep K H d0 v p → T v H)
    (k : ∀ v H' g F', RepR K H' σ (.val z) v g → EnvR K H' ρ2 σ F' → (g ++ F').Nodup → Step H F H' (g ++ F') → Q v H') :
    rdE K fo σ H fun v H1 => T v H1 ∧ rdA K fr σ H1 fun vs H2 => r v vs H2 Q := by
  refine ⟨ρ, F, x, ρ1, E, nd, e1, fun v H1 g1 F1 r1 E1 N1 S1 => ?_⟩
  obtain ⟨p0, q0, _⟩ := r1.cont E1 e0
  obtain ⟨n1, n2, n3⟩ := nodup3 N1
  refine ⟨hT v H1 p0 q0, ρ1, F1, rs, ρ2, E1, n2, e2, fun vs H2 g2 F2 r2 E2 N2 S2 => ?_⟩
  have r1' := r1.keep (S2.keep E1.mut n3)
  obtain ⟨p, q, _⟩ := r1'.cont E2 e3
  obtain ⟨hl, hi⟩ := r2.conts E2 e4
  refine hg H2 d v p ds vs z Q q ⟨hl, fun i d v a b => let ⟨p, q, _⟩ := hi i d v a b; ⟨p, q⟩⟩ e5 fun u H3 h ru nh fr' sm => ?_
  have S3 : Step H F H2 (g1 ++ (g2 ++ F2)) := fun p u e n => by
    obtain ⟨a1, b1⟩ := S1 p u e n
    obtain ⟨a2, b2⟩ := S2 p u a1 fun z => b1 (List.mem_append_right _ z)
    exact ⟨a2, fun z => (List.mem_append.mp z).elim (fun z => b1 (List.mem_append_left _ z)) b2⟩
  exact k u H3 h F2 ru (E2.keep (Same.keep sm)) (nodup_fresh E2 (nodup3 N2).2.1 nh fr') (S3.fresh sm fr' fun a ha => by simp [ha])
end
/-! ### .index -/
def idxD (ds : List PyData) (y : PyData) : Option Nat := ds.findIdx? fun z => PyData.eqv z y
def dIndexL : D → List D → Option D
  | x, [y] => (lstOf x).bind fun ds => if noDicL ds = true ∧ noDic y = true ∧ SeqAt.shaped (.list (toPL ds)) = true ∧ SeqAt.shaped (toP y) = true then (idxD (toPL ds) (toP y)).map fun j => .int (j : Nat) else none
  | _, _ => none
def dIndexT : D → List D → Option D
  | .tup ds, [.int k] => (intsOf ds).bind fun ns => if k ∈ ns then some (.int (ns.idxOf k : Nat)) else none
  | _, _ => none
/-- .index of a tuple, of a list -/
def fIndex (fo : FE) (fr : FA) : FE := fun ρ => match ((fo ρ).bind fun (x, ρ1) => cont ρ1 x) with
  | some (.tup _) => fMethR dIndexT fo fr ρ
  | some (.lst _) => fMethR dIndexL fo fr ρ
  | some (.flst _) => fMethR dIndexL fo fr ρ
  | _ => none
theorem tyV_lst {K : PySem.W.Frag} {d : D} {ds : List D} (e : lstOf d = some ds) : ∀ v H p, Rep K H d v p → tyV K "list" v H := fun v H p r => by
  obtain ⟨a, vs, g, rfl, hs, _⟩ := r.sqL e
  exact .inl ⟨rfl, vs, hs⟩
section
variable {K : PySem.W.Frag} {X : Cx}
theorem ms_indexL : MethS K (rIndexD K) dIndexL := by
  intro H d v p ds vs z Q r a e k
  unfold dIndexL at e
  split at e
  · obtain ⟨w, q, rfl, r2⟩ := a.one
    obtain ⟨ys, e1, e⟩ := Option.bind_eq_some_iff.mp e
    obtain ⟨⟨c1, c2, c3, c4⟩, e⟩ := by_cases_if e
    obtain ⟨j, e2, rfl⟩ := Option.map_eq_some_iff.mp e
    obtain ⟨b, ws, g, rfl, hs, rl, _⟩ := r.sqL e1
    unfold idxD at e2
    rw [List.findIdx?_eq_some_iff_getElem] at e2
    obtain ⟨hj, e3, e4⟩ := e2
    refine ⟨b, w, _, _, j, _, rfl, rfl, .lst hs (RepL.dp _ _ _ rl c1), Rep.dp _ _ _ r2 c2, c3, c4, List.getElem?_eq_getElem hj, e3, fun m z' hm e5 => ?_, k.flat ⟨rfl, rfl⟩⟩
    obtain ⟨hm2, e6⟩ := List.getElem?_eq_some_iff.mp e5
    have := e4 m hm
    rw [e6] at this
    simpa using this
  · cases e
theorem ms_indexT : MethS K (rTIdx K) dIndexT := by
  intro H d v p ds vs z Q r a e k
  unfold dIndexT at e
  split at e
  · obtain ⟨w, q, rfl, r2⟩ := a.one
    obtain ⟨ns, e1, e⟩ := Option.bind_eq_some_iff.mp e
    obtain ⟨c, rfl⟩ := if_some e
    obtain ⟨b, ws, rfl, hs, rl⟩ := r
    obtain ⟨rfl, _⟩ := rl.ints e1
    exact ⟨b, ns, _, rfl, by rw [r2.1], hs.sq, c, k.flat ⟨rfl, rfl⟩⟩
  · cases e
theorem de_index {E : Expr} {fo : FE} {fr : FA} (hl : PE X E (tBM X.K "list" (rIndexD X.K) (rdE X.K fo) (rdA X.K fr))) (ht : PE X E (tTM X.K (rTIdx X.K) (rdE X.K fo) (rdA X.K fr))) : DE X E (fIndex fo fr) :=
  ⟨pe_weak (pe_or' hl ht) fun σ H Q h => by
    obtain ⟨ρ, F, r, ρ2, E, nd, ef, k⟩ := h
    have fL : ∀ d0 ds0, lstOf d0 = some ds0 → ((fo ρ).bind fun (x, ρ1) => cont ρ1 x) = some d0 → fMethR dIndexL fo fr ρ = some (r, ρ2) →
        tBM X.K "list" (rIndexD X.K) (rdE X.K fo) (rdA X.K fr) σ H Q := by
      intro d0 ds0 hl e6 ef
      obtain ⟨x, ρ1, d0', rs, d, ds, z, e1, e0, e2, e3, e4, e5, rfl⟩ := fMethR_some ef
      rw [e1] at e6
      have e6 : cont ρ1 x = some d0 := e6
      exact meth_of (T := fun v H => tyV X.K "list" v H) ms_indexL E nd e1 e6 e2 e3 e4 e5 (tyV_lst hl) k
    unfold fIndex at ef
    split at ef
    · rename_i t0 e6
      obtain ⟨x, ρ1, d0', rs, d, ds, z, e1, e0, e2, e3, e4, e5, rfl⟩ := fMethR_some ef
      rw [e1] at e6
      have e6 : cont ρ1 x = some (.tup t0) := e6
      refine .inr (meth_of (T := fun v H => ∃ a vs, v = .ref a ∧ TupR X.K H a vs) ms_indexT E nd e1 e6 e2 e3 e4 e5 (fun v H p r => ?_) k)
      obtain ⟨a, vs, e, q, _⟩ := r
      exact ⟨a, vs, e, q⟩
    · rename_i t0 e6; exact .inl (fL _ t0 rfl e6 ef)
    · rename_i t0 e6; exact .inl (fL _ t0 rfl e6 ef)
    · cases ef⟩
end
/-! ### such as change what a slot holds -/
inductive Pth where
  | sl (i : Nat) | ix (i j : Nat) | key (i : Nat) (k : Key)
def getP (ρ : Fm) : Pth → Option D
  | .sl i => slot ρ i
  | .ix i j => match slot ρ i with
    | some (.lst ds) => ds[j]?
    | _ => none
  | .key i k => match slot ρ i with
    | some (.dic kvs) => kvGet kvs k
    | _ => none
def kvSet (kvs : List (Key × D)) (k : Key) (d : D) : List (Key × D) := match kvs with
  | [] => []
  | (k0, d0) :: r => if k0 = k then (k0, d) :: r else (k0, d0) :: kvSet r k d
def setP (ρ : Fm) (d : D) : Pth → Fm
  | .sl i => ρ.set i (some d)
  | .ix i j => match slot ρ i with
    | some (.lst ds) => ρ.set i (some (.lst (ds.set j d)))
    | _ => ρ
  | .key i k => match slot ρ i with
    | some (.dic kvs) => ρ.set i (some (.dic (kvSet kvs k d)))
    | _ => ρ
/-- the value that stands there -/
def valP (H : Hp) (σ : L2.St) : Pth → V → Prop
  | .sl i, v => σ[i]? = some (some v)
  | .ix i j, v => ∃ a vs, σ[i]? = some (some (.ref a)) ∧ H a = some (.lst vs) ∧ vs[j]? = some v
  | .key i k, v => ∃ a ws, σ[i]? = some (some (.ref a)) ∧ H a = some (.dK ws) ∧ valV ws k = some v
section
variable {K : PySem.W.Frag} {H H' : Hp} {F : List Addr} {ρ : Fm} {σ : L2.St}
theorem RepL.hole {d : D} : ∀ {ds : List D} {vs : List V} {f : List Addr} {j : Nat}, RepL K H ds vs f → ds[j]? = some d →
    ∃ v f1 f2 f3, vs[j]? = some v ∧ f = f1 ++ (f2 ++ f3) ∧ Rep K H d v f2 ∧ ∀ (H' : Hp) (d' : D) (g : List Addr), Keep H (f1 ++ f3) H' → Rep K H' d' v g → RepL K H' (ds.set j d') vs (f1 ++ (g ++ f3))
  | [], vs, f, j, r, e => by simp at e
  | d0 :: ds, vs, f, j, r, e => by
    obtain ⟨v, vs', f1, f2, rfl, rfl, r1, r2⟩ := r
    cases j with
    | zero =>
      simp at e
      subst e
      exact ⟨v, [], f1, f2, rfl, rfl, r1, fun H' d' g kp r' => ⟨v, vs', g, f2, rfl, rfl, r', RepL.keep _ _ _ r2 kp⟩⟩
    | succ j =>
      obtain ⟨v2, g1, g2, g3, e2, rfl, q1, q2⟩ := RepL.hole r2 (show ds[j]? = some d by simpa using e)
      refine ⟨v2, f1 ++ g1, g2, g3, by simpa using e2, by simp, q1, fun H' d' g kp r' => ?_⟩
      exact ⟨v, vs', f1, g1 ++ (g ++ g3), rfl, by simp, Rep.keep _ _ _ r1 (kp.sub fun a ha => by simp [ha]), q2 H' d' g (kp.sub fun a ha => by simp at ha ⊢; rcases ha with z | z <;> simp [z]) r'⟩
theorem RepK.hole {k : Key} {d : D} : ∀ {kvs : List (Key × D)} {ws : List (Key × V)} {f : List Addr}, RepK K H kvs ws f → kvGet kvs k = some d →
    ∃ v f1 f2 f3, valV ws k = some v ∧ f = f1 ++ (f2 ++ f3) ∧ Rep K H d v f2 ∧ ∀ (H' : Hp) (d' : D) (g : List Addr), Keep H (f1 ++ f3) H' → Rep K H' d' v g → RepK K H' (kvSet kvs k d') ws (f1 ++ (g ++ f3))
  | [], ws, f, r, e => by cases e
  | (k0, d0) :: kvs, ws, f, r, e => by
    obtain ⟨v, ws', f1, f2, rfl, rfl, r1, r2⟩ := r
    by_cases h : k0 = k
    · have e1 : kvGet ((k0, d0) :: kvs) k = some d0 := by simp [kvGet, List.find?_cons, h]
      rw [e1] at e
      cases e
      refine ⟨v, [], f1, f2, valV_pos h, rfl, r1, fun H' d' g kp r' => ?_⟩
      show RepK K H' (if k0 = k then _ else _) _ _
      rw [if_pos h]
      exact ⟨v, ws', g, f2, rfl, rfl, r', RepK.keep _ _ _ r2 kp⟩
    · have e1 : kvGet ((k0, d0) :: kvs) k = kvGet kvs k := by simp [kvGet, List.find?_cons, h]
      rw [e1] at e
      obtain ⟨v2, g1, g2, g3, e2, rfl, q1, q2⟩ := RepK.hole r2 e
      refine ⟨v2, f1 ++ g1, g2, g3, by rw [valV_neg h]; exact e2, by simp, q1, fun H' d' g kp r' => ?_⟩
      show RepK K H' (if k0 = k then _ else _) _ _
      rw [if_neg h]
      exact ⟨v, ws', f1, g1 ++ (g ++ g3), rfl, by simp, Rep.keep _ _ _ r1 (kp.sub fun a ha => by simp [ha]), q2 H' d' g (kp.sub fun a ha => by simp at ha ⊢; rcases ha with z | z <;> simp [z]) r'⟩
theorem getP_ix {i j : Nat} {d : D} (e : getP ρ (.ix i j) = some d) : ∃ ds, slot ρ i = some (.lst ds) ∧ ds[j]? = some d := by
  have e : (match slot ρ i with | some (.lst ds) => ds[j]? | _ => none) = some d := e
  split at e
  · exact ⟨_, by assumption, e⟩
  · cases e
theorem getP_key {i : Nat} {k : Key} {d : D} (e : getP ρ (.key i k) = some d) : ∃ kvs, slot ρ i = some (.dic kvs) ∧ kvGet kvs k = some d := by
  have e : (match slot ρ i with | some (.dic kvs) => kvGet kvs k | _ => none) = some d := e
  split at e
  · exact ⟨_, by assumption, e⟩
  · cases e
theorem setP_ix {i j : Nat} {ds : List D} {d : D} (e : slot ρ i = some (.lst ds)) : setP ρ d (.ix i j) = ρ.set i (some (.lst (ds.set j d))) := by
  show (match slot ρ i with | some (.lst ds) => ρ.set i (some (.lst (ds.set j d))) | _ => ρ) = _
  rw [e]
theorem setP_key {i : Nat} {k : Key} {kvs : List (Key × D)} {d : D} (e : slot ρ i = some (.dic kvs)) : setP ρ d (.key i k) = ρ.set i (some (.dic (kvSet kvs k d))) := by
  show (match slot ρ i with | some (.dic kvs) => ρ.set i (some (.dic (kvSet kvs k d))) | _ => ρ) = _
  rw [e]
theorem ref_inj {a b : Addr} (h : V.ref a = V.ref b) : a = b := by injection h
/-- the lens of a part f2 of what a slot's thing owns, a0 :: (f1 ++ (f2 ++ f3)) -/
theorem lens_part {i : Nat} {d : D} {v w : V} {F1 F3 f1 f2 f3 : List Addr} {a0 : Addr} {up : D → D} (hi : i < ρ.length) (e1 : σ[i]? = some (some w)) (E1 : EnvR K H (ρ.set i none) σ (F1 ++ F3)) (nd : (F1 ++ ((a0 :: (f1 ++ (f2 ++ f3))) ++ F3)).Nodup)
    (r2 : Rep K H d v f2) (upR : ∀ (H' : Hp) (d' : D) (g : List Addr), Keep H (a0 :: (f1 ++ f3)) H' → Rep K H' d' v g → Rep K H' (up d') w (a0 :: (f1 ++ (g ++ f3)))) :
    ∃ (f G : List Addr), Rep K H d v f ∧ f.Nodup ∧ (∀ a ∈ f, a ∉ G) ∧ (∀ a, a ∈ F1 ++ ((a0 :: (f1 ++ (f2 ++ f3))) ++ F3) ↔ a ∈ f ∨ a ∈ G) ∧
      ∀ (H' : Hp) (d' : D) (f' : List Addr), Rep K H' d' v f' → f'.Nodup → (∀ a ∈ f', a ∉ G) → (∀ a o, H a = some o → a ∉ f → H' a = some o) →
        ∃ F', EnvR K H' (ρ.set i (some (up d'))) σ F' ∧ F'.Nodup ∧ ∀ a, a ∈ F' ↔ a ∈ f' ∨ a ∈ G := by
  have nd' := nodup_mid nd
  obtain ⟨n1, n2, n3⟩ := nodup3 nd'
  obtain ⟨m0, m1⟩ := List.nodup_cons.mp n1
  have m1' := nodup_mid m1
  obtain ⟨k1, k2, k3⟩ := nodup3 m1'
  have dis : ∀ a ∈ f2, a ∉ (a0 :: (f1 ++ f3)) ++ (F1 ++ F3) := fun a hz z => by
    simp only [List.mem_append, List.mem_cons] at z
    rcases z with (rfl | z) | z
    · exact m0 (by simp [hz])
    · exact k3 a hz (by simp; exact z)
    · exact n3 a (by simp [hz]) (by simp; exact z)
  have nd1 : (a0 :: (f1 ++ f3)).Nodup := List.nodup_cons.mpr ⟨fun z => m0 (by simp only [List.mem_append] at z ⊢; rcases z with z | z <;> simp [z]), k2⟩
  have dis1 : ∀ a ∈ a0 :: (f1 ++ f3), a ∉ F1 ++ F3 := fun a ha => n3 a (by simp only [List.mem_append, List.mem_cons] at ha ⊢; rcases ha with z | z | z <;> simp [z])
  refine ⟨f2, (a0 :: (f1 ++ f3)) ++ (F1 ++ F3), r2, k1, dis, fun a => ?_, fun H' d' f' r' x1 x2 kp => ?_⟩
  · simp only [List.mem_append, List.mem_cons]
    constructor
    · rintro (h | (rfl | h | h | h) | h) <;> simp [*]
    · rintro (h | (rfl | h | h) | h | h) <;> simp [*]
  · have kk : ∀ {l : List Addr}, (∀ a ∈ l, a ∈ (a0 :: (f1 ++ f3)) ++ (F1 ++ F3)) → Keep H l H' := fun hl a u ea q => kp a u ea fun z => by
      rcases q with q | q
      · exact q (Rep.mut _ _ _ r2 a z)
      · exact dis a z (hl a q)
    have E2 : EnvR K H' (ρ.set i none) σ (F1 ++ F3) := E1.keep (kk fun a ha => List.mem_append_right _ ha)
    have rw' := upR H' d' f' (kk fun a ha => List.mem_append_left _ ha) r'
    obtain ⟨G1, G3, eg, E3⟩ := E2.put hi e1 rw'
    have s1 : ∀ a ∈ f', a ∉ a0 :: (f1 ++ f3) := fun a ha z => x2 a ha (List.mem_append_left _ z)
    have s2 : ∀ a ∈ f', a ∉ F1 ++ F3 := fun a ha z => x2 a ha (List.mem_append_right _ z)
    have nw : (a0 :: (f1 ++ (f' ++ f3))).Nodup := by
      obtain ⟨q0, q1⟩ := List.nodup_cons.mp nd1
      refine List.nodup_cons.mpr ⟨fun z => ?_, nodup_mid (nodup_of x1 q1 fun a ha z => s1 a ha (List.mem_cons_of_mem _ z))⟩
      simp only [List.mem_append] at z q0
      rcases z with z | z | z
      · exact q0 (.inl z)
      · exact s1 _ z List.mem_cons_self
      · exact q0 (.inr z)
    have nd3 : ((a0 :: (f1 ++ (f' ++ f3))) ++ (G1 ++ G3)).Nodup := by
      rw [← eg]
      refine nodup_of nw n2 fun x hx hy => ?_
      simp only [List.mem_cons, List.mem_append] at hx
      rcases hx with rfl | hx | hx | hx
      · exact dis1 _ List.mem_cons_self hy
      · exact dis1 x (by simp [hx]) hy
      · exact s2 x hx hy
      · exact dis1 x (by simp [hx]) hy
    refine ⟨_, E3, nodup_mid nd3, fun a => ?_⟩
    rw [eg]
    simp only [List.mem_append, List.mem_cons]
    constructor
    · rintro (h | (rfl | h | h | h) | h) <;> simp [*]
    · rintro (h | (rfl | h | h) | h | h) <;> simp [*]
/-- what stands at a path, and the rest of the frame -/
theorem EnvR.lens {p : Pth} {d : D} {v : V} (E : EnvR K H ρ σ F) (nd : F.Nodup) (e : getP ρ p = some d) (hv : valP H σ p v) :
    ∃ (f G : List Addr), Rep K H d v f ∧ f.Nodup ∧ (∀ a ∈ f, a ∉ G) ∧ (∀ a, a ∈ F ↔ a ∈ f ∨ a ∈ G) ∧
      ∀ (H' : Hp) (d' : D) (f' : List Addr), Rep K H' d' v f' → f'.Nodup → (∀ a ∈ f', a ∉ G) → (∀ a o, H a = some o → a ∉ f → H' a = some o) →
        ∃ F', EnvR K H' (setP ρ d' p) σ F' ∧ F'.Nodup ∧ ∀ a, a ∈ F' ↔ a ∈ f' ∨ a ∈ G := by
  cases p with
  | sl i =>
    obtain ⟨w, F1, f, F3, e1, rfl, r1, E1⟩ := E.at (slot_some e)
    have hv : σ[i]? = some (some v) := hv
    rw [e1] at hv
    cases hv
    have nd' := nodup_mid nd
    obtain ⟨n1, n2, n3⟩ := nodup3 nd'
    refine ⟨f, F1 ++ F3, r1, n1, n3, fun a => by simp only [List.mem_append]; constructor <;> (intro h; rcases h with h | h | h <;> simp [h]), fun H' d' f' r' m1 m2 kp => ?_⟩
    have E2 : EnvR K H' (ρ.set i none) σ (F1 ++ F3) := E1.keep fun a u ea q => kp a u ea fun z => by
      rcases q with q | q
      · exact q (Rep.mut _ _ _ r1 a z)
      · exact n3 a z q
    obtain ⟨G1, G3, eg, E3⟩ := E2.put (slot_lt e) e1 r'
    have nd3 : (f' ++ (G1 ++ G3)).Nodup := nodup_of m1 (by rw [← eg]; exact n2) (by rw [← eg]; exact m2)
    exact ⟨_, E3, nodup_mid nd3, fun a => by rw [eg]; simp only [List.mem_append]; constructor <;> (intro h; rcases h with h | h | h <;> simp [h])⟩
  | ix i j =>
    obtain ⟨ds, es, e⟩ := getP_ix e
    obtain ⟨w, F1, f, F3, e1, rfl, r1, E1⟩ := E.at (slot_some es)
    obtain ⟨a0, vs, g, rfl, ha, rfl, rl⟩ := r1
    obtain ⟨b0, ws, q1, q2, q3⟩ := hv
    rw [e1] at q1
    obtain rfl := ref_inj (Option.some.inj (Option.some.inj q1))
    rw [ha] at q2
    cases q2
    obtain ⟨w, f1, f2, f3, e2, rfl, r2, up⟩ := rl.hole e
    rw [e2] at q3
    cases q3
    have key := lens_part (up := fun d' => .lst (ds.set j d')) (slot_lt es) e1 E1 nd r2 fun H' d' g kp r' => ⟨_, _, _, rfl, kp _ _ ha (.inr List.mem_cons_self), rfl, up H' d' g (kp.sub fun a ha => List.mem_cons_of_mem _ ha) r'⟩
    simp only [setP_ix es]
    exact key
  | key i k =>
    obtain ⟨kvs, es, e⟩ := getP_key e
    obtain ⟨w, F1, f, F3, e1, rfl, r1, E1⟩ := E.at (slot_some es)
    obtain ⟨a0, vs, g, rfl, ha, rfl, rl⟩ := r1
    obtain ⟨b0, ws, q1, q2, q3⟩ := hv
    rw [e1] at q1
    obtain rfl := ref_inj (Option.some.inj (Option.some.inj q1))
    rw [ha] at q2
    cases q2
    obtain ⟨w, f1, f2, f3, e2, rfl, r2, up⟩ := rl.hole e
    rw [e2] at q3
    cases q3
    have key := lens_part (up := fun d' => .dic (kvSet kvs k d')) (slot_lt es) e1 E1 nd r2 fun H' d' g kp r' => ⟨_, _, _, rfl, kp _ _ ha (.inr List.mem_cons_self), rfl, up H' d' g (kp.sub fun a ha => List.mem_cons_of_mem _ ha) r'⟩
    simp only [setP_key es]
    exact key
end
end DL
/-! Methods that change what a slot holds; statements. -/
namespace DL
open PySem PySem.Spec L2
abbrev FP := Fm → Option (Pth × Fm)
def rdP (K : PySem.W.Frag) (f : FP) : TE := fun σ H Q => ∃ ρ F p ρ', EnvR K H ρ σ F ∧ F.Nodup ∧ f ρ = some (p, ρ') ∧
  ∀ v H' F', valP H' σ p v → EnvR K H' ρ' σ F' → F'.Nodup → Step H F H' F' → Q v H'
structure DP (X : Cx) (e : Expr) (f : FP) : Prop where
  pe : PE X e (rdP X.K f)
def fpVar (i : Nat) : FP := fun ρ => (slot ρ i).map fun _ => (.sl i, ρ)
section
variable {X : Cx} {e o b : Expr} {es : List Expr} {pos : Pos} {fb : FE} {fr : FA} {fp : FP}
theorem dp_var {i : Nat} (h : PE X e (tVar i)) : DP X e (fpVar i) := ⟨pe_weak h fun σ H Q ⟨ρ, F, p, ρ', E, nd, ef, k⟩ => by
  obtain ⟨d, es, e⟩ := Option.map_eq_some_iff.mp ef
  cases e
  obtain ⟨v, F1, f, F3, e1, _⟩ := E.at (slot_some es)
  exact ⟨v, e1, k v H F e1 E nd Step.refl⟩⟩
end
/-- while what is below a slot's thing is held on to, the slot can't be asked -/
def hide (ρ : Fm) : Pth → Fm
  | .sl _ => ρ
  | .ix i _ => ρ.set i none
  | .key i _ => ρ.set i none
def unhide (ρ1 ρ3 : Fm) : Pth → Fm
  | .sl _ => ρ3
  | .ix i _ => (ρ3.set i none).set i (slot ρ1 i)
  | .key i _ => (ρ3.set i none).set i (slot ρ1 i)
section
variable {K : PySem.W.Frag} {H H2 : Hp} {F F2 G : List Addr} {ρ1 ρ2 ρ3 : Fm} {σ : L2.St}
/-- what is asked meanwhile is asked of the other slots -/
theorem hidden {p : Pth} {d0 : D} {v : V} (E : EnvR K H ρ1 σ F) (nd : F.Nodup) (e : getP ρ1 p = some d0) (hv : valP H σ p v) :
    ∃ Fh, EnvR K H (hide ρ1 p) σ Fh ∧ Fh.Nodup ∧ (∀ a ∈ Fh, a ∈ F) ∧ ∀ (E0 : List Addr), (∀ a ∈ E0, MutO (H a)) → (∀ a ∈ E0, a ∉ F) → ∀ (H2 : Hp) (ρ3 : Fm) (F3 G : List Addr), EnvR K H2 ρ3 σ F3 → (G ++ F3).Nodup → Step H (E0 ++ Fh) H2 (G ++ F3) →
      valP H2 σ p v ∧ ∃ F4, EnvR K H2 (unhide ρ1 ρ3 p) σ F4 ∧ (G ++ F4).Nodup ∧ Step H (E0 ++ F) H2 (G ++ F4) := by
  have gen : ∀ i d, slot ρ1 i = some d → (∀ w f, Rep K H d w f → ∃ a, w = .ref a ∧ a ∈ f) → ∃ Fh, EnvR K H (ρ1.set i none) σ Fh ∧ Fh.Nodup ∧ (∀ a ∈ Fh, a ∈ F) ∧ ∀ (E0 : List Addr), (∀ a ∈ E0, MutO (H a)) → (∀ a ∈ E0, a ∉ F) → ∀ (H2 : Hp) (ρ3 : Fm) (F3 G : List Addr), EnvR K H2 ρ3 σ F3 → (G ++ F3).Nodup → Step H (E0 ++ Fh) H2 (G ++ F3) →
      (∀ a, σ[i]? = some (some (.ref a)) → ∀ u, H a = some u → H2 a = some u) ∧ ∃ F4, EnvR K H2 ((ρ3.set i none).set i (slot ρ1 i)) σ F4 ∧ (G ++ F4).Nodup ∧ Step H (E0 ++ F) H2 (G ++ F4) := by
    intro i d es top
    obtain ⟨w, F1, f, F3', e1, rfl, r1, E1⟩ := E.at (slot_some es)
    have nd' := nodup_mid nd
    obtain ⟨n1, n2, n3⟩ := nodup3 nd'
    refine ⟨F1 ++ F3', E1, n2, fun a ha => by simp at ha ⊢; rcases ha with z | z <;> simp [z], fun E0 hE dE H2 ρ3 F3 G E3 nd3 S => ?_⟩
    have n3' : ∀ a ∈ f, a ∉ E0 ++ (F1 ++ F3') := fun a ha hb => by
      rcases List.mem_append.mp hb with z | z
      · exact dE a z (by simp [ha])
      · exact n3 a ha z
    have mu' : ∀ a ∈ E0 ++ (F1 ++ F3'), MutO (H a) := fun a ha => (List.mem_append.mp ha).elim (hE a) (E1.mut a)
    have kp : Keep H f H2 := S.keep mu' n3'
    have hl : ρ3.length = ρ1.length := E3.length.symm.trans E.length
    have ap : ∀ a ∈ f, a ∉ G ++ F3 := S.apart (Rep.mut _ _ _ r1) n3'
    obtain ⟨A1, a2, A3, rfl, E4⟩ := E3.drop (i := i)
    obtain ⟨B1, B3, eb, E5⟩ := E4.put (by rw [hl]; exact slot_lt es) e1 (Rep.keep _ _ _ r1 kp)
    refine ⟨fun a x1 u eu => ?_, B1 ++ (f ++ B3), by rw [es, List.set_set]; exact E5, ?_, fun a u ea na => ?_⟩
    · rw [e1] at x1
      obtain ⟨a', rfl, ha'⟩ := top _ _ r1
      cases x1
      exact kp a u eu (.inr ha')
    · obtain ⟨m1, m2, m3⟩ := nodup3 nd3
      have q2 : (f ++ (B1 ++ B3)).Nodup := nodup_of n1 (by
        rw [← eb]
        exact (nodup3 (nodup_mid m2)).2.1) fun a ha hb => ap a ha (by rw [← eb] at hb; simp at hb ⊢; rcases hb with z | z <;> simp [z])
      refine nodup_of m1 (nodup_mid q2) fun a ha hb => ?_
      simp only [List.mem_append] at hb
      rcases hb with z | z | z
      · exact m3 a ha (by have : a ∈ A1 ++ A3 := by rw [eb]; simp [z]
                          simp at this ⊢; rcases this with y | y <;> simp [y])
      · exact ap a z (by simp [ha])
      · exact m3 a ha (by have : a ∈ A1 ++ A3 := by rw [eb]; simp [z]
                          simp at this ⊢; rcases this with y | y <;> simp [y])
    · obtain ⟨x1, x2⟩ := S a u ea fun z => na (by simp at z ⊢; rcases z with z | z | z <;> simp [z])
      refine ⟨x1, fun z => ?_⟩
      simp only [List.mem_append] at z x2 na
      rcases z with z | z | z | z
      · exact x2 (.inl z)
      · have : a ∈ A1 ++ A3 := by rw [eb]; simp [z]
        simp at this
        rcases this with y | y <;> exact x2 (by simp [y])
      · exact na (.inr (.inr (.inl z)))
      · have : a ∈ A1 ++ A3 := by rw [eb]; simp [z]
        simp at this
        rcases this with y | y <;> exact x2 (by simp [y])
  cases p with
  | sl i => exact ⟨F, E, nd, fun a ha => ha, fun E0 _ _ H2 ρ3 F3 G E3 nd3 S => ⟨hv, F3, E3, nd3, S⟩⟩
  | ix i j =>
    obtain ⟨ds, es, e⟩ := getP_ix e
    obtain ⟨Fh, h1, h2, h3, h4⟩ := gen i _ es fun w f r => by obtain ⟨a, _, _, q1, _, q2, _⟩ := r; exact ⟨a, q1, by rw [q2]; exact List.mem_cons_self⟩
    refine ⟨Fh, h1, h2, h3, fun E0 hE dE H2 ρ3 F3 G E3 nd3 S => ?_⟩
    obtain ⟨k1, k2⟩ := h4 E0 hE dE H2 ρ3 F3 G E3 nd3 S
    refine ⟨?_, k2⟩
    obtain ⟨a, vs, q1, q2, q3⟩ := hv
    exact ⟨a, vs, q1, k1 a q1 _ q2, q3⟩
  | key i k =>
    obtain ⟨kvs, es, e⟩ := getP_key e
    obtain ⟨Fh, h1, h2, h3, h4⟩ := gen i _ es fun w f r => by obtain ⟨a, _, _, q1, _, q2, _⟩ := r; exact ⟨a, q1, by rw [q2]; exact List.mem_cons_self⟩
    refine ⟨Fh, h1, h2, h3, fun E0 hE dE H2 ρ3 F3 G E3 nd3 S => ?_⟩
    obtain ⟨k1, k2⟩ := h4 E0 hE dE H2 ρ3 F3 G E3 nd3 S
    refine ⟨?_, k2⟩
    obtain ⟨a, vs, q1, q2, q3⟩ := hv
    exact ⟨a, vs, q1, k1 a q1 _ q2, q3⟩
end
end DL
/-! Methods that change a thing, stores. -/
namespace DL
open PySem PySem.Spec L2
def MutS (K : PySem.W.Frag) (r : V → List V → Hp → VK → Prop) (g : D → List D → Option (D × D)) : Prop :=
  ∀ (H : Hp) (d : D) (v : V) (f : List Addr) (ds : List D) (vs : List V) (p : List Addr) (d' z : D) (Q : VK), Rep K H d v f → RepL K H ds vs p → (f ++ p).Nodup → g d ds = some (d', z) →
    (∀ u H' f' h, Rep K H' d' v f' → Rep K H' z u h → (h ++ f').Nodup → (∀ a, a ∈ h ++ f' → a ∈ f ++ p ∨ H a = none) → (∀ a o, H a = some o → a ∉ f → H' a = some o) → Q u H') → r v vs H Q
def fMut (ok : D → Bool) (g : D → List D → Option (D × D)) (fp : FP) (fr : FA) : FE := fun ρ =>
  (fp ρ).bind fun (p, ρ1) => (getP ρ1 p).bind fun d0 => if ok d0 then (fr (hide ρ1 p)).bind fun (rs, ρ2) => (takes ρ2 rs).bind fun (ds, ρ3) =>
    (getP (unhide ρ1 ρ3 p) p).bind fun d => (g d ds).map fun (d', z) => (.val z, setP (unhide ρ1 ρ3 p) d' p) else none
def isLst : D → Bool
  | .lst _ => true
  | _ => false
section
variable {K : PySem.W.Frag} {X : Cx} {r : V → List V → Hp → VK → Prop} {g : D → List D → Option (D × D)} {fp : FP} {fr : FA}
/-- a thing is changed where it stands -/
theorem change {H H2 : Hp} {F F4 p2 : List Addr} {ρ4 : Fm} {σ : L2.St} {p : Pth} {d d' z : D} {ds : List D} {v : V} {vs : List V} {Q : VK} (hg : MutS K r g) (S : Step H F H2 (p2 ++ F4)) (E4 : EnvR K H2 ρ4 σ F4) (N4 : (p2 ++ F4).Nodup) (rd : RepL K H2 ds vs p2)
    (hv : valP H2 σ p v) (e3 : getP ρ4 p = some d) (e4 : g d ds = some (d', z)) (k : ∀ u H' h F', Rep K H' z u h → EnvR K H' (setP ρ4 d' p) σ F' → (h ++ F').Nodup → Step H F H' (h ++ F') → Q u H') : r v vs H2 Q := by
  obtain ⟨n1, n2, n3⟩ := nodup3 N4
  obtain ⟨f, G', rf, nf, dis, mem, up⟩ := E4.lens n2 e3 hv
  have inF : ∀ a, a ∈ f → a ∈ F4 := fun a ha => (mem a).mpr (.inl ha)
  have inG : ∀ a, a ∈ G' → a ∈ F4 := fun a ha => (mem a).mpr (.inr ha)
  refine hg H2 d v f ds vs p2 d' z Q rf rd (nodup_of nf n1 fun a ha hb => n3 a hb (inF a ha)) e4 fun u H3 f' h r1 r2 nd mm kp => ?_
  obtain ⟨m1, m2, m3⟩ := nodup3 nd
  have notG : ∀ a, a ∈ h ++ f' → a ∉ G' := fun a ha hb => by
    rcases mm a ha with q | q
    · rcases List.mem_append.mp q with q | q
      · exact dis a q hb
      · exact n3 a q (inG a hb)
    · obtain ⟨u, eu⟩ := (E4.mut a (inG a hb)).some_
      rw [q] at eu
      cases eu
  obtain ⟨F', E', nd', mem'⟩ := up H3 d' f' r1 m2 (fun a ha => notG a (List.mem_append_right _ ha)) kp
  refine k u H3 h F' r2 E' (nodup_of m1 nd' fun a ha hb => ?_) fun a w ea na => ?_
  · rcases (mem' a).mp hb with q | q
    · exact m3 a ha q
    · exact notG a (List.mem_append_left _ ha) q
  · obtain ⟨x1, x2⟩ := S a w ea na
    have x3 : a ∉ F4 := fun q => x2 (List.mem_append_right _ q)
    refine ⟨kp a w x1 fun q => x3 (inF a q), fun q => ?_⟩
    have : a ∈ h ++ f' ∨ a ∈ G' := by
      rcases List.mem_append.mp q with q | q
      · exact .inl (List.mem_append_left _ q)
      · rcases (mem' a).mp q with q | q
        · exact .inl (List.mem_append_right _ q)
        · exact .inr q
    rcases this with q | q
    · rcases mm a q with y | y
      · rcases List.mem_append.mp y with y | y
        · exact x3 (inF a y)
        · exact x2 (List.mem_append_left _ y)
      · rw [y] at x1; cases x1
    · exact x3 (inG a q)
theorem mut_of {ok : D → Bool} {T : V → Hp → Prop} (hg : MutS K r g) (hT : ∀ d v H f, ok d = true → Rep K H d v f → T v H) {σ : L2.St} {H : Hp} {Q : VK} (h : rdE K (fMut ok g fp fr) σ H Q) :
    rdP K fp σ H fun v H1 => T v H1 ∧ rdA K fr σ H1 fun vs H2 => r v vs H2 Q := by
  obtain ⟨ρ, F, r0, ρ', E, nd, ef, k⟩ := h
  obtain ⟨⟨p, ρ1⟩, e1, ef⟩ := Option.bind_eq_some_iff.mp ef
  obtain ⟨d0, e0, ef⟩ := Option.bind_eq_some_iff.mp ef
  obtain ⟨c, ef⟩ := by_cases_if ef
  obtain ⟨⟨rs, ρ2⟩, e2, ef⟩ := Option.bind_eq_some_iff.mp ef
  obtain ⟨⟨ds, ρ3⟩, e5, ef⟩ := Option.bind_eq_some_iff.mp ef
  obtain ⟨d, e3, ef⟩ := Option.bind_eq_some_iff.mp ef
  obtain ⟨⟨d', z⟩, e4, ef⟩ := Option.map_eq_some_iff.mp ef
  cases ef
  refine ⟨ρ, F, p, ρ1, E, nd, e1, fun v H1 F1 hv E1 N1 S1 => ?_⟩
  obtain ⟨f0, _, r00, _⟩ := E1.lens N1 e0 hv
  refine ⟨hT d0 v H1 f0 c r00, ?_⟩
  obtain ⟨Fh, Eh, nh, sub, cont⟩ := hidden E1 N1 e0 hv
  refine ⟨hide ρ1 p, Fh, rs, ρ2, Eh, nh, e2, fun vs H2 g2 F2 r2 E2 N2 S2 => ?_⟩
  obtain ⟨p2, F3, rd, E3, N3, s3⟩ := r2.takes E2 N2 e5
  obtain ⟨hv2, F4, E4, N4, S4⟩ := cont [] (by simp) (by simp) H2 ρ3 F3 p2 E3 N3 (S2.to fun a ha => .inl (s3 a ha))
  exact change hg (S1.trans S4) E4 N4 rd hv2 e3 e4 fun u H' h F' r1 E' n' S' => k u H' h F' r1 E' n' S'
theorem ok_lst {d : D} {v : V} {H : Hp} {f : List Addr} (h : isLst d = true) (r : Rep K H d v f) : tyV K "list" v H := by
  cases d <;> try cases h
  obtain ⟨a, vs, g, rfl, ha, _⟩ := r
  exact .inl ⟨rfl, vs, SqL.of ha⟩
theorem de_mut {E : Expr} (h : PE X E (tBM X.K "list" r (rdP X.K fp) (rdA X.K fr))) (hg : MutS X.K r g) : DE X E (fMut isLst g fp fr) :=
  ⟨pe_weak h fun σ H Q q => mut_of hg (fun d v H f c r => ok_lst c r) q⟩
end
/-! ### append, pop, insert, extend -/
section
variable {K : PySem.W.Frag} {H : Hp}
theorem keep_upd {a : Addr} {o : HO} {l : List Addr} (mu : MutO (H a)) (hl : a ∉ l) : Keep H l (upd H a o) := fun b u e q => by
  rw [upd_ne (a := a) (b := b) ?_]
  · exact e
  · rintro rfl
    rcases q with q | q
    · exact q mu
    · exact hl q
theorem upd_other {a : Addr} {o : HO} {g : List Addr} : ∀ b u, H b = some u → b ∉ a :: g → upd H a o b = some u := fun b u e n => by
  rw [upd_ne fun z => n (by rw [z]; exact List.mem_cons_self)]; exact e
def mAppend : D → List D → Option (D × D)
  | .lst ds, [y] => if ds.length < sizeLine then some (.lst (ds ++ [y]), .non) else none
  | _, _ => none
theorem RepL.one {d : D} {vs : List V} {p : List Addr} (h : RepL K H [d] vs p) : ∃ v, vs = [v] ∧ Rep K H d v p := by
  obtain ⟨v, vs', f1, f2, rfl, rfl, r1, r2⟩ := h
  obtain ⟨rfl, rfl⟩ := r2
  exact ⟨v, rfl, by rw [List.append_nil]; exact r1⟩
theorem RepL.of_one {d : D} {v : V} {p : List Addr} (h : Rep K H d v p) : RepL K H [d] [v] p := ⟨v, [], p, [], rfl, by simp, h, rfl, rfl⟩
theorem mu_append : MutS K rAppend mAppend := by
  intro H d v f ds vs p d' z Q r ra nd e k
  unfold mAppend at e
  split at e
  · obtain ⟨c, e⟩ := if_some e
    cases e
    obtain ⟨w, rfl, rw'⟩ := ra.one
    obtain ⟨a, ws, g, rfl, ha, rfl, rl⟩ := r
    obtain ⟨n0, n1⟩ := List.nodup_cons.mp nd
    have mu : MutO (H a) := by rw [ha]; trivial
    refine ⟨a, ws, w, rfl, rfl, ha, by rw [rl.length]; exact c, k .non _ (a :: (g ++ p)) [] ⟨a, _, _, rfl, upd_same, rfl, ?_⟩ ⟨rfl, rfl⟩ nd (fun b hb => .inl hb) upd_other⟩
    exact RepL.keep _ _ _ (rl.append (RepL.of_one rw')) (keep_upd mu n0)
  · cases e
def mPopAt : D → List D → Option (D × D)
  | .lst ds, [.int i] => if i.natAbs < 2 ^ 63 then (ixN ds.length i).bind fun j => (ds[j]?).map fun y => (.lst (ds.eraseIdx j), y) else none
  | _, _ => none
def mExtend : D → List D → Option (D × D)
  | .lst ds, [.lst es] => if ds.length + es.length ≤ sizeLine then some (.lst (ds ++ es), .non) else none
  | _, _ => none
theorem mu_extend : MutS K rExtend mExtend := by
  intro H d v f ds vs p d' z Q r ra nd e k
  unfold mExtend at e
  split at e
  · obtain ⟨c, e⟩ := if_some e
    cases e
    obtain ⟨w, rfl, rw'⟩ := ra.one
    obtain ⟨b, us, gb, rfl, hb, rfl, rb⟩ := rw'
    obtain ⟨a, ws, g, rfl, ha, rfl, rl⟩ := r
    obtain ⟨n0, n1⟩ := List.nodup_cons.mp nd
    have mu : MutO (H a) := by rw [ha]; trivial
    obtain ⟨y1, y2, y3⟩ := nodup3 n1
    obtain ⟨y4, y5⟩ := List.nodup_cons.mp y2
    have na : a ∉ g ++ gb := fun z => n0 (by simp at z ⊢; rcases z with z | z <;> simp [z])
    refine ⟨a, b, ws, us, rfl, rfl, ha, hb, by rw [rl.length, rb.length]; exact c, k .non _ (a :: (g ++ gb)) [] ⟨a, _, _, rfl, upd_same, rfl, ?_⟩ ⟨rfl, rfl⟩ (List.nodup_cons.mpr ⟨na, nodup_of y1 y5 fun x hx hy => y3 x hx (List.mem_cons_of_mem _ hy)⟩) (fun x hx => .inl ?_) upd_other⟩
    · exact RepL.keep _ _ _ (rl.append rb) (keep_upd mu na)
    · simp only [List.mem_append, List.mem_cons, List.nil_append] at hx ⊢
      rcases hx with rfl | h | h <;> simp [*]
  · cases e
/-! ### stores -/
def dStore (c key dv : D) : Option D := match c, key with
  | .lst ds, .int k => (ixN ds.length k).bind fun j => if j < ds.length then some (.lst (ds.set j dv)) else none
  | .dic kvs, key => (keyOf key).bind fun k => if imm dv = true ∧ kvs.length < sizeLine then some (.dic (kvPut kvs k dv)) else none
  | _, _ => none
theorem RepK.put {k : Key} {d : D} {v : V} (r : Rep K H d v []) : ∀ {kvs : List (Key × D)} {ws : List (Key × V)} {f : List Addr}, RepK K H kvs ws f → f.Nodup → ∃ g, RepK K H (kvPut kvs k d) (putK ws k v) g ∧ g.Nodup ∧ ∀ a ∈ g, a ∈ f := by
  intro kvs ws f h nd
  have hm : ∀ {kvs : List (Key × D)} {ws : List (Key × V)} {f : List Addr}, RepK K H kvs ws f → f.Nodup →
      ∃ g, RepK K H (kvs.map fun kv => if kv.1 = k then (kv.1, d) else kv) (ws.map fun kv => if kv.1 = k then (kv.1, v) else kv) g ∧ g.Nodup ∧ ∀ a ∈ g, a ∈ f := by
    intro kvs
    induction kvs with
    | nil => intro ws f h nd; obtain ⟨rfl, rfl⟩ := h; exact ⟨[], ⟨rfl, rfl⟩, nd, fun a ha => ha⟩
    | cons x kvs ih =>
      intro ws f h nd
      obtain ⟨k0, d0⟩ := x
      obtain ⟨v0, ws', f1, f2, rfl, rfl, r1, r2⟩ := h
      obtain ⟨n1, n2, n3⟩ := nodup3 nd
      obtain ⟨g, q1, q2, q3⟩ := ih r2 n2
      by_cases e : k0 = k
      · refine ⟨g, ?_, q2, fun a ha => List.mem_append_right _ (q3 a ha)⟩
        simp only [List.map_cons, e, if_true]
        exact ⟨v, _, [], g, rfl, rfl, r, q1⟩
      · refine ⟨f1 ++ g, ?_, nodup_of n1 q2 fun a ha hb => n3 a ha (q3 a hb), fun a ha => ?_⟩
        · simp only [List.map_cons, e, if_false]
          exact ⟨v0, _, f1, g, rfl, rfl, r1, q1⟩
        · rcases List.mem_append.mp ha with ha | ha
          · exact List.mem_append_left _ ha
          · exact List.mem_append_right _ (q3 a ha)
  have ha : ∀ {kvs : List (Key × D)} {ws : List (Key × V)} {f : List Addr}, RepK K H kvs ws f → RepK K H (kvs ++ [(k, d)]) (ws ++ [(k, v)]) f ∧ (kvs.any fun kv => decide (kv.1 = k)) = ws.any fun kv => decide (kv.1 = k) := by
    intro kvs
    induction kvs with
    | nil => intro ws f h; obtain ⟨rfl, rfl⟩ := h; exact ⟨⟨v, [], [], [], rfl, rfl, r, rfl, rfl⟩, rfl⟩
    | cons x kvs ih =>
      intro ws f h
      obtain ⟨k0, d0⟩ := x
      obtain ⟨v0, ws', f1, f2, rfl, rfl, r1, r2⟩ := h
      obtain ⟨q1, q2⟩ := ih r2
      exact ⟨⟨v0, _, f1, f2, rfl, rfl, r1, q1⟩, by rw [List.any_cons, List.any_cons, q2]⟩
  obtain ⟨q1, q2⟩ := ha h
  unfold kvPut putK
  rw [q2]
  split
  · exact hm h nd
  · exact ⟨f, q1, nd, fun a ha => ha⟩
end
end DL
/-! Statements, loops. -/
namespace DL
open PySem PySem.Spec L2
inductive Fl where
  | nx | bk | ct | ret (d : D)
abbrev FS := Fm → Option (Fl × Fm)
/-- what is to be shown at a statement's end: W the slots that it may store -/
def Post (K : PySem.W.Frag) (W : List Nat) (Dn : Ends) (σ : L2.St) (H : Hp) (F : List Addr) (o : Fl) (ρ' : Fm) : Prop := match o with
  | .nx => ∀ σ' H' F', EnvR K H' ρ' σ' F' → F'.Nodup → Step H F H' F' → (∀ j, j ∉ W → σ'[j]? = σ[j]?) → Dn.nx σ' H'
  | .bk => ∀ σ' H' F', EnvR K H' ρ' σ' F' → F'.Nodup → Step H F H' F' → (∀ j, j ∉ W → σ'[j]? = σ[j]?) → Dn.bk σ' H'
  | .ct => ∀ σ' H' F', EnvR K H' ρ' σ' F' → F'.Nodup → Step H F H' F' → (∀ j, j ∉ W → σ'[j]? = σ[j]?) → Dn.ct σ' H'
  | .ret d => ∀ v σ' H' g F', Rep K H' d v g → EnvR K H' ρ' σ' F' → (g ++ F').Nodup → Step H F H' (g ++ F') → (∀ j, j ∉ W → σ'[j]? = σ[j]?) → Dn.rt v H'
def rdS (K : PySem.W.Frag) (W : List Nat) (f : FS) : TS := fun Dn σ H => ∃ ρ F o ρ', EnvR K H ρ σ F ∧ F.Nodup ∧ f ρ = some (o, ρ') ∧ Post K W Dn σ H F o ρ'
structure DS (X : Cx) (W : List Nat) (st : Stmt) (f : FS) : Prop where
  ps : PS X st (rdS X.K W f)
structure DSs (X : Cx) (W : List Nat) (st : List Stmt) (f : FS) : Prop where
  pss : PSs X st (rdS X.K W f)
theorem Post.mono {K : PySem.W.Frag} {W W' : List Nat} {Dn : Ends} {σ : L2.St} {H : Hp} {F : List Addr} {o : Fl} {ρ' : Fm} (h : Post K W' Dn σ H F o ρ') (hs : ∀ j, j ∈ W → j ∈ W') : Post K W Dn σ H F o ρ' := by
  cases o with
  | nx => exact fun σ' H' F' a b c d => h σ' H' F' a b c fun j hj => d j fun z => hj (hs j z)
  | bk => exact fun σ' H' F' a b c d => h σ' H' F' a b c fun j hj => d j fun z => hj (hs j z)
  | ct => exact fun σ' H' F' a b c d => h σ' H' F' a b c fun j hj => d j fun z => hj (hs j z)
  | ret x => exact fun v σ' H' g F' a b c d e => h v σ' H' g F' a b c d fun j hj => e j fun z => hj (hs j z)
/-- behind a first part that ended plainly -/
theorem Post.after {K : PySem.W.Frag} {W1 W2 : List Nat} {Dn : Ends} {σ σ1 : L2.St} {H H1 : Hp} {F F1 : List Addr} {o : Fl} {ρ' : Fm} (h : Post K (W1 ++ W2) Dn σ H F o ρ') (S : Step H F H1 F1) (hw : ∀ j, j ∉ W1 → σ1[j]? = σ[j]?) : Post K W2 Dn σ1 H1 F1 o ρ' := by
  have key : ∀ {σ' : L2.St}, (∀ j, j ∉ W2 → σ'[j]? = σ1[j]?) → ∀ j, j ∉ W1 ++ W2 → σ'[j]? = σ[j]? := fun h2 j hj => by
    rw [List.mem_append, not_or] at hj
    rw [h2 j hj.2, hw j hj.1]
  cases o with
  | nx => exact fun σ' H' F' a b c d => h σ' H' F' a b (S.trans c) (key d)
  | bk => exact fun σ' H' F' a b c d => h σ' H' F' a b (S.trans c) (key d)
  | ct => exact fun σ' H' F' a b c d => h σ' H' F' a b (S.trans c) (key d)
  | ret x => exact fun v σ' H' g F' a b c d e => h v σ' H' g F' a b c (S.trans d) (key e)
theorem Post.step {K : PySem.W.Frag} {W : List Nat} {Dn : Ends} {σ : L2.St} {H H1 : Hp} {F F1 : List Addr} {o : Fl} {ρ' : Fm} (h : Post K W Dn σ H F o ρ') (S : Step H F H1 F1) : Post K W Dn σ H1 F1 o ρ' :=
  Post.after (W1 := []) h S fun _ _ => rfl
def fSkip : FS := fun ρ => some (.nx, ρ)
def fSeq (f g : FS) : FS := fun ρ => (f ρ).bind fun (o, ρ1) => match o with
  | .nx => g ρ1
  | o => some (o, ρ1)
section
variable {X : Cx} {st : Stmt} {rest : List Stmt} {f g : FS} {W W1 W2 : List Nat} {e c : Expr} {fe : FE} {ft : FT} {pos : Pos}
theorem dss_nil : DSs X [] [] fSkip := ⟨pss_weak pss_nil fun Dn σ H ⟨ρ, F, o, ρ', E, nd, ef, k⟩ => by
  cases ef
  exact k σ H F E nd Step.refl fun _ _ => rfl⟩
theorem dss_one (h : DS X W st f) : DSs X W [st] f := ⟨pss_one h.ps⟩
theorem dss_cons (h1 : DS X W1 st f) (h2 : DSs X W2 rest g) : DSs X (W1 ++ W2) (st :: rest) (fSeq f g) := ⟨pss_weak (pss_cons h1.ps h2.pss) fun Dn σ H ⟨ρ, F, o, ρ', E, nd, ef, k⟩ => by
  obtain ⟨⟨o1, ρ1⟩, e1, ef⟩ := Option.bind_eq_some_iff.mp ef
  refine ⟨ρ, F, o1, ρ1, E, nd, e1, ?_⟩
  cases o1 with
  | nx => exact fun σ1 H1 F1 E1 N1 S1 w1 => ⟨ρ1, F1, o, ρ', E1, N1, ef, k.after S1 w1⟩
  | bk => cases ef; exact k.mono fun j hj => List.mem_append_left _ hj
  | ct => cases ef; exact k.mono fun j hj => List.mem_append_left _ hj
  | ret d => cases ef; exact k.mono fun j hj => List.mem_append_left _ hj⟩
/-- e alone in a row: only what it changes counts -/
def fDrop (fe : FE) : FS := fun ρ => (fe ρ).map fun (_, ρ1) => (.nx, ρ1)
theorem ds_expr (he : DE X e fe) (hs : swapsWith e none pos.line X.env = pure false := by rfl) : DS X [] (.Expr e pos) (fDrop fe) := ⟨ps_weak (ps_expr he.pe hs) fun Dn σ H ⟨ρ, F, o, ρ', E, nd, ef, k⟩ => by
  obtain ⟨⟨r, ρ1⟩, e1, ef⟩ := Option.map_eq_some_iff.mp ef
  cases ef
  exact ⟨ρ, F, r, ρ', E, nd, e1, fun v H' g F' r1 E1 N1 S1 => k σ H' F' E1 (nodup3 N1).2.1 (S1.to fun a ha => .inl (List.mem_append_right _ ha)) fun _ _ => rfl⟩⟩
def fRet (fe : FE) : FS := fun ρ => (fe ρ).bind fun (r, ρ1) => (take1 ρ1 r).map fun (d, ρ2) => (.ret d, ρ2)
theorem ds_ret (he : DE X e fe) : DS X [] (.Return (some e) pos) (fRet fe) := ⟨ps_weak (ps_ret he.pe) fun Dn σ H ⟨ρ, F, o, ρ', E, nd, ef, k⟩ => by
  obtain ⟨⟨r, ρ1⟩, e1, ef⟩ := Option.bind_eq_some_iff.mp ef
  obtain ⟨⟨d, ρ2⟩, e2, ef⟩ := Option.map_eq_some_iff.mp ef
  cases ef
  refine ⟨ρ, F, r, ρ1, E, nd, e1, fun v H' g F' r1 E1 N1 S1 => ?_⟩
  obtain ⟨p, F2, r2, E2, N2, s2⟩ := r1.take E1 N1 e2
  exact k v σ H' p F2 r2 E2 N2 (S1.to fun a ha => .inl (s2 a ha)) fun _ _ => rfl⟩
def fRetN : FS := fun ρ => some (.ret .non, ρ)
def fIfS (ft : FT) (f g : FS) : FS := fun ρ => (ft ρ).bind fun (k, ρ1) => if k then f ρ1 else g ρ1
theorem ds_if {a b : List Stmt} (hc : DT X c ft) (ha : DSs X W1 a f) (hb : DSs X W2 b g) : DS X (W1 ++ W2) (.If c a b pos) (fIfS ft f g) := ⟨ps_weak (ps_if hc.pt ha.pss hb.pss) fun Dn σ H ⟨ρ, F, o, ρ', E, nd, ef, k⟩ => by
  obtain ⟨⟨k1, ρ1⟩, e1, ef⟩ := Option.bind_eq_some_iff.mp ef
  refine ⟨ρ, F, k1, ρ1, E, nd, e1, fun H' F' E1 N1 S1 => ?_⟩
  cases k1 with
  | true =>
    rw [if_pos rfl]
    exact ⟨ρ1, F', o, ρ', E1, N1, ef, (k.mono fun j hj => List.mem_append_left _ hj).step S1⟩
  | false =>
    rw [if_neg Bool.false_ne_true]
    exact ⟨ρ1, F', o, ρ', E1, N1, ef, (k.mono fun j hj => List.mem_append_right _ hj).step S1⟩⟩
/-! ### targets -/
abbrev FG := D → Fm → Option Fm
def rdG (K : PySem.W.Frag) (W : List Nat) (fg : FG) : TG := fun v σ H Q => ∃ ρ F d g ρ', EnvR K H ρ σ F ∧ Rep K H d v g ∧ (g ++ F).Nodup ∧ fg d ρ = some ρ' ∧
  ∀ σ' F', EnvR K H ρ' σ' F' → F'.Nodup → (∀ a, a ∈ F' → a ∈ g ++ F) → (σ'.length = σ.length ∧ ∀ j, j ∉ W → σ'[j]? = σ[j]?) → Q σ' H
structure DG (X : Cx) (W : List Nat) (t : Expr) (fg : FG) : Prop where
  pg : PG X t (rdG X.K W fg)
theorem pg_weak {X : Cx} {t : Expr} {g g' : TG} (h : PG X t g) (w : ∀ v σ H Q, g' v σ H Q → g v σ H Q) : PG X t g' := ⟨fun pins s σ H v u Q I r q => h.run pins s σ H v u Q I r (w _ _ _ _ q)⟩
/-- a slot is filled anew -/
theorem EnvR.store {K : PySem.W.Frag} {H : Hp} {ρ : Fm} {σ : L2.St} {F g : List Addr} {i : Nat} {d : D} {v : V} (E : EnvR K H ρ σ F) (r : Rep K H d v g) (nd : (g ++ F).Nodup) (hi : i < ρ.length) :
    ∃ F', EnvR K H (ρ.set i (some d)) (σ.set i (some v)) F' ∧ F'.Nodup ∧ ∀ a, a ∈ F' → a ∈ g ++ F := by
  obtain ⟨F1, f, F3, rfl, E1⟩ := E.drop (i := i)
  obtain ⟨n1, n2, n3⟩ := nodup3 nd
  have E2 := E1.other (o := some v)
  have hl : (σ.set i (some v))[i]? = some (some v) := by rw [List.getElem?_set_self (by rw [E.length]; exact hi)]
  obtain ⟨G1, G3, eg, E3⟩ := E2.put hi hl r
  have n4 : (F1 ++ F3).Nodup := (nodup3 (nodup_mid n2)).2.1
  refine ⟨_, E3, nodup_mid (nodup_of n1 (by rw [← eg]; exact n4) fun a ha hb => n3 a ha ?_), fun a ha => ?_⟩
  · rw [← eg] at hb; simp at hb ⊢; rcases hb with z | z <;> simp [z]
  · simp only [List.mem_append] at ha ⊢
    rcases ha with z | z | z
    · have : a ∈ F1 ++ F3 := by rw [eg]; simp [z]
      simp at this; rcases this with y | y <;> simp [y]
    · simp [z]
    · have : a ∈ F1 ++ F3 := by rw [eg]; simp [z]
      simp at this; rcases this with y | y <;> simp [y]
def fgName (i : Nat) : FG := fun d ρ => if i < ρ.length then some (ρ.set i (some d)) else none
theorem dg_name {t : Expr} {i : Nat} (h : PG X t (gName i)) : DG X [i] t (fgName i) := ⟨pg_weak h fun v σ H Q ⟨ρ, F, d, g, ρ', E, r, nd, ef, k⟩ => by
  obtain ⟨c, rfl⟩ := if_some ef
  obtain ⟨F', E', N', s'⟩ := E.store r nd c
  exact k _ F' E' N' s' ⟨List.length_set .., fun j hj => by rw [List.getElem?_set_ne]; intro z; exact hj (by simp [z])⟩⟩
/-- (a, b, ..) = .. -/
abbrev FGs := List D → Fm → Option Fm
def rdGs (K : PySem.W.Frag) (W : List Nat) (fg : FGs) : TGs := fun vs σ H Q => ∃ ρ F ds g ρ', EnvR K H ρ σ F ∧ RepL K H ds vs g ∧ (g ++ F).Nodup ∧ fg ds ρ = some ρ' ∧
  ∀ σ' F', EnvR K H ρ' σ' F' → F'.Nodup → (∀ a, a ∈ F' → a ∈ g ++ F) → (σ'.length = σ.length ∧ ∀ j, j ∉ W → σ'[j]? = σ[j]?) → Q σ' H
structure DGs (X : Cx) (W : List Nat) (ts : List Expr) (fg : FGs) : Prop where
  pgs : PGs X ts (rdGs X.K W fg)
theorem pgs_weak {X : Cx} {t : List Expr} {g g' : TGs} (h : PGs X t g) (w : ∀ v σ H Q, g' v σ H Q → g v σ H Q) : PGs X t g' := ⟨fun pins s σ H v u Q I r q => h.run pins s σ H v u Q I r (w _ _ _ _ q)⟩
def fgNil : FGs := fun ds ρ => match ds with
  | [] => some ρ
  | _ => none
def fgCons (f : FG) (fs : FGs) : FGs := fun ds ρ => match ds with
  | d :: ds => (f d ρ).bind fun ρ1 => fs ds ρ1
  | [] => none
theorem dgs_nil : DGs X [] [] fgNil := ⟨pgs_weak pgs_nil fun v σ H Q ⟨ρ, F, ds, g, ρ', E, r, nd, ef, k⟩ => by
  cases ds with
  | nil => cases ef; exact ⟨r.1, k σ F E (nodup3 nd).2.1 (fun a ha => List.mem_append_right _ ha) ⟨rfl, fun _ _ => rfl⟩⟩
  | cons d ds => cases ef⟩
theorem dgs_cons {t : Expr} {ts : List Expr} {f : FG} {fs : FGs} (h1 : DG X W1 t f) (h2 : DGs X W2 ts fs)
    (hs : (assignEach (t :: ts) X.env).map (·.2) = assign t X.env :: (assignEach ts X.env).map (·.2) := by rfl) : DGs X (W1 ++ W2) (t :: ts) (fgCons f fs) :=
  ⟨pgs_weak (pgs_cons h1.pg h2.pgs hs) fun vs σ H Q ⟨ρ, F, ds, g, ρ', E, r, nd, ef, k⟩ => by
    cases ds with
    | nil => cases ef
    | cons d ds =>
      obtain ⟨v, vs', f1, f2, rfl, rfl, r1, r2⟩ := r
      obtain ⟨ρ1, e1, ef⟩ := Option.bind_eq_some_iff.mp (show ((f d ρ).bind fun ρ1 => fs ds ρ1) = some ρ' from ef)
      obtain ⟨n1, n2, n3⟩ := nodup3 nd
      obtain ⟨n4, n5, n6⟩ := nodup3 n1
      refine ⟨v, vs', rfl, ρ, F, d, f1, ρ1, E, r1, nodup_of n4 n2 fun a ha => n3 a (List.mem_append_left _ ha), e1, fun σ1 F1 E1 N1 s1 w1 => ?_⟩
      refine ⟨ρ1, F1, ds, f2, ρ', E1, r2, nodup_of n5 N1 fun a ha hb => ?_, ef, fun σ2 F2 E2 N2 s2 w2 => k σ2 F2 E2 N2 (fun a ha => ?_) ⟨w2.1.trans w1.1, fun j hj => ?_⟩⟩
      · rcases List.mem_append.mp (s1 a hb) with z | z
        · exact n6 a z ha
        · exact n3 a (List.mem_append_right _ ha) z
      · rcases List.mem_append.mp (s2 a ha) with z | z
        · simp [z]
        · rcases List.mem_append.mp (s1 a z) with y | y <;> simp [y]
      · rw [List.mem_append, not_or] at hj
        rw [w2.2 j hj.2, w1.2 j hj.1]⟩
def fgTup (n : Nat) (fs : FGs) : FG := fun d ρ => match d with
  | .tup ds => if ds.length = n then fs ds ρ else none
  | _ => none
theorem dg_tup {es : List Expr} {k0 : Nat} {fs : FGs} {n : Nat} (hc : X.calm = true) (h : DGs X W es fs)
    (hn : (assignEach es X.env).length = n := by rfl) (hst : (assignEach es X.env).findIdx? (·.1) = none := by rfl) : DG X W (.Tuple es k0 pos) (fgTup n fs) :=
  ⟨pg_weak (pg_tup hc h.pgs hn hst) fun v σ H Q ⟨ρ, F, d, g, ρ', E, r, nd, ef, k⟩ => by
    cases d <;> try cases ef
    obtain ⟨c, ef⟩ := by_cases_if ef
    obtain ⟨a, vs, rfl, ta, rl⟩ := r
    exact ⟨a, vs, rfl, ta.sq, by rw [rl.length]; exact c, ρ, F, _, g, ρ', E, rl, nd, ef, k⟩⟩
/-- target = e -/
def fAsg (fe : FE) (fg : FG) : FS := fun ρ => (fe ρ).bind fun (r, ρ1) => (take1 ρ1 r).bind fun (d, ρ2) => (fg d ρ2).map fun ρ3 => (.nx, ρ3)
theorem asg_of {K : PySem.W.Frag} {fg : FG} {Dn : Ends} {σ : L2.St} {H : Hp} (h : rdS K W (fAsg fe fg) Dn σ H) : tAsg (rdE K fe) (rdG K W fg) Dn σ H := by
  obtain ⟨ρ, F, o, ρ', E, nd, ef, k⟩ := h
  obtain ⟨⟨r, ρ1⟩, e1, ef⟩ := Option.bind_eq_some_iff.mp ef
  obtain ⟨⟨d, ρ2⟩, e2, ef⟩ := Option.bind_eq_some_iff.mp ef
  obtain ⟨ρ3, e3, ef⟩ := Option.map_eq_some_iff.mp ef
  cases ef
  refine ⟨ρ, F, r, ρ1, E, nd, e1, fun v H' g F' r1 E1 N1 S1 => ?_⟩
  obtain ⟨p, F2, r2, E2, N2, s2⟩ := r1.take E1 N1 e2
  exact ⟨ρ2, F2, d, p, ρ', E2, r2, N2, e3, fun σ' F3 E3 N3 s3 w3 => k σ' H' F3 E3 N3 (S1.to fun a ha => .inl (s2 a (s3 a ha))) w3.2⟩
theorem ds_asg {tg : Expr} {fg : FG} (he : DE X e fe) (hg : DG X W tg fg) (hs : swapsWithSole [tg] e pos.line X.env = pure false := by rfl) (hw : swappedStores [tg] e X.env = pure none := by rfl)
    (h1 : (assignEach [tg] X.env).map (·.2) = [assign tg X.env] := by rfl) : DS X W (.Assign [tg] e pos) (fAsg fe fg) := ⟨ps_weak (ps_asg he.pe hg.pg hs hw h1) fun _ _ _ h => asg_of h⟩
theorem ds_set {i : Nat} {x : Str} {pos' : Pos} (hN : X.N.Nodup) (hi : X.N[i]? = some x) (hx : Loc X.env.scope x) (he : DE X e fe) (hs : swapsWith e (some (.Name x pos')) pos.line X.env = pure false := by rfl)
    (hf : X.fn x = true ∨ X.env.scope.names.lookup x = some .local := by first | exact .inl rfl | exact .inr rfl | assumption) : DS X [i] (.Assign [.Name x pos'] e pos) (fAsg fe (fgName i)) :=
  ⟨ps_weak (ps_set hN hi hx he.pe hs hf) fun Dn σ H h => by
    obtain ⟨ρ, F, r, ρ', E, nd, ef, k⟩ := asg_of h
    refine ⟨ρ, F, r, ρ', E, nd, ef, fun v H' g F' r1 E1 N1 S1 => ?_⟩
    obtain ⟨ρ2, F2, d, p, ρ3, E2, r2, N2, e3, k2⟩ := k v H' g F' r1 E1 N1 S1
    obtain ⟨c, rfl⟩ := if_some e3
    obtain ⟨F3, E3, N3, s3⟩ := E2.store r2 N2 c
    exact k2 _ F3 E3 N3 s3 ⟨List.length_set .., fun j hj => by rw [List.getElem?_set_ne]; intro z; exact hj (by simp [z])⟩⟩
/-- a, b = x, y of two plain names -/
def fPar (i j : Nat) (fa : FA) : FS := fun ρ => (fa ρ).bind fun (rs, ρ1) => (takes ρ1 rs).bind fun (ds, ρ2) => match ds with
  | [d, e] => if i < ρ2.length ∧ j < ρ2.length then some (.nx, (ρ2.set i (some d)).set j (some e)) else none
  | _ => none
theorem ds_par {i j : Nat} {S : Stmt} {fa : FA} (h : PS X S (tPar i j (rdA X.K fa))) : DS X [i, j] S (fPar i j fa) :=
  ⟨ps_weak h fun Dn σ H ⟨ρ, F, o, ρ', E, nd, ef, k⟩ => by
    obtain ⟨⟨rs, ρ1⟩, e1, ef⟩ := Option.bind_eq_some_iff.mp ef
    obtain ⟨⟨ds, ρ2⟩, e2, ef⟩ := Option.bind_eq_some_iff.mp ef
    refine ⟨ρ, F, rs, ρ1, E, nd, e1, fun vs H' g F' r1 E1 N1 S1 => ?_⟩
    obtain ⟨p, F2, r2, E2, N2, s2⟩ := r1.takes E1 N1 e2
    simp only at ef
    split at ef
    · obtain ⟨⟨c1, c2⟩, ef⟩ := if_some ef
      cases ef
      obtain ⟨v, vs', f1, f2, rfl, rfl, q1, q2⟩ := r2
      obtain ⟨w, rfl, q3⟩ := q2.one
      obtain ⟨n1, n2, n3⟩ := nodup3 N2
      obtain ⟨n4, n5, n6⟩ := nodup3 n1
      obtain ⟨F3, E3, N3, s3⟩ := E2.store q1 (nodup_of n4 n2 fun a ha => n3 a (List.mem_append_left _ ha)) c1
      obtain ⟨F4, E4, N4, s4⟩ := E3.store (i := j) q3 (nodup_of n5 N3 fun a ha hb => by
        rcases List.mem_append.mp (s3 a hb) with z | z
        · exact n6 a z ha
        · exact n3 a (List.mem_append_right _ ha) z) (by rw [List.length_set]; exact c2)
      refine ⟨v, w, rfl, k _ H' F4 E4 N4 (S1.to fun a ha => .inl (s2 a ?_)) fun m hm => ?_⟩
      · rcases List.mem_append.mp (s4 a ha) with z | z
        · simp [z]
        · rcases List.mem_append.mp (s3 a z) with y | y <;> simp [y]
      · simp only [List.mem_cons, List.not_mem_nil, or_false, not_or] at hm
        rw [List.getElem?_set_ne (fun z => hm.2 z.symm), List.getElem?_set_ne (fun z => hm.1 z.symm)]
    · cases ef⟩
/-- o[i] = e -/
def fStore (fe : FE) (fp : FP) (fi : FE) : FS := fun ρ => (fe ρ).bind fun (r, ρ1) => (fp ρ1).bind fun (p, ρ2) => (getP ρ2 p).bind fun c0 => (fi (hide ρ2 p)).bind fun (x, ρ3) => (cont ρ3 x).bind fun key =>
  (take1 ρ3 r).bind fun (dv, ρ4) => (getP (unhide ρ2 ρ4 p) p).bind fun c => (dStore c key dv).map fun c' => (.nx, setP (unhide ρ2 ρ4 p) c' p)
def rSetAll : TSet := fun o i v H Q => rSetL o i v H Q ∨ rSetD o i v H Q
theorem set_all (hu : X.A.units + 1 < cLine) : PSet X rSetAll := fun pins s σ H o i v ov iv u Q I r1 r2 r3 h => h.elim (set_list pins s σ H o i v ov iv u Q I r1 r2 r3) (set_dict hu pins s σ H o i v ov iv u Q I r1 r2 r3)
def mStore : D → List D → Option (D × D)
  | c, [key, dv] => (dStore c key dv).map fun c' => (c', .non)
  | _, _ => none
def rStore : V → List V → Hp → VK → Prop := fun o vs H Q => ∃ i v, vs = [i, v] ∧ rSetAll o i v H fun H' => Q .non H'
theorem mu_store {K : PySem.W.Frag} : MutS K rStore mStore := by
  intro H d v f ds vs p d' z Q r ra nd e k
  unfold mStore at e
  split at e
  · rename_i key dv
    obtain ⟨c', e1, e⟩ := Option.map_eq_some_iff.mp e
    cases e
    obtain ⟨iv, vs', f1, f2, rfl, rfl, r1, r2⟩ := ra
    obtain ⟨w, rfl, rw'⟩ := r2.one
    refine ⟨iv, w, rfl, ?_⟩
    unfold dStore at e1
    split at e1
    · obtain ⟨j, e2, e1⟩ := Option.bind_eq_some_iff.mp e1
      obtain ⟨c, rfl⟩ := if_some e1
      obtain ⟨rfl, rfl⟩ := r1
      obtain ⟨a, ws, g, rfl, ha, rfl, rl⟩ := r
      have hj := List.getElem?_eq_getElem c
      obtain ⟨w0, g1, g2, g3, e3, rfl, r3, up, _⟩ := rl.at hj
      rw [List.nil_append] at nd
      obtain ⟨n0, n1⟩ := List.nodup_cons.mp nd
      have mu : MutO (H a) := by rw [ha]; trivial
      obtain ⟨y1, y2, y3⟩ := nodup3 n1
      have y4 := (nodup3 (nodup_mid y1)).2.1
      have nn : (g1 ++ (f2 ++ g3)).Nodup := nodup_mid (nodup_of y2 y4 fun b hb hc => y3 b (by simp at hc ⊢; rcases hc with z | z <;> simp [z]) hb)
      have na : a ∉ g1 ++ (f2 ++ g3) := fun z => n0 (by simp at z ⊢; rcases z with z | z | z <;> simp [z])
      refine .inl ⟨a, ws, _, j, rfl, rfl, ha, by rw [rl.length]; exact e2, k .non _ (a :: (g1 ++ (f2 ++ g3))) [] ⟨a, _, _, rfl, upd_same, rfl, RepL.keep _ _ _ (up dv w f2 rw') (keep_upd mu na)⟩ ⟨rfl, rfl⟩ (List.nodup_cons.mpr ⟨na, nn⟩) (fun b hb => .inl ?_) upd_other⟩
      simp only [List.mem_append, List.mem_cons, List.nil_append] at hb ⊢
      rcases hb with rfl | h | h | h <;> simp [*]
    · obtain ⟨kk, e2, e1⟩ := Option.bind_eq_some_iff.mp e1
      obtain ⟨⟨ci, c⟩, rfl⟩ := if_some e1
      obtain rfl := keyOf_kV r1 e2
      obtain ⟨a, ws, g, rfl, ha, rfl, rk⟩ := r
      have mu : MutO (H a) := by rw [ha]; trivial
      obtain ⟨n1, n2, n3⟩ := nodup3 nd
      obtain ⟨n4, n5⟩ := List.nodup_cons.mp n1
      obtain ⟨g', q1, q2, q3⟩ := RepK.put (k := kk) (rep_nil rw' ci) rk n5
      have na : a ∉ g' := fun z => n4 (q3 a z)
      refine .inr ⟨a, _, rfl, DPut.k ha (by rw [rk.length]; exact c), k .non _ (a :: g') [] ⟨a, _, _, rfl, upd_same, rfl, RepK.keep _ _ _ q1 (keep_upd mu na)⟩ ⟨rfl, rfl⟩ (List.nodup_cons.mpr ⟨na, q2⟩) (fun b hb => .inl ?_) upd_other⟩
      simp only [List.mem_append, List.mem_cons, List.nil_append] at hb ⊢
      rcases hb with rfl | h
      · simp
      · simp [q3 b h]
    · cases e1
  · cases e
theorem ds_store {S : Stmt} {fe : FE} {fp : FP} {fi : FE} (h : PS X S (tAsg (rdE X.K fe) (gSub (rdP X.K fp) (rdE X.K fi) rSetAll))) : DS X [] S (fStore fe fp fi) :=
  ⟨ps_weak h fun Dn σ H ⟨ρ, F, oo, ρ', E, nd, ef, k⟩ => by
    obtain ⟨⟨r, ρ1⟩, e1, ef⟩ := Option.bind_eq_some_iff.mp ef
    obtain ⟨⟨p, ρ2⟩, e2, ef⟩ := Option.bind_eq_some_iff.mp ef
    obtain ⟨c0, e3, ef⟩ := Option.bind_eq_some_iff.mp ef
    obtain ⟨⟨x, ρ3⟩, e4, ef⟩ := Option.bind_eq_some_iff.mp ef
    obtain ⟨key, e5, ef⟩ := Option.bind_eq_some_iff.mp ef
    obtain ⟨⟨dv, ρ4⟩, e6, ef⟩ := Option.bind_eq_some_iff.mp ef
    obtain ⟨c, e7, ef⟩ := Option.bind_eq_some_iff.mp ef
    obtain ⟨c', e8, ef⟩ := Option.map_eq_some_iff.mp ef
    cases ef
    refine ⟨ρ, F, r, ρ1, E, nd, e1, fun v H1 g1 F1 r1 E1 N1 S1 => ?_⟩
    obtain ⟨n1, n2, n3⟩ := nodup3 N1
    refine ⟨ρ1, F1, p, ρ2, E1, n2, e2, fun ov H2 F2 hv E2 N2 S2 => ?_⟩
    have r1' := r1.keep (S2.keep E1.mut n3)
    have d2 : ∀ a ∈ g1, a ∉ F2 := S2.apart r1.mut n3
    obtain ⟨Fh, Eh, nh, sub, cont⟩ := hidden E2 N2 e3 hv
    refine ⟨hide ρ2 p, Fh, x, ρ3, Eh, nh, e4, fun iv H3 g3 F3 r3 E3 N3 S3 => ?_⟩
    have dh : ∀ a ∈ g1, a ∉ Fh := fun a ha hb => d2 a ha (sub a hb)
    have r1'' := r1'.keep (S3.keep Eh.mut dh)
    have d3 : ∀ a ∈ g1, a ∉ g3 ++ F3 := S3.apart r1'.mut dh
    obtain ⟨pk, qk, _⟩ := r3.cont E3 e5
    obtain ⟨p2, F4, rv, E4, N4, s4⟩ := r1''.take E3 (nodup_of n1 (nodup3 N3).2.1 fun a ha hb => d3 a ha (List.mem_append_right _ hb)) e6
    obtain ⟨hv3, F5, E5, N5, S5⟩ := cont g1 (fun a ha => r1'.mut a ha) d2 H3 ρ4 F4 p2 E4 N4 fun a u ea na => by
      obtain ⟨x1, x2⟩ := S3 a u ea fun z => na (List.mem_append_right _ z)
      refine ⟨x1, fun z => ?_⟩
      rcases List.mem_append.mp (s4 a z) with y | y
      · exact na (List.mem_append_left _ y)
      · exact x2 (List.mem_append_right _ y)
    have S12 : Step H F H2 (g1 ++ F2) := fun a u ea na => by
      obtain ⟨x1, x2⟩ := S1 a u ea na
      obtain ⟨x3, x4⟩ := S2 a u x1 fun z => x2 (List.mem_append_right _ z)
      exact ⟨x3, fun z => (List.mem_append.mp z).elim (fun z => x2 (List.mem_append_left _ z)) x4⟩
    have hk : imm key = true := by
      unfold dStore at e8
      split at e8
      · rfl
      · obtain ⟨kk, e9, _⟩ := Option.bind_eq_some_iff.mp e8
        revert e9
        cases key <;> intro e9 <;> first | rfl | cases e9
      · cases e8
    obtain ⟨i', v', ev, q⟩ := change (ds := [key, dv]) (vs := [iv, v]) (p2 := p2) (z := .non) (Q := fun _ H' => Dn.nx σ H') mu_store (S12.trans S5) E5 N5 ⟨iv, [v], [], p2, rfl, rfl, rep_nil qk hk, RepL.of_one rv⟩ hv3 e7 (by show (dStore c key dv).map (fun c' => (c', D.non)) = _; rw [e8]; rfl)
      fun u H' h F' ru E' N' S' => k σ H' F' E' (nodup3 N').2.1 (S'.to fun a ha => .inl (List.mem_append_right _ ha)) fun _ _ => rfl
    cases ev
    exact q⟩
end
end DL
/-! Loops and comprehensions. -/
namespace DL
open PySem PySem.Spec L2
/-! ### a list that is not changed any more -/
mutual
def frzD : D → Option D
  | .lst ds => (frzL ds).map .flst
  | .flst ds => (frzL ds).map .flst
  | .tup ds => (frzL ds).map .tup
  | .dic kvs => if immK kvs = true then some (.fdic kvs) else none
  | .fdic kvs => if immK kvs = true then some (.fdic kvs) else none
  | .exc a C dd kvs => if immK kvs = true then some (.exc a C dd kvs) else none
  | .non => some .non
  | .bl b => some (.bl b)
  | .int i => some (.int i)
  | .str x => some (.str x)
def frzL : List D → Option (List D)
  | [] => some []
  | d :: ds => (frzD d).bind fun d' => (frzL ds).map fun ds' => d' :: ds'
end
mutual
theorem frz_id : ∀ (d : D), imm d = true → frzD d = some d
  | .non, _ => rfl
  | .bl _, _ => rfl
  | .int _, _ => rfl
  | .str _, _ => rfl
  | .tup ds, h => by show (frzL ds).map D.tup = _; rw [frzL_id ds h]; rfl
  | .flst ds, h => by show (frzL ds).map D.flst = _; rw [frzL_id ds h]; rfl
  | .lst _, h => by cases h
  | .dic _, h => by cases h
  | .fdic kvs, h => if_pos h
  | .exc _ _ _ kvs, h => if_pos h
theorem frzL_id : ∀ (ds : List D), immL ds = true → frzL ds = some ds
  | [], _ => rfl
  | d :: ds, h => by
    have h' : imm d = true ∧ immL ds = true := by simpa [immL] using h
    show (frzD d).bind _ = _
    rw [frz_id d h'.1]
    show (frzL ds).map _ = _
    rw [frzL_id ds h'.2]
    rfl
end
/-- a list or a dict that may be changed -/
def LD (H : Hp) (a : Addr) : Prop := (∃ xs, H a = some (.lst xs)) ∨ ∃ ws, H a = some (.dK ws)
/-- these stand still from now on -/
def Locked (H : Hp) (f : List Addr) (H' : Hp) : Prop := Keep H [] H' ∧ ∀ a ∈ f, ∀ u, H a = some u → LD H a → ∃ o, H' a = some (.frz o u)
section
variable {K : PySem.W.Frag} {H H' : Hp}
mutual
theorem Rep.frz : ∀ (d : D) (v : V) (f : List Addr) (d' : D), Rep K H d v f → frzD d = some d' → Locked H f H' → Rep K H' d' v []
  | .non, v, f, d', r, e, l => by cases e; exact ⟨r.1, rfl⟩
  | .bl _, v, f, d', r, e, l => by cases e; exact ⟨r.1, rfl⟩
  | .int _, v, f, d', r, e, l => by cases e; exact ⟨r.1, rfl⟩
  | .str _, v, f, d', r, e, l => by cases e; exact ⟨r.1, rfl⟩
  | .dic kvs, v, f, d', r, e, l => by
    obtain ⟨im, e⟩ := if_some (show (if immK kvs = true then some (D.fdic kvs) else none) = some d' from e)
    cases e
    obtain ⟨a, ws, g, rfl, ha, rfl, rk⟩ := r
    obtain ⟨o, ho⟩ := l.2 a List.mem_cons_self _ ha (.inr ⟨ws, ha⟩)
    have g0 := RepK.imm _ _ _ rk im
    subst g0
    exact ⟨a, ws, rfl, ⟨o, ho⟩, RepK.keep _ _ _ rk l.1⟩
  | .fdic kvs, v, f, d', r, e, l => by
    obtain ⟨im, e⟩ := if_some (show (if immK kvs = true then some (D.fdic kvs) else none) = some d' from e)
    cases e
    obtain ⟨a, ws, rfl, ⟨o, ho⟩, rk⟩ := r
    have g0 := RepK.imm _ _ _ rk im
    subst g0
    exact ⟨a, ws, rfl, ⟨o, l.1 a _ ho (.inl (by rw [ho]; exact id))⟩, RepK.keep _ _ _ rk l.1⟩
  | .exc a C dd kvs, v, f, d', r, e, l => by
    obtain ⟨im, e⟩ := if_some (show (if immK kvs = true then some (D.exc a C dd kvs) else none) = some d' from e)
    cases e
    obtain ⟨ws, rfl, ho, rk⟩ := r
    have g0 := RepK.imm _ _ _ rk im
    subst g0
    exact ⟨ws, rfl, l.1 dd _ ho (.inl (by rw [ho]; exact id)), RepK.keep _ _ _ rk l.1⟩
  | .tup ds, v, f, d', r, e, l => by
    obtain ⟨ds', e1, e2⟩ := Option.map_eq_some_iff.mp (show (frzL ds).map .tup = some d' from e)
    cases e2
    obtain ⟨a, vs, rfl, t, rl⟩ := r
    exact ⟨a, vs, rfl, tupR_keep t l.1, RepL.frz ds vs f ds' rl e1 l⟩
  | .flst ds, v, f, d', r, e, l => by
    obtain ⟨ds', e1, e2⟩ := Option.map_eq_some_iff.mp (show (frzL ds).map .flst = some d' from e)
    cases e2
    obtain ⟨a, vs, rfl, t, rl⟩ := r
    exact ⟨a, vs, rfl, SqF.keep t l.1, RepL.frz ds vs f ds' rl e1 l⟩
  | .lst ds, v, f, d', r, e, l => by
    obtain ⟨ds', e1, e2⟩ := Option.map_eq_some_iff.mp (show (frzL ds).map .flst = some d' from e)
    cases e2
    obtain ⟨a, vs, g, rfl, ha, rfl, rl⟩ := r
    obtain ⟨o, ho⟩ := l.2 a List.mem_cons_self _ ha (.inl ⟨vs, ha⟩)
    exact ⟨a, vs, rfl, .inl ⟨o, ho⟩, RepL.frz ds vs g ds' rl e1 ⟨l.1, fun b hb => l.2 b (List.mem_cons_of_mem _ hb)⟩⟩
theorem RepL.frz : ∀ (ds : List D) (vs : List V) (f : List Addr) (ds' : List D), RepL K H ds vs f → frzL ds = some ds' → Locked H f H' → RepL K H' ds' vs []
  | [], vs, f, ds', r, e, l => by cases e; exact ⟨r.1, rfl⟩
  | d :: ds, vs, f, ds', r, e, l => by
    obtain ⟨d', e1, e2⟩ := Option.bind_eq_some_iff.mp (show (frzD d).bind _ = some ds' from e)
    obtain ⟨es, e3, e4⟩ := Option.map_eq_some_iff.mp e2
    subst e4
    obtain ⟨v, vs', f1, f2, rfl, rfl, r1, r2⟩ := r
    exact ⟨v, vs', [], [], rfl, rfl, Rep.frz d v f1 d' r1 e1 ⟨l.1, fun a ha => l.2 a (List.mem_append_left _ ha)⟩, RepL.frz ds vs' f2 es r2 e3 ⟨l.1, fun a ha => l.2 a (List.mem_append_right _ ha)⟩⟩
end
mutual
theorem Rep.lsts : ∀ (d : D) (v : V) (f : List Addr) (d' : D), Rep K H d v f → frzD d = some d' → ∀ a ∈ f, LD H a
  | .non, v, f, d', r, e => by rw [r.2]; intro a ha; cases ha
  | .bl _, v, f, d', r, e => by rw [r.2]; intro a ha; cases ha
  | .int _, v, f, d', r, e => by rw [r.2]; intro a ha; cases ha
  | .str _, v, f, d', r, e => by rw [r.2]; intro a ha; cases ha
  | .dic kvs, v, f, d', r, e => by
    obtain ⟨im, e⟩ := if_some (show (if immK kvs = true then some (D.fdic kvs) else none) = some d' from e)
    obtain ⟨a, ws, g, rfl, ha, rfl, rk⟩ := r
    have g0 := RepK.imm _ _ _ rk im
    subst g0
    intro b hb
    rw [List.mem_singleton.1 hb]
    exact .inr ⟨ws, ha⟩
  | .fdic kvs, v, f, d', r, e => by
    obtain ⟨im, e⟩ := if_some (show (if immK kvs = true then some (D.fdic kvs) else none) = some d' from e)
    obtain ⟨a, ws, rfl, _, rk⟩ := r
    rw [RepK.imm _ _ _ rk im]
    intro b hb
    cases hb
  | .exc a C dd kvs, v, f, d', r, e => by
    obtain ⟨im, e⟩ := if_some (show (if immK kvs = true then some (D.exc a C dd kvs) else none) = some d' from e)
    obtain ⟨ws, rfl, _, rk⟩ := r
    rw [RepK.imm _ _ _ rk im]
    intro b hb
    cases hb
  | .tup ds, v, f, d', r, e => by
    obtain ⟨ds', e1, _⟩ := Option.map_eq_some_iff.mp (show (frzL ds).map .tup = some d' from e)
    obtain ⟨a, vs, rfl, t, rl⟩ := r
    exact RepL.lsts ds vs f ds' rl e1
  | .flst ds, v, f, d', r, e => by
    obtain ⟨ds', e1, _⟩ := Option.map_eq_some_iff.mp (show (frzL ds).map .flst = some d' from e)
    obtain ⟨a, vs, rfl, t, rl⟩ := r
    exact RepL.lsts ds vs f ds' rl e1
  | .lst ds, v, f, d', r, e => by
    obtain ⟨ds', e1, _⟩ := Option.map_eq_some_iff.mp (show (frzL ds).map .flst = some d' from e)
    obtain ⟨a, vs, g, rfl, ha, rfl, rl⟩ := r
    intro b hb
    rcases List.mem_cons.mp hb with rfl | hb
    · exact .inl ⟨vs, ha⟩
    · exact RepL.lsts ds vs g ds' rl e1 b hb
theorem RepL.lsts : ∀ (ds : List D) (vs : List V) (f : List Addr) (ds' : List D), RepL K H ds vs f → frzL ds = some ds' → ∀ a ∈ f, LD H a
  | [], vs, f, ds', r, e => by rw [r.2]; intro a ha; cases ha
  | d :: ds, vs, f, ds', r, e => by
    obtain ⟨d', e1, e2⟩ := Option.bind_eq_some_iff.mp (show (frzD d).bind _ = some ds' from e)
    obtain ⟨es, e3, e4⟩ := Option.map_eq_some_iff.mp e2
    obtain ⟨v, vs', f1, f2, rfl, rfl, r1, r2⟩ := r
    intro a ha
    rcases List.mem_append.mp ha with z | z
    · exact Rep.lsts d v f1 d' r1 e1 a z
    · exact RepL.lsts ds vs' f2 es r2 e3 a z
end
end
/-- locked, and nothing else -/
def LockTo (H : Hp) (f : List Addr) (H' : Hp) : Prop := (∀ b, b ∉ f → H' b = H b) ∧ ∀ a ∈ f, ∃ u o, H a = some u ∧ MutO (some u) ∧ H' a = some (.frz o u)
theorem LockTo.locked {H H' : Hp} {f : List Addr} (h : LockTo H f H') : Locked H f H' := by
  refine ⟨fun a u e hm => ?_, fun a ha xs e _ => ?_⟩
  · have : a ∉ f := fun z => by
      obtain ⟨xs, o, e1, m1, _⟩ := h.2 a z
      rcases hm with m | m
      · exact m (by rw [e1]; exact m1)
      · cases m
    rw [h.1 a this]
    exact e
  · obtain ⟨ys, o, e1, _, e2⟩ := h.2 a ha
    rw [e] at e1
    cases e1
    exact ⟨o, e2⟩
theorem LD.mut {H : Hp} {a : Addr} (h : LD H a) : ∃ u, H a = some u ∧ MutO (some u) ∧ Mut (some u) := by
  rcases h with ⟨xs, e⟩ | ⟨ws, e⟩
  · exact ⟨_, e, trivial, trivial⟩
  · exact ⟨_, e, trivial, trivial⟩
theorem lockAll {X : Cx} {pins : List (Addr × Obj)} {σ : L2.St} {s1 : Shared} : ∀ (f : List Addr) (H : Hp), f.Nodup → (∀ a ∈ f, LD H a) → Inv X pins σ H s1 → ∃ H', LockTo H f H' ∧ Inv X pins σ H' s1
  | [], H, _, _, I => ⟨H, ⟨fun _ _ => rfl, fun a ha => by cases ha⟩, I⟩
  | a :: f, H, nd, hl, I => by
    obtain ⟨na, nd'⟩ := List.nodup_cons.mp nd
    obtain ⟨u, ea, m0, m1⟩ := (hl a List.mem_cons_self).mut
    obtain ⟨H1, l1, I1⟩ := lockAll f H nd' (fun b hb => hl b (List.mem_cons_of_mem _ hb)) I
    have ea1 : H1 a = some u := by rw [l1.1 a na]; exact ea
    obtain ⟨od, I2⟩ := I1.lock ea1 m1
    refine ⟨_, ⟨fun b hb => ?_, fun b hb => ?_⟩, I2⟩
    · rw [upd_ne (fun z => hb (by simp [z]))]
      exact l1.1 b fun z => hb (List.mem_cons_of_mem _ z)
    · by_cases hba : b = a
      · subst hba
        exact ⟨u, od, ea, m0, upd_same⟩
      · have hb' : b ∈ f := by rcases List.mem_cons.mp hb with z | z; exact absurd z hba; exact z
        obtain ⟨ys, o, e1, mm, e2⟩ := l1.2 b hb'
        exact ⟨ys, o, e1, mm, by rw [upd_ne hba]; exact e2⟩
theorem pe_frz {X : Cx} {e : Expr} {te : TE} (h : PE X e te) : PE X e (fun σ H Q => te σ H fun x H1 => ∃ f : List Addr, f.Nodup ∧ (∀ a ∈ f, LD H1 a) ∧ ∀ H2, LockTo H1 f H2 → Q x H2) :=
  ⟨fun pins s σ H Q I hq => thn (h.run pins s σ H _ I hq) fun v s1 ⟨x, H1, I1, r1, f, nd, hl, q⟩ => by
    obtain ⟨H2, l2, I2⟩ := lockAll f H1 nd hl I1
    exact ⟨x, H2, I2, r1, q H2 l2⟩⟩
def fFrz (f : FE) : FE := fun ρ => (f ρ).bind fun (r, ρ1) => (cont ρ1 r).bind fun d => (frzD d).map fun d' => (.val d', match r with | .var i => ρ1.set i (some d') | .val _ => ρ1)
theorem de_frz {X : Cx} {e : Expr} {fe : FE} (h : DE X e fe) : DE X e (fFrz fe) := ⟨pe_weak (pe_frz h.pe) fun σ H Q ⟨ρ, F, r', ρ', E, nd, ef, k⟩ => by
  obtain ⟨⟨r, ρ1⟩, e1, ef⟩ := Option.bind_eq_some_iff.mp ef
  obtain ⟨d, e2, ef⟩ := Option.bind_eq_some_iff.mp ef
  obtain ⟨d', e3, ef⟩ := Option.map_eq_some_iff.mp ef
  cases ef
  refine ⟨ρ, F, r, ρ1, E, nd, e1, fun v H1 g F1 r1 E1 N1 S1 => ?_⟩
  obtain ⟨n1, n2, n3⟩ := nodup3 N1
  cases r with
  | val d0 =>
    cases e2
    refine ⟨g, n1, Rep.lsts _ _ _ _ r1 e3, fun H2 l2 => ?_⟩
    have lk := l2.locked
    refine k v H2 [] F1 (Rep.frz _ _ _ _ r1 e3 lk) (E1.keep fun a u ea hm => ?_) (by simpa using n2) fun b u eb nb => ?_
    · rw [l2.1 a fun z => ?_]
      · exact ea
      · rcases hm with m | m
        · obtain ⟨xs, o, e4, mm, _⟩ := l2.2 a z
          exact m (by rw [e4]; exact mm)
        · exact n3 a z m
    · obtain ⟨x1, x2⟩ := S1 b u eb nb
      exact ⟨by rw [l2.1 b fun z => x2 (List.mem_append_left _ z)]; exact x1, fun z => x2 (List.mem_append_right _ z)⟩
  | var i =>
    obtain ⟨h1, rfl⟩ := r1
    obtain ⟨w, A1, f, A3, e4, rfl, r2, E2⟩ := E1.at (slot_some e2)
    rw [e4] at h1
    cases h1
    have nd2 := nodup_mid n2
    obtain ⟨m1, m2, m3⟩ := nodup3 nd2
    refine ⟨f, m1, Rep.lsts _ _ _ _ r2 e3, fun H2 l2 => ?_⟩
    have lk := l2.locked
    have rf := Rep.frz _ _ _ _ r2 e3 lk
    have E2' : EnvR X.K H2 (ρ1.set i none) σ (A1 ++ A3) := E2.keep fun a u ea hm => by
      rw [l2.1 a fun z => ?_]
      · exact ea
      · rcases hm with m | m
        · obtain ⟨xs, o, e5, mm, _⟩ := l2.2 a z
          exact m (by rw [e5]; exact mm)
        · exact m3 a z m
    obtain ⟨B1, B3, eb, E3⟩ := E2'.put (slot_lt e2) e4 rf
    have m2' : (B1 ++ B3).Nodup := by rw [← eb]; exact m2
    refine k v H2 [] _ rf E3 (by simpa using m2') fun b u ebb nb => ?_
    obtain ⟨x1, x2⟩ := S1 b u ebb nb
    refine ⟨by rw [l2.1 b fun z => x2 (by simp [z])]; exact x1, fun z => x2 ?_⟩
    have : b ∈ A1 ++ A3 := by rw [eb]; simpa using z
    simp at this ⊢
    rcases this with y | y <;> simp [y]⟩
/-! ### what is walked -/
abbrev Yd := Hp → D → V → Prop
def Strong (K : PySem.W.Frag) : Yd := fun H d v => Rep K H d v []
def Weak (K : PySem.W.Frag) : Yd := fun H d v => ∃ es a xs, d = .tup es ∧ v = .ref a ∧ SqT K H a xs ∧ RepL K H es xs []
structure SrcOk (K : PySem.W.Frag) (Y : Yd) (J : It) (ds : List D) (Good : Hp → Prop) : Prop where
  keep : ∀ H H', Good H → Keep H [] H' → Good H'
  go : ∀ H n, Good H → n < ds.length → J.go n H
  stop : ∀ H n, Good H → ds.length ≤ n → J.stop n H
  yld : ∀ H n x H' d, Good H → J.yld n H x H' → ds[n]? = some d → Y H' d x ∧ Same H H'
abbrev FI := Fm → Option (List D × Fm)
def rdI (K : PySem.W.Frag) (Y : Yd) (f : FI) : TI := fun σ H R => ∃ ρ F ds ρ', EnvR K H ρ σ F ∧ F.Nodup ∧ f ρ = some (ds, ρ') ∧
  ∀ J H' F' Good, SrcOk K Y J ds Good → Good H' → EnvR K H' ρ' σ F' → F'.Nodup → Step H F H' F' → R J H'
structure DI (X : Cx) (Y : Yd) (tg e : Expr) (f : FI) : Prop where
  pi : PI X tg e (rdI X.K Y f)
theorem pi_weak {X : Cx} {tg e : Expr} {t t' : TI} (h : PI X tg e t) (w : ∀ σ H R, t' σ H R → t σ H R) : PI X tg e t' := ⟨fun pins s σ H R I q => h.run pins s σ H R I (w _ _ _ q)⟩
theorem pi_or {X : Cx} {tg e : Expr} {t1 t2 : TI} (h1 : PI X tg e t1) (h2 : PI X tg e t2) : PI X tg e (fun σ H R => t1 σ H R ∨ t2 σ H R) :=
  ⟨fun pins s σ H R I h => h.elim (h1.run pins s σ H R I) (h2.run pins s σ H R I)⟩
section
variable {X : Cx} {tg e : Expr} {fe : FE} {pos p : Pos} {fr : FA}
/-- over a tuple, a list that stands still -/
def fSeqI (fe : FE) : FI := fun ρ => (fe ρ).bind fun (r, ρ1) => (cont ρ1 r).bind fun d => match d with
  | .tup ds => if immL ds = true then some (ds, ρ1) else none
  | .flst ds => if immL ds = true then some (ds, ρ1) else none
  | _ => none
theorem di_seq (h : DE X e fe) : DI X (Strong X.K) tg e (fSeqI fe) := ⟨pi_weak (pi_or (pi_list h.pe) (pi_tup h.pe)) fun σ H R ⟨ρ, F, ds, ρ', E, nd, ef, k⟩ => by
  obtain ⟨⟨r, ρ1⟩, e1, ef⟩ := Option.bind_eq_some_iff.mp ef
  obtain ⟨d, e2, ef⟩ := Option.bind_eq_some_iff.mp ef
  cases d <;> try cases ef
  · obtain ⟨c, ef⟩ := if_some ef
    cases ef
    refine .inr ⟨ρ, F, r, ρ', E, nd, e1, fun v H1 g F1 r1 E1 N1 S1 => ?_⟩
    obtain ⟨p, q, _⟩ := r1.cont E1 e2
    obtain ⟨a, vs, rfl, ta, rl⟩ := q
    refine ⟨a, rfl, ⟨vs, ta.sq⟩, k _ H1 F1 (fun H => TupR X.K H a vs ∧ RepL X.K H ds vs []) ⟨fun H H' ⟨x, y⟩ kp => ⟨tupR_keep x kp, RepL.keep _ _ _ y kp⟩, fun H n ⟨x, y⟩ hn => ?_, fun H n ⟨x, y⟩ hn => ?_, fun H n w H' d ⟨x, y⟩ yl hd => ?_⟩ ⟨ta, rl.nil_of c⟩ E1 (nodup3 N1).2.1 (S1.to fun b hb => .inl (List.mem_append_right _ hb))⟩
    · have hl : n < vs.length := by rw [y.length]; exact hn
      exact ⟨vs, vs[n], x.sq, List.getElem?_eq_getElem hl⟩
    · exact ⟨vs, x.sq, by rw [y.length]; exact hn⟩
    · obtain ⟨rfl, yl⟩ := yl
      have e3 := yl vs x.sq
      obtain ⟨d', e4, r4⟩ := y.each c n w e3
      rw [hd] at e4
      cases e4
      exact ⟨r4, Same.refl _⟩
  · obtain ⟨c, ef⟩ := if_some ef
    cases ef
    refine .inl ⟨ρ, F, r, ρ', E, nd, e1, fun v H1 g F1 r1 E1 N1 S1 => ?_⟩
    obtain ⟨p, q, _⟩ := r1.cont E1 e2
    obtain ⟨a, vs, rfl, ta, rl⟩ := q
    refine ⟨a, rfl, ⟨vs, ta.seq⟩, k _ H1 F1 (fun H => SqF X.K H a vs ∧ RepL X.K H ds vs []) ⟨fun H H' ⟨x, y⟩ kp => ⟨SqF.keep x kp, RepL.keep _ _ _ y kp⟩, fun H n ⟨x, y⟩ hn => ?_, fun H n ⟨x, y⟩ hn => ?_, fun H n w H' d ⟨x, y⟩ yl hd => ?_⟩ ⟨ta, rl.nil_of c⟩ E1 (nodup3 N1).2.1 (S1.to fun b hb => .inl (List.mem_append_right _ hb))⟩
    · have hl : n < vs.length := by rw [y.length]; exact hn
      exact ⟨vs, vs[n], x.seq, List.getElem?_eq_getElem hl⟩
    · exact ⟨vs, x.seq, by rw [y.length]; exact hn⟩
    · obtain ⟨rfl, yl⟩ := yl
      have e3 := yl vs x.seq
      obtain ⟨d', e4, r4⟩ := y.each c n w e3
      rw [hd] at e4
      cases e4
      exact ⟨r4, Same.refl _⟩⟩
/-- the whole numbers from lo on, n of them -/
def iota (lo : Int) (n : Nat) : List D := (List.range n).map fun i => .int (lo + (i : Nat))
theorem iota_length (lo : Int) (n : Nat) : (iota lo n).length = n := by simp [iota]
theorem iota_get {lo : Int} {n i : Nat} {d : D} (e : (iota lo n)[i]? = some d) : d = .int (lo + (i : Nat)) := by
  unfold iota at e
  rw [List.getElem?_map] at e
  cases h : (List.range n)[i]? with
  | none => rw [h] at e; cases e
  | some j =>
    rw [h] at e
    cases e
    obtain ⟨hi, rfl⟩ := List.getElem?_eq_some_iff.mp h
    simp
theorem src_rng {K : PySem.W.Frag} (lo : Int) (n : Nat) : SrcOk K (Strong K) (Itr lo n) (iota lo n) fun _ => True where
  keep := fun _ _ _ _ => trivial
  go := fun _ i _ h => by rw [iota_length] at h; exact h
  stop := fun _ i _ h => by rw [iota_length] at h; exact h
  yld := fun H i x H' d _ y hd => by
    obtain ⟨rfl, rfl⟩ := y
    rw [iota_get hd]
    exact ⟨⟨rfl, rfl⟩, Same.refl _⟩
def okR (j : Int) : Bool := decide (j.natAbs < 2 ^ 62)
def fRng1 (fr : FA) : FI := fun ρ => (fr ρ).bind fun (rs, ρ1) => (conts ρ1 rs).bind fun ds => match ds with
  | [.int j] => if okR j = true then some (iota 0 j.toNat, ρ1) else none
  | _ => none
def fRng2 (fr : FA) : FI := fun ρ => (fr ρ).bind fun (rs, ρ1) => (conts ρ1 rs).bind fun ds => match ds with
  | [.int i, .int j] => if okR i = true ∧ okR j = true then some (iota i (j - i).toNat, ρ1) else none
  | _ => none
theorem okR_of {j : Int} (h : okR j = true) : -(2 ^ 62) ≤ j ∧ j < 2 ^ 62 := by
  have := of_decide_eq_true h
  omega
theorem di_rng1 {a : Expr} (hg : Gl X "range") (hm : X.mg "range" = none) (ha : DA X [a] fr) (hs : starEach [a] X.env = [(false, eval a X.env)] := by rfl) : DI X (Strong X.K) tg (.Call (.Name "range" p) [a] [] pos) (fRng1 fr) :=
  ⟨pi_weak (pi_range1 hg hm ha.pa hs) fun σ H R ⟨ρ, F, ds, ρ', E, nd, ef, k⟩ => by
    obtain ⟨⟨rs, ρ1⟩, e1, ef⟩ := Option.bind_eq_some_iff.mp ef
    obtain ⟨xs, e2, ef⟩ := Option.bind_eq_some_iff.mp ef
    split at ef
    · obtain ⟨c, ef⟩ := if_some ef
      cases ef
      refine ⟨ρ, F, rs, ρ', E, nd, e1, fun vs H' g F' r1 E1 N1 S1 => ?_⟩
      obtain ⟨hl, hi⟩ := r1.conts E1 e2
      match vs, hl with
      | [v], _ =>
        obtain ⟨q, r, _⟩ := hi 0 _ v rfl rfl
        obtain ⟨c1, c2⟩ := okR_of c
        exact ⟨_, by rw [r.1], c1, c2, k _ H' F' _ (src_rng 0 _) trivial E1 (nodup3 N1).2.1 (S1.to fun b hb => .inl (List.mem_append_right _ hb))⟩
    · cases ef⟩
theorem di_rng2 {a b : Expr} (hg : Gl X "range") (hm : X.mg "range" = none) (ha : DA X [a, b] fr) (hs : starEach [a, b] X.env = [(false, eval a X.env), (false, eval b X.env)] := by rfl) (hs2 : starEach [b] X.env = [(false, eval b X.env)] := by rfl) :
    DI X (Strong X.K) tg (.Call (.Name "range" p) [a, b] [] pos) (fRng2 fr) :=
  ⟨pi_weak (pi_range2 hg hm ha.pa hs hs2) fun σ H R ⟨ρ, F, ds, ρ', E, nd, ef, k⟩ => by
    obtain ⟨⟨rs, ρ1⟩, e1, ef⟩ := Option.bind_eq_some_iff.mp ef
    obtain ⟨xs, e2, ef⟩ := Option.bind_eq_some_iff.mp ef
    split at ef
    · obtain ⟨⟨c, c'⟩, ef⟩ := if_some ef
      cases ef
      refine ⟨ρ, F, rs, ρ', E, nd, e1, fun vs H' g F' r1 E1 N1 S1 => ?_⟩
      obtain ⟨hl, hi⟩ := r1.conts E1 e2
      match vs, hl with
      | [v, w], _ =>
        obtain ⟨q, r, _⟩ := hi 0 _ v rfl rfl
        obtain ⟨q', r', _⟩ := hi 1 _ w rfl rfl
        obtain ⟨c1, c2⟩ := okR_of c
        obtain ⟨c3, c4⟩ := okR_of c'
        exact ⟨_, _, by rw [r.1, r'.1], ⟨c1, c2, c3, c4⟩, k _ H' F' _ (src_rng _ _) trivial E1 (nodup3 N1).2.1 (S1.to fun b hb => .inl (List.mem_append_right _ hb))⟩
    · cases ef⟩
end
/-! ### a loop's target -/
def rdY (K : PySem.W.Frag) (Y : Yd) (W : List Nat) (fg : FG) : TG := fun v σ H Q => ∃ ρ F d ρ', EnvR K H ρ σ F ∧ Y H d v ∧ F.Nodup ∧ fg d ρ = some ρ' ∧
  ∀ σ' F', EnvR K H ρ' σ' F' → F'.Nodup → (∀ a, a ∈ F' → a ∈ F) → (σ'.length = σ.length ∧ ∀ j, j ∉ W → σ'[j]? = σ[j]?) → Q σ' H
structure DY (X : Cx) (Y : Yd) (W : List Nat) (t : Expr) (fg : FG) : Prop where
  pg : PG X t (rdY X.K Y W fg)
section
variable {X : Cx} {W W1 W2 : List Nat} {t : Expr} {fg : FG} {pos : Pos}
theorem DG.dy (h : DG X W t fg) : DY X (Strong X.K) W t fg := ⟨pg_weak h.pg fun v σ H Q ⟨ρ, F, d, ρ', E, r, nd, ef, k⟩ =>
  ⟨ρ, F, d, [], ρ', E, r, by simpa using nd, ef, fun σ' F' a b c d => k σ' F' a b (fun x hx => by simpa using c x hx) d⟩⟩
theorem dy_tup {es : List Expr} {k0 : Nat} {fs : FGs} {n : Nat} (hc : X.calm = true) (h : DGs X W es fs)
    (hn : (assignEach es X.env).length = n := by rfl) (hst : (assignEach es X.env).findIdx? (·.1) = none := by rfl) : DY X (Weak X.K) W (.Tuple es k0 pos) (fgTup n fs) :=
  ⟨pg_weak (pg_tup hc h.pgs hn hst) fun v σ H Q ⟨ρ, F, d, ρ', E, r, nd, ef, k⟩ => by
    obtain ⟨ds, a, vs, rfl, rfl, ta, rl⟩ := r
    obtain ⟨c, ef⟩ := by_cases_if (show (if ds.length = n then fs ds ρ else none) = some ρ' from ef)
    exact ⟨a, vs, rfl, ta, by rw [rl.length]; exact c, ρ, F, ds, [], ρ', E, rl, by simpa using nd, ef, fun σ' F' a b c d => k σ' F' a b (fun x hx => by simpa using c x hx) d⟩⟩
/-! ### for -/
def forD (fg : FG) (fb : FS) : List D → FS
  | [], ρ => some (.nx, ρ)
  | d :: ds, ρ => (fg d ρ).bind fun ρ1 => (fb ρ1).bind fun (o, ρ2) => match o with
    | .nx => forD fg fb ds ρ2
    | .ct => forD fg fb ds ρ2
    | .bk => some (.nx, ρ2)
    | .ret d => some (.ret d, ρ2)
def fFor (fi : FI) (fg : FG) (fb : FS) : FS := fun ρ => (fi ρ).bind fun (ds, ρ1) => forD fg fb ds ρ1
theorem ds_for {Y : Yd} {tg iter : Expr} {body : List Stmt} {fi : FI} {fb : FS} (hp : PassesOwn (model X.prog X.w) X.A X.env X.xe) (hc : X.calm = true) (hi : DI X Y tg iter fi) (hg : DY X Y W1 tg fg) (hb : DSs X W2 body fb)
    (hs : ∀ x, foldedSetIterable iter X.env x = pure x := by intro _; rfl) : DS X (W1 ++ W2) (.For tg iter body [] pos) (fFor fi fg fb) :=
  ⟨ps_weak (ps_for hp hc hi.pi hg.pg hb.pss hs) fun Dn σ H ⟨ρ, F, o, ρ', E, nd, ef, k⟩ => by
    obtain ⟨⟨ds, ρ1⟩, e1, ef⟩ := Option.bind_eq_some_iff.mp ef
    refine ⟨ρ, F, ds, ρ1, E, nd, e1, fun J H1 F1 Good so gd E1 N1 S1 => ?_⟩
    refine ⟨fun i m σi Hi => m = ds.length - i ∧ i ≤ ds.length ∧ ∃ ρi Fi, EnvR X.K Hi ρi σi Fi ∧ Fi.Nodup ∧ forD fg fb (ds.drop i) ρi = some (o, ρ') ∧ Good Hi ∧ Step H F Hi Fi ∧ ∀ j, j ∉ W1 ++ W2 → σi[j]? = σ[j]?,
      ⟨ds.length, by simp, Nat.zero_le _, ρ1, F1, E1, N1, ef, gd, S1, fun _ _ => rfl⟩, ?_⟩
    rintro i m σi Hi ⟨rfl, hi, ρi, Fi, Ei, Ni, efi, gi, Si, wi⟩
    by_cases hlt : i < ds.length
    · have hd : ds[i]? = some ds[i] := List.getElem?_eq_getElem hlt
      have e3 : ds.drop i = ds[i] :: ds.drop (i + 1) := List.drop_eq_getElem_cons hlt
      rw [e3] at efi
      obtain ⟨ρ2, e4, efi⟩ := Option.bind_eq_some_iff.mp efi
      obtain ⟨⟨o1, ρ3⟩, e5, efi⟩ := Option.bind_eq_some_iff.mp efi
      refine .inr ⟨so.go Hi i gi hlt, fun σ' H' => (i + 1 ≤ ds.length ∧ ∃ ρi Fi, EnvR X.K H' ρi σ' Fi ∧ Fi.Nodup ∧ forD fg fb (ds.drop (i + 1)) ρi = some (o, ρ') ∧ Good H' ∧ Step H F H' Fi ∧ ∀ j, j ∉ W1 ++ W2 → σ'[j]? = σ[j]?), fun σ' H' h => ⟨ds.length - (i + 1), by omega, rfl, h⟩, fun x H' yl => ?_⟩
      obtain ⟨yr, sm⟩ := so.yld Hi i x H' _ gi yl hd
      have Ei' := Ei.keep (Same.keep (l := Fi) sm)
      have S' : Step H F H' Fi := fun a u ea na => by
        obtain ⟨x1, x2⟩ := Si a u ea na
        exact ⟨sm a u x1, x2⟩
      have gd' : Good H' := so.keep _ _ gi (Same.keep sm)
      refine ⟨ρi, Fi, _, ρ2, Ei', yr, Ni, e4, fun σ2 F2 E2 N2 s2 w2 => ?_⟩
      have S2 : Step H F H' F2 := S'.to fun a ha => .inl (s2 a ha)
      have wj : ∀ j, j ∉ W1 ++ W2 → σ2[j]? = σ[j]? := fun j hj => by
        rw [w2.2 j fun z => hj (List.mem_append_left _ z), wi j hj]
      have next : ∀ σ' H2 F3, EnvR X.K H2 ρ3 σ' F3 → F3.Nodup → Step H' F2 H2 F3 → (∀ j, j ∉ W2 → σ'[j]? = σ2[j]?) → forD fg fb (ds.drop (i + 1)) ρ3 = some (o, ρ') →
          (i + 1 ≤ ds.length ∧ ∃ ρi Fi, EnvR X.K H2 ρi σ' Fi ∧ Fi.Nodup ∧ forD fg fb (ds.drop (i + 1)) ρi = some (o, ρ') ∧ Good H2 ∧ Step H F H2 Fi ∧ ∀ j, j ∉ W1 ++ W2 → σ'[j]? = σ[j]?) := fun σ' H2 F3 E3 N3 S3 w3 e6 =>
        ⟨hlt, ρ3, F3, E3, N3, e6, so.keep _ _ gd' (S3.keep E2.mut (by simp)), S2.trans S3, fun j hj => by rw [w3 j fun z => hj (List.mem_append_right _ z), wj j hj]⟩
      refine ⟨ρ2, F2, o1, ρ3, E2, N2, e5, ?_⟩
      cases o1 with
      | nx => exact fun σ' H2 F3 E3 N3 S3 w3 => next σ' H2 F3 E3 N3 S3 w3 efi
      | ct => exact fun σ' H2 F3 E3 N3 S3 w3 => next σ' H2 F3 E3 N3 S3 w3 efi
      | bk =>
        cases efi
        exact fun σ' H2 F3 E3 N3 S3 w3 => k σ' H2 F3 E3 N3 (S2.trans S3) fun j hj => by rw [w3 j fun z => hj (List.mem_append_right _ z), wj j hj]
      | ret d =>
        cases efi
        exact fun v σ' H2 g F3 r3 E3 N3 S3 w3 => k v σ' H2 g F3 r3 E3 N3 (S2.trans S3) fun j hj => by rw [w3 j fun z => hj (List.mem_append_right _ z), wj j hj]
    · have e3 : i = ds.length := by omega
      subst e3
      rw [List.drop_length] at efi
      cases efi
      exact .inl ⟨so.stop Hi _ gi (Nat.le_refl _), k σi Hi Fi Ei Ni Si wi⟩⟩
/-! ### while -/
def whileD (ft : FT) (fb : FS) : Nat → FS
  | 0, _ => none
  | n + 1, ρ => (ft ρ).bind fun (k, ρ1) => if k then (fb ρ1).bind fun (o, ρ2) => match o with
      | .nx => whileD ft fb n ρ2
      | .ct => whileD ft fb n ρ2
      | .bk => some (.nx, ρ2)
      | .ret d => some (.ret d, ρ2)
    else some (.nx, ρ1)
theorem ds_while {c : Expr} {body : List Stmt} {ft : FT} {fb : FS} (n : Nat) (hp : PassesOwn (model X.prog X.w) X.A X.env X.xe) (hc : DT X c ft) (hb : DSs X W body fb) : DS X W (.While c body [] pos) (whileD ft fb n) :=
  ⟨ps_weak (ps_while hp hc.pt hb.pss) fun Dn σ H ⟨ρ, F, o, ρ', E, nd, ef, k⟩ => by
    refine ⟨fun m σi Hi => ∃ ρi Fi, EnvR X.K Hi ρi σi Fi ∧ Fi.Nodup ∧ whileD ft fb m ρi = some (o, ρ') ∧ Step H F Hi Fi ∧ ∀ j, j ∉ W → σi[j]? = σ[j]?, ⟨n, ρ, F, E, nd, ef, Step.refl, fun _ _ => rfl⟩, ?_⟩
    rintro m σi Hi ⟨ρi, Fi, Ei, Ni, efi, Si, wi⟩
    cases m with
    | zero => cases efi
    | succ m =>
      obtain ⟨⟨k1, ρ1⟩, e1, efi⟩ := Option.bind_eq_some_iff.mp efi
      refine ⟨ρi, Fi, k1, ρ1, Ei, Ni, e1, fun H1 F1 E1 N1 S1 => ?_⟩
      have S' := Si.trans S1
      cases k1 with
      | true =>
        refine iteT ?_
        obtain ⟨⟨o1, ρ2⟩, e2, efi⟩ := Option.bind_eq_some_iff.mp efi
        refine ⟨fun σ' H' => ∃ ρi Fi, EnvR X.K H' ρi σ' Fi ∧ Fi.Nodup ∧ whileD ft fb m ρi = some (o, ρ') ∧ Step H F H' Fi ∧ ∀ j, j ∉ W → σ'[j]? = σ[j]?, fun σ' H' h => ⟨m, Nat.lt_succ_self m, h⟩, ρ1, F1, o1, ρ2, E1, N1, e2, ?_⟩
        cases o1 with
        | nx => exact fun σ' H2 F3 E3 N3 S3 w3 => ⟨ρ2, F3, E3, N3, efi, S'.trans S3, fun j hj => by rw [w3 j hj, wi j hj]⟩
        | ct => exact fun σ' H2 F3 E3 N3 S3 w3 => ⟨ρ2, F3, E3, N3, efi, S'.trans S3, fun j hj => by rw [w3 j hj, wi j hj]⟩
        | bk =>
          cases efi
          exact fun σ' H2 F3 E3 N3 S3 w3 => k σ' H2 F3 E3 N3 (S'.trans S3) fun j hj => by rw [w3 j hj, wi j hj]
        | ret d =>
          cases efi
          exact fun v σ' H2 g F3 r3 E3 N3 S3 w3 => k v σ' H2 g F3 r3 E3 N3 (S'.trans S3) fun j hj => by rw [w3 j hj, wi j hj]
      | false =>
        refine iteF ?_
        cases efi
        exact k σi H1 F1 E1 N1 S' wi⟩
end
end DL
/-! Comprehensions, slices. -/
namespace DL
open PySem PySem.Spec L2
def wipeF (ρ : Fm) : List Nat → Fm
  | [] => ρ
  | v :: vs => (wipeF ρ vs).set v none
section
variable {K : PySem.W.Frag} {H : Hp}
theorem EnvR.congr : ∀ {ρ : Fm} {σ σ' : L2.St} {F : List Addr}, EnvR K H ρ σ F → σ'.length = σ.length → (∀ (i : Nat) (d : D), ρ[i]? = some (some d) → σ'[i]? = σ[i]?) → EnvR K H ρ σ' F
  | [], σ, σ', F, h, hl, _ => by
    obtain ⟨rfl, rfl⟩ := h
    exact ⟨List.eq_nil_of_length_eq_zero hl, rfl⟩
  | none :: ρ, σ, σ', F, h, hl, e => by
    obtain ⟨o, τ, rfl, h⟩ := h
    match σ', hl with
    | o' :: τ', hl => exact ⟨o', τ', rfl, EnvR.congr h (by simpa using hl) fun i d q => by simpa using e (i + 1) d (by simpa using q)⟩
  | some d :: ρ, σ, σ', F, h, hl, e => by
    obtain ⟨v, τ, f, g, rfl, rfl, r, h⟩ := h
    match σ', hl with
    | o' :: τ', hl =>
      have e0 := e 0 d rfl
      simp at e0
      subst e0
      exact ⟨v, τ', f, g, rfl, rfl, r, EnvR.congr h (by simpa using hl) fun i d q => by simpa using e (i + 1) d (by simpa using q)⟩
theorem EnvR.wiped {ρ : Fm} {σ : L2.St} {F : List Addr} (h : EnvR K H ρ σ F) (nd : F.Nodup) : ∀ vs : List Nat, ∃ F', EnvR K H (wipeF ρ vs) (wipe σ vs) F' ∧ F'.Nodup ∧ ∀ a, a ∈ F' → a ∈ F
  | [] => ⟨F, h, nd, fun a ha => ha⟩
  | v :: vs => by
    obtain ⟨F', h1, n1, s1⟩ := EnvR.wiped h nd vs
    obtain ⟨A, f, B, rfl, h2⟩ := h1.drop (i := v)
    exact ⟨A ++ B, h2.other, (nodup3 (nodup_mid n1)).2.1, fun a ha => s1 a (by simp at ha ⊢; rcases ha with z | z <;> simp [z])⟩
theorem wipeF_get {ρ : Fm} {i : Nat} {d : D} : ∀ {vs : List Nat}, (wipeF ρ vs)[i]? = some (some d) → ρ[i]? = some (some d) ∧ i ∉ vs
  | [], h => ⟨h, by simp⟩
  | v :: vs, h => by
    unfold wipeF at h
    rw [List.getElem?_set] at h
    split at h
    · split at h <;> cases h
    · rename_i hv
      obtain ⟨h1, h2⟩ := wipeF_get h
      exact ⟨h1, by simp only [List.mem_cons, not_or]; exact ⟨fun z => hv z.symm, h2⟩⟩
theorem wipe_get {σ : L2.St} {i : Nat} : ∀ {vs : List Nat}, i ∉ vs → (wipe σ vs)[i]? = σ[i]?
  | [], _ => rfl
  | v :: vs, h => by
    simp only [List.mem_cons, not_or] at h
    unfold wipe
    rw [List.getElem?_set_ne (fun z => h.1 z.symm), wipe_get h.2]
theorem EnvR.unwiped {ρ : Fm} {σ : L2.St} {F : List Addr} {vs : List Nat} (h : EnvR K H ρ (wipe σ vs) F) (e : wipeF ρ vs = ρ) : EnvR K H ρ σ F :=
  h.congr (by rw [wipe_length]) fun i d q => by
    rw [← e] at q
    rw [wipe_get (wipeF_get q).2]
theorem wipe_same {σ σ' : L2.St} {W vs : List Nat} (hl : σ'.length = σ.length) (hw : ∀ j, j ∉ W → σ'[j]? = (wipe σ vs)[j]?) (hs : ∀ j, j ∈ W → j ∈ vs) : wipe σ' vs = wipe σ vs := by
  apply List.ext_getElem?
  intro i
  by_cases hi : i ∈ vs
  · have key : ∀ (τ : L2.St), i < τ.length → ∀ ws : List Nat, i ∈ ws → (wipe τ ws)[i]? = some none := by
      intro τ hτ ws
      induction ws with
      | nil => intro h; cases h
      | cons w ws ih =>
        intro h
        unfold wipe
        by_cases hw : w = i
        · subst hw
          rw [List.getElem?_set_self (by rw [wipe_length]; exact hτ)]
        · rw [List.getElem?_set_ne hw]
          exact ih ((List.mem_cons.mp h).resolve_left fun z => hw z.symm)
    by_cases hb : i < σ.length
    · rw [key σ hb vs hi, key σ' (by rw [hl]; exact hb) vs hi]
    · rw [List.getElem?_eq_none (by rw [wipe_length, hl]; omega), List.getElem?_eq_none (by rw [wipe_length]; omega)]
  · rw [wipe_get hi, hw i fun z => hi (hs i z)]
theorem wipeF_idem (ρ : Fm) (vs : List Nat) : wipeF (wipeF ρ vs) vs = wipeF ρ vs := by
  apply List.ext_getElem?
  intro i
  have len : ∀ (τ : Fm) (ws : List Nat), (wipeF τ ws).length = τ.length := by
    intro τ ws
    induction ws with
    | nil => rfl
    | cons w ws ih => unfold wipeF; rw [List.length_set, ih]
  have inn : ∀ (τ : Fm), i < τ.length → ∀ ws : List Nat, i ∈ ws → (wipeF τ ws)[i]? = some none := by
    intro τ hτ ws
    induction ws with
    | nil => intro h; cases h
    | cons w ws ih =>
      intro h
      unfold wipeF
      by_cases hw : w = i
      · subst hw
        rw [List.getElem?_set_self (by rw [len]; exact hτ)]
      · rw [List.getElem?_set_ne hw]
        exact ih ((List.mem_cons.mp h).resolve_left fun z => hw z.symm)
  have out : ∀ (τ : Fm) (ws : List Nat), i ∉ ws → (wipeF τ ws)[i]? = τ[i]? := by
    intro τ ws
    induction ws with
    | nil => intro _; rfl
    | cons w ws ih =>
      intro h
      simp only [List.mem_cons, not_or] at h
      unfold wipeF
      rw [List.getElem?_set_ne (fun z => h.1 z.symm), ih h.2]
  by_cases hi : i ∈ vs
  · by_cases hb : i < ρ.length
    · rw [inn _ (by rw [len]; exact hb) vs hi, inn _ hb vs hi]
    · rw [List.getElem?_eq_none (by rw [len, len]; omega), List.getElem?_eq_none (by rw [len]; omega)]
  · rw [out _ _ hi]
end
/-! ### [e for t in it if c] -/
def lcD (vs : List Nat) (fg : FG) (ft : FT) (fe : FE) : List D → Fm → Option (List D × Fm)
  | [], ρ => some ([], ρ)
  | d :: ds, ρ => (fg d ρ).bind fun ρ1 => (ft ρ1).bind fun (k, ρ2) => if k then
      (fe ρ2).bind fun (r, ρ3) => (take1 ρ3 r).bind fun (z, ρ4) => (lcD vs fg ft fe ds (wipeF ρ4 vs)).map fun (zs, ρ5) => (z :: zs, ρ5)
    else lcD vs fg ft fe ds (wipeF ρ2 vs)
def fLc (vs : List Nat) (fi : FI) (fg : FG) (ft : FT) (fe : FE) : FE := fun ρ => (fi ρ).bind fun (ds, ρ1) => (lcD vs fg ft fe ds (wipeF ρ1 vs)).bind fun (zs, ρ2) =>
  if zs.length ≤ sizeLine then some (.val (.lst zs), ρ2) else none
def fYes : FT := fun ρ => some (true, ρ)
structure DTs (X : Cx) (ifs : List Expr) (f : FT) : Prop where
  pt : PTs X ifs (rdT X.K f)
theorem dts_nil {X : Cx} : DTs X [] fYes := ⟨⟨fun pins s σ H Q I ⟨ρ, F, k0, ρ2, E, nd, ef, k⟩ => by
  cases ef
  exact pts_nil.run pins s σ H Q I (k H F E nd Step.refl)⟩⟩
theorem dts_one {X : Cx} {c : Expr} {f : FT} (h : DT X c f) : DTs X [c] f := ⟨pts_one h.pt⟩
section
variable {X : Cx} {Y : Yd} {elt tg iter : Expr} {ifs : List Expr} {scope : Scope} {own : List (Str × Nat)} {pos : Pos} {fi : FI} {fg : FG} {ft : FT} {fe : FE} {W : List Nat}
theorem lc_of {K : PySem.W.Frag} {vs : List Nat} (hw : ∀ j, j ∈ W → j ∈ vs) {σ : L2.St} {H : Hp} {Q : VK} (h : rdE K (fLc vs fi fg ft fe) σ H Q) : tLc (rdI K Y fi) (rdY K Y W fg) (rdT K ft) (rdE K fe) vs σ H Q := by
  obtain ⟨ρ, F, r0, ρ', E, nd, ef, k⟩ := h
  obtain ⟨⟨ds, ρ1⟩, e1, ef⟩ := Option.bind_eq_some_iff.mp ef
  obtain ⟨⟨zs, ρ2⟩, e2, ef⟩ := Option.bind_eq_some_iff.mp ef
  obtain ⟨cl, ef⟩ := if_some ef
  cases ef
  refine ⟨ρ, F, ds, ρ1, E, nd, e1, fun J H1 F1 Good so gd E1 N1 S1 D hD => ?_⟩
  obtain ⟨Fb, Eb, Nb, sb⟩ := E1.wiped N1 vs
  have sm := upd_same_of (o := .lst []) hD
  have nD : D ∉ Fb := fun z => by
    obtain ⟨u, eu⟩ := (E1.mut D (sb D z)).some_
    rw [hD] at eu
    cases eu
  refine ⟨fun i m Hi => m = ds.length - i ∧ i ≤ ds.length ∧ ∃ ρi Fi acc ys rest g, EnvR K Hi ρi (wipe σ vs) Fi ∧ Hi D = some (.lst acc) ∧ RepL K Hi ys acc g ∧ ((D :: g) ++ Fi).Nodup ∧ wipeF ρi vs = ρi ∧
      lcD vs fg ft fe (ds.drop i) ρi = some (rest, ρ') ∧ ys ++ rest = zs ∧ Good Hi ∧ Step H F Hi ((D :: g) ++ Fi),
    ⟨ds.length, by simp, Nat.zero_le _, wipeF ρ1 vs, Fb, [], [], zs, [], Eb.keep (Same.keep sm), upd_same, ⟨rfl, rfl⟩, List.nodup_cons.mpr ⟨by simpa using nD, by simpa using Nb⟩, wipeF_idem _ _, e2, rfl, so.keep _ _ gd (Same.keep sm), fun a u ea na => ?_⟩, ?_⟩
  · obtain ⟨x1, x2⟩ := S1 a u ea na
    refine ⟨sm a u x1, fun z => ?_⟩
    rcases List.mem_cons.mp z with rfl | z
    · rw [hD] at x1; cases x1
    · exact x2 (sb a (by simpa using z))
  rintro i m Hi ⟨rfl, hi, ρi, Fi, acc, ys, rest, g, Ei, hacc, rl, ndi, wi, efi, es, gi, Si⟩
  obtain ⟨n1, n2, n3⟩ := nodup3 ndi
  have mu : MutO (Hi D) := by rw [hacc]; trivial
  have mg : ∀ a ∈ D :: g, MutO (Hi a) := fun a ha => (List.mem_cons.mp ha).elim (fun z => z ▸ mu) (RepL.mut _ _ _ rl a)
  by_cases hlt : i < ds.length
  · have hd : ds[i]? = some ds[i] := List.getElem?_eq_getElem hlt
    have e3 : ds.drop i = ds[i] :: ds.drop (i + 1) := List.drop_eq_getElem_cons hlt
    rw [e3] at efi
    obtain ⟨ρa, e4, efi⟩ := Option.bind_eq_some_iff.mp efi
    obtain ⟨⟨kt, ρb⟩, e5, efi⟩ := Option.bind_eq_some_iff.mp efi
    refine .inr ⟨so.go Hi i gi hlt, fun H' => (i + 1 ≤ ds.length ∧ ∃ ρi Fi acc ys rest g, EnvR K H' ρi (wipe σ vs) Fi ∧ H' D = some (.lst acc) ∧ RepL K H' ys acc g ∧ ((D :: g) ++ Fi).Nodup ∧ wipeF ρi vs = ρi ∧
        lcD vs fg ft fe (ds.drop (i + 1)) ρi = some (rest, ρ') ∧ ys ++ rest = zs ∧ Good H' ∧ Step H F H' ((D :: g) ++ Fi)), fun H' h => ⟨ds.length - (i + 1), by omega, rfl, h⟩, fun x H' yl => ?_⟩
    obtain ⟨yr, sm'⟩ := so.yld Hi i x H' _ gi yl hd
    have Ei' := Ei.keep (Same.keep (l := Fi) sm')
    have gd' : Good H' := so.keep _ _ gi (Same.keep sm')
    refine ⟨ρi, Fi, _, ρa, Ei', yr, n2, e4, fun σ2 F2 E2 N2 s2 w2 => ?_⟩
    refine ⟨wipe_same (by rw [w2.1, wipe_length]) w2.2 hw, ?_⟩
    -- what is made so far stands by itself
    have step1 : Step H F H' ((D :: g) ++ Fi) := fun a u ea na => by
      obtain ⟨x1, x2⟩ := Si a u ea na
      exact ⟨sm' a u x1, x2⟩
    have d2 : ∀ a ∈ D :: g, a ∉ F2 := fun a ha hb => n3 a ha (s2 a hb)
    have acc2 : H' D = some (.lst acc) := sm' _ _ hacc
    have rl2 : RepL K H' ys acc g := RepL.keep _ _ _ rl (Same.keep sm')
    have mg2 : ∀ a ∈ D :: g, MutO (H' a) := fun a ha => (List.mem_cons.mp ha).elim (fun z => by rw [z, acc2]; trivial) (RepL.mut _ _ _ rl2 a)
    refine ⟨ρa, F2, kt, ρb, E2, N2, e5, fun H3 F3 E3 N3 S3 => ?_⟩
    have kp3 : Keep H' (D :: g) H3 := S3.keep E2.mut d2
    have d3 : ∀ a ∈ D :: g, a ∉ F3 := S3.apart mg2 d2
    have acc3 : H3 D = some (.lst acc) := kp3 D _ acc2 (.inr List.mem_cons_self)
    have rl3 : RepL K H3 ys acc g := RepL.keep _ _ _ rl2 (kp3.sub fun a ha => List.mem_cons_of_mem _ ha)
    have gd3 : Good H3 := so.keep _ _ gd' (S3.keep E2.mut (by simp))
    have step3 : Step H F H3 ((D :: g) ++ F3) := fun a u ea na => by
      obtain ⟨x1, x2⟩ := step1 a u ea na
      obtain ⟨x3, x4⟩ := S3 a u x1 fun z => x2 (List.mem_append_right _ (s2 a z))
      exact ⟨x3, fun z => (List.mem_append.mp z).elim (fun z => x2 (List.mem_append_left _ z)) x4⟩
    have wlen : ∀ {Hx : Hp} {ρx : Fm} {Fx : List Addr}, EnvR K Hx ρx σ2 Fx → Fx.Nodup → ∃ F', EnvR K Hx (wipeF ρx vs) (wipe σ vs) F' ∧ F'.Nodup ∧ ∀ a, a ∈ F' → a ∈ Fx := fun {Hx ρx Fx} Ex Nx => by
      obtain ⟨F', q1, q2, q3⟩ := Ex.wiped Nx vs
      rw [wipe_same (by rw [w2.1, wipe_length]) w2.2 hw] at q1
      exact ⟨F', q1, q2, q3⟩
    cases kt with
    | true =>
      refine iteT ?_
      obtain ⟨⟨r, ρ3⟩, e6, efi⟩ := Option.bind_eq_some_iff.mp efi
      obtain ⟨⟨z, ρ4⟩, e7, efi⟩ := Option.bind_eq_some_iff.mp efi
      obtain ⟨⟨zs', ρ5⟩, e8, efi⟩ := Option.map_eq_some_iff.mp efi
      cases efi
      refine ⟨ρb, F3, r, ρ3, E3, N3, e6, fun y H4 g4 F4 r4 E4 N4 S4 => ?_⟩
      obtain ⟨p4, F5, r5, E5, N5, s5⟩ := r4.take E4 N4 e7
      have S4' : Step H3 F3 H4 (p4 ++ F5) := S4.to fun a ha => .inl (s5 a ha)
      have kp4 : Keep H3 (D :: g) H4 := S4'.keep E3.mut d3
      have mg3 : ∀ a ∈ D :: g, MutO (H3 a) := fun a ha => (List.mem_cons.mp ha).elim (fun z => by rw [z, acc3]; trivial) (RepL.mut _ _ _ rl3 a)
      have d4 : ∀ a ∈ D :: g, a ∉ p4 ++ F5 := S4'.apart mg3 d3
      have acc4 : H4 D = some (.lst acc) := kp4 D _ acc3 (.inr List.mem_cons_self)
      have rl4 : RepL K H4 ys acc g := RepL.keep _ _ _ rl3 (kp4.sub fun a ha => List.mem_cons_of_mem _ ha)
      have mu4 : MutO (H4 D) := by rw [acc4]; trivial
      have gd4 : Good H4 := so.keep _ _ gd3 (S4'.keep E3.mut (by simp))
      obtain ⟨F6, E6, N6, s6⟩ := wlen E5 (nodup3 N5).2.1
      obtain ⟨nDg, ng⟩ := List.nodup_cons.mp n1
      obtain ⟨m1, m2, m3⟩ := nodup3 N5
      have nd' : ((D :: (g ++ p4)) ++ F6).Nodup := by
        have q1 : (g ++ p4).Nodup := nodup_of ng m1 fun a ha hb => d4 a (List.mem_cons_of_mem _ ha) (List.mem_append_left _ hb)
        refine nodup_of (List.nodup_cons.mpr ⟨fun z => ?_, q1⟩) N6 fun a ha hb => ?_
        · rcases List.mem_append.mp z with z | z
          · exact nDg z
          · exact d4 D List.mem_cons_self (List.mem_append_left _ z)
        · rcases List.mem_cons.mp ha with rfl | ha
          · exact d4 _ List.mem_cons_self (List.mem_append_right _ (s6 _ hb))
          · rcases List.mem_append.mp ha with ha | ha
            · exact d4 a (List.mem_cons_of_mem _ ha) (List.mem_append_right _ (s6 _ hb))
            · exact m3 a ha (s6 a hb)
      have nDp : D ∉ g ++ p4 := (List.nodup_cons.mp (nodup3 nd').1).1
      have kpD : ∀ {l : List Addr}, D ∉ l → Keep H4 l (upd H4 D (.lst (acc ++ [y]))) := fun hl => keep_upd mu4 hl
      refine ⟨acc, acc4, ?_, hlt, wipeF ρ4 vs, F6, acc ++ [y], ys ++ [z], zs', g ++ p4, E6.keep (kpD fun q => (nodup3 nd').2.2 D List.mem_cons_self q), upd_same, RepL.keep _ _ _ (rl4.append (RepL.of_one r5)) (kpD nDp), nd', wipeF_idem _ _, e8, by rw [← es, List.append_assoc]; rfl, so.keep _ _ gd4 (kpD (by simp)), fun a u ea na => ?_⟩
      · have := rl4.length
        rw [this]
        rw [← es, List.length_append, List.length_cons] at cl
        omega
      · obtain ⟨x1, x2⟩ := step3 a u ea na
        obtain ⟨x3, x4⟩ := S4' a u x1 fun q => x2 (List.mem_append_right _ q)
        have hb : a ≠ D := fun q => x2 (by simp [q])
        refine ⟨by rw [upd_ne hb]; exact x3, fun q => ?_⟩
        simp only [List.mem_append, List.mem_cons] at q x2 x4
        rcases q with (q | q | q) | q
        · exact hb q
        · exact x2 (.inl (.inr q))
        · exact x4 (.inl q)
        · exact x4 (.inr (s6 a q))
    | false =>
      refine iteF ?_
      obtain ⟨F6, E6, N6, s6⟩ := wlen E3 N3
      refine ⟨hlt, wipeF ρb vs, F6, acc, ys, rest, g, E6, acc3, rl3, nodup_of n1 N6 fun a ha hb => d3 a ha (s6 a hb), wipeF_idem _ _, efi, es, gd3, step3.to fun a ha => .inl ?_⟩
      rcases List.mem_append.mp ha with q | q
      · exact List.mem_append_left _ q
      · exact List.mem_append_right _ (s6 a q)
  · have e3 : i = ds.length := by omega
    subst e3
    rw [List.drop_length] at efi
    cases efi
    rw [List.append_nil] at es
    subst es
    exact .inl ⟨so.stop Hi _ gi (Nat.le_refl _), k (.ref D) Hi (D :: g) Fi ⟨D, acc, g, rfl, hacc, rfl, rl⟩ (Ei.unwiped wi) ndi Si⟩
theorem de_lc (hc : X.calm = true) (hN : X.N.Nodup) (hi : DI X Y tg iter fi) (ok : BlkOk X.N X.env.scope scope own)
    (hg : ∀ (s : Shared) (H : Hp) (C : Addr) (cl : List (Str × Addr)) (fp : List Addr), DY (X.blk s H scope (compEnvC scope cl C X.env) fp) Y W tg fg)
    (ht : ∀ (s : Shared) (H : Hp) (C : Addr) (cl : List (Str × Addr)) (fp : List Addr), DTs (X.blk s H scope (compEnvC scope cl C X.env) fp) ifs ft)
    (he : ∀ (s : Shared) (H : Hp) (C : Addr) (cl : List (Str × Addr)) (fp : List Addr), DE (X.blk s H scope (compEnvC scope cl C X.env) fp) elt fe)
    (hw : ∀ j, j ∈ W → j ∈ own.map (·.2)) (hs : ∀ x, foldedSetIterable iter X.env x = pure x := by intro _; rfl) :
    DE X (.ListComp elt [⟨tg, iter, ifs, 0⟩] scope pos) (fLc (own.map (·.2)) fi fg ft fe) :=
  ⟨pe_weak (pe_lc hc hN hi.pi ok (fun s H C cl fp => (hg s H C cl fp).pg) (fun s H C cl fp => (ht s H C cl fp).pt) (fun s H C cl fp => (he s H C cl fp).pe) hs) fun σ H Q h => lc_of hw h⟩
/-- y = [..], y a local -/
theorem ds_setLc {i : Nat} {y : Str} {py spos : Pos} (hc : X.calm = true) (hN : X.N.Nodup) (hy : X.N[i]? = some y) (hyl : X.env.scope.names.lookup y = some .local)
    (hsw : swapsWith (.ListComp elt [⟨tg, iter, ifs, 0⟩] scope pos) (some (.Name y py)) spos.line X.env = pure true) (hi : DI X Y tg iter fi) (ok : BlkOk X.N X.env.scope scope own)
    (hg : ∀ (s : Shared) (H : Hp) (C : Addr) (cl : List (Str × Addr)) (fp : List Addr), DY (X.blk s H scope (compEnvC scope cl C X.env) fp) Y W tg fg)
    (ht : ∀ (s : Shared) (H : Hp) (C : Addr) (cl : List (Str × Addr)) (fp : List Addr), DTs (X.blk s H scope (compEnvC scope cl C X.env) fp) ifs ft)
    (he : ∀ (s : Shared) (H : Hp) (C : Addr) (cl : List (Str × Addr)) (fp : List Addr), DE (X.blk s H scope (compEnvC scope cl C X.env) fp) elt fe)
    (hw : ∀ j, j ∈ W → j ∈ own.map (·.2)) (hs : ∀ x, foldedSetIterable iter X.env x = pure x := by intro _; rfl) :
    DS X [i] (.Assign [.Name y py] (.ListComp elt [⟨tg, iter, ifs, 0⟩] scope pos) spos) (fAsg (fLc (own.map (·.2)) fi fg ft fe) (fgName i)) :=
  ⟨ps_weak (ps_setLc hc hN hy hyl hsw hi.pi ok (fun s H C cl fp => (hg s H C cl fp).pg) (fun s H C cl fp => (ht s H C cl fp).pt) (fun s H C cl fp => (he s H C cl fp).pe) hs) fun Dn σ H h => by
    obtain ⟨ρ, F, r, ρ', E, nd, ef, k⟩ := asg_of h
    refine lc_of (Y := Y) (W := W) hw ⟨ρ, F, r, ρ', E, nd, ef, fun v H' g F' r1 E1 N1 S1 => ?_⟩
    obtain ⟨ρ2, F2, d, p, ρ3, E2, r2, N2, e3, k2⟩ := k v H' g F' r1 E1 N1 S1
    obtain ⟨c, rfl⟩ := if_some e3
    obtain ⟨F3, E3, N3, s3⟩ := E2.store r2 N2 c
    exact k2 _ F3 E3 N3 s3 ⟨List.length_set .., fun j hj => by rw [List.getElem?_set_ne]; intro z; exact hj (by simp [z])⟩⟩
end
/-! ### slices -/
def rdO (K : PySem.W.Frag) (f : Fm → Option (Option Int × Fm)) : TO := fun σ H Q => ∃ ρ F o ρ', EnvR K H ρ σ F ∧ F.Nodup ∧ f ρ = some (o, ρ') ∧
  ∀ H' F', EnvR K H' ρ' σ F' → F'.Nodup → Step H F H' F' → Q o H'
structure DO (X : Cx) (e : Option Expr) (f : Fm → Option (Option Int × Fm)) : Prop where
  po : PO X e (rdO X.K f)
theorem po_weak {X : Cx} {e : Option Expr} {t t' : TO} (h : PO X e t) (w : ∀ σ H Q, t' σ H Q → t σ H Q) : PO X e t' := ⟨by
  intro pins s σ H Q I q
  exact h.run pins s σ H Q I (w _ _ _ q)⟩
def foNone : Fm → Option (Option Int × Fm) := fun ρ => some (none, ρ)
def foSome (f : FE) : Fm → Option (Option Int × Fm) := fun ρ => (f ρ).bind fun (r, ρ1) => (cont ρ1 r).bind fun d => match d with
  | .int i => some (some i, ρ1)
  | _ => none
theorem do_none {X : Cx} : DO X none foNone := ⟨po_weak po_none fun σ H Q ⟨ρ, F, o, ρ', E, nd, ef, k⟩ => by
  cases ef
  exact k H F E nd Step.refl⟩
theorem do_some {X : Cx} {e : Expr} {f : FE} (h : DE X e f) : DO X (some e) (foSome f) := ⟨po_weak (po_some h.pe) fun σ H Q ⟨ρ, F, o, ρ', E, nd, ef, k⟩ => by
  obtain ⟨⟨r, ρ1⟩, e1, ef⟩ := Option.bind_eq_some_iff.mp ef
  obtain ⟨d, e2, ef⟩ := Option.bind_eq_some_iff.mp ef
  cases d <;> try cases ef
  refine ⟨ρ, F, r, _, E, nd, e1, fun v H' g F' r1 E1 N1 S1 => ?_⟩
  obtain ⟨p, q, _⟩ := r1.cont E1 e2
  exact ⟨_, q.1, k H' F' E1 (nodup3 N1).2.1 (S1.to fun a ha => .inl (List.mem_append_right _ ha))⟩⟩
def cut {α : Type} (xs : List α) (lo hi : Option Int) : List α := (xs.drop (HT.sIx xs.length 0 lo)).take (HT.sIx xs.length xs.length hi - HT.sIx xs.length 0 lo)
def dCut (d : D) (lo hi : Option Int) : Option D := match d with
  | .tup ds => if immL ds = true then some (.tup (cut ds lo hi)) else none
  | .lst ds => if immL ds = true then some (.lst (cut ds lo hi)) else none
  | .flst ds => if immL ds = true then some (.lst (cut ds lo hi)) else none
  | _ => none
def fCut (fe : FE) (fl fh : Fm → Option (Option Int × Fm)) : FE := fun ρ => (fe ρ).bind fun (r, ρ1) => (fl ρ1).bind fun (lo, ρ2) => (fh ρ2).bind fun (hi, ρ3) => (cont ρ3 r).bind fun d => (dCut d lo hi).map fun z => (.val z, ρ3)
theorem RepL.cut {K : PySem.W.Frag} {H : Hp} {ds : List D} {vs : List V} {p : List Addr} (r : RepL K H ds vs p) (c : immL ds = true) (lo hi : Option Int) : RepL K H (DL.cut ds lo hi) (cutV vs lo hi) [] := by
  unfold DL.cut cutV
  rw [r.length]
  generalize HT.sIx ds.length 0 lo = a
  generalize HT.sIx ds.length ds.length hi - a = b
  have hl := r.length
  refine RepL.of_each (by simp [hl]) fun i d v e1 e2 => ?_
  rw [List.getElem?_take] at e1 e2
  split at e1
  · rw [if_pos (by assumption)] at e2
    rw [List.getElem?_drop] at e1 e2
    obtain ⟨d', e3, r3⟩ := r.each c _ v e2
    rw [e1] at e3
    cases e3
    exact r3
  · cases e1
theorem cut_whole {α : Type} {ds : List α} {lo hi : Option Int} (h : whole ds.length lo hi) : cut ds lo hi = ds := by
  unfold cut
  rw [h.1, h.2]
  simp
theorem de_cut {X : Cx} {e : Expr} {lo hi : Option Expr} {fe : FE} {fl fh : Fm → Option (Option Int × Fm)} {p2 pos : Pos} (he : DE X e fe) (hl : DO X lo fl) (hh : DO X hi fh) : DE X (.Subscript e (.Slice lo hi none p2) pos) (fCut fe fl fh) :=
  ⟨pe_weak (pe_slice (sl_tupF.or sl_list) he.pe hl.po hh.po) fun σ H Q ⟨ρ, F, r', ρ', E, nd, ef, k⟩ => by
    obtain ⟨⟨r, ρ1⟩, e1, ef⟩ := Option.bind_eq_some_iff.mp ef
    obtain ⟨⟨l, ρ2⟩, e2, ef⟩ := Option.bind_eq_some_iff.mp ef
    obtain ⟨⟨h, ρ3⟩, e3, ef⟩ := Option.bind_eq_some_iff.mp ef
    obtain ⟨d, e4, ef⟩ := Option.bind_eq_some_iff.mp ef
    obtain ⟨z, e5, ef⟩ := Option.map_eq_some_iff.mp ef
    cases ef
    refine ⟨ρ, F, r, ρ1, E, nd, e1, fun v H1 g F1 r1 E1 N1 S1 => ⟨ρ1, F1, l, ρ2, E1, (nodup3 N1).2.1, e2, fun H2 F2 E2 N2 S2 => ⟨ρ2, F2, h, ρ', E2, N2, e3, fun H3 F3 E3 N3 S3 => ?_⟩⟩⟩
    obtain ⟨n1, n2, n3⟩ := nodup3 N1
    have S23 := S2.trans S3
    have r3 := r1.keep (S23.keep E1.mut n3)
    have S4 : Step H F H3 F3 := fun a u ea na => by
      obtain ⟨x1, x2⟩ := S1 a u ea na
      exact S23 a u x1 fun q => x2 (List.mem_append_right _ q)
    obtain ⟨p, q, _⟩ := r3.cont E3 e4
    have T : Tells X.K H3 z Q := fun u H' hh ru nh fr sm => k u H' hh F3 ru (E3.keep (Same.keep sm)) (nodup_fresh E3 N3 nh fr) (S4.fresh sm fr fun a ha => ha)
    cases d <;> try cases e5
    · obtain ⟨c, rfl⟩ := if_some e5
      obtain ⟨a, vs, rfl, ta, rl⟩ := q
      have rc := rl.cut c l h
      refine .inl ⟨a, vs, rfl, ta.sq, fun hw => ?_, fun _ => T.tup rc⟩
      have : cut (α := D) _ l h = _ := cut_whole (rl.length ▸ hw)
      exact T.flat ⟨a, vs, rfl, ta, by rw [this]; exact rl.nil_of c⟩
    · obtain ⟨c, rfl⟩ := if_some e5
      obtain ⟨a, vs, g', rfl, ta, rl, _⟩ := Rep.sqL q rfl
      exact .inr ⟨a, vs, rfl, ta, fun p hp => T.list (rl.cut c l h) hp⟩
    · obtain ⟨c, rfl⟩ := if_some e5
      obtain ⟨a, vs, g', rfl, ta, rl, _⟩ := Rep.sqL q rfl
      exact .inr ⟨a, vs, rfl, ta, fun p hp => T.list (rl.cut c l h) hp⟩⟩
end DL
/-! repr, displays of dicts, list(range); defs and their calls; the end of a law. -/
namespace DL
open PySem PySem.Spec L2
/-! ### repr -/
/-! ### list(range(..)) -/
section
variable {X : Cx} {a b e : Expr} {fa fb : FE} {p p2 pos pos2 : Pos}
theorem rgV_rep {K : PySem.W.Frag} {H : Hp} (i j : Int) : RepL K H (iota i (j - i).toNat) (rgV i j) [] := by
  refine RepL.of_each (by simp [rgV, iota]) fun n d v e1 e2 => ?_
  rw [iota_get e1]
  unfold rgV at e2
  rw [List.getElem?_map] at e2
  cases h : (List.range (j - i).toNat)[n]? with
  | none => rw [h] at e2; cases e2
  | some m =>
    rw [h] at e2
    cases e2
    obtain ⟨_, rfl⟩ := List.getElem?_eq_some_iff.mp h
    exact ⟨by simp, rfl⟩
def fLstRg1 (fa : FE) : FE := fun ρ => (fa ρ).bind fun (r, ρ1) => (cont ρ1 r).bind fun d => match d with
  | .int j => if okR j = true ∧ j.toNat ≤ 2 ^ 24 then some (.val (.lst (iota 0 j.toNat)), ρ1) else none
  | _ => none
theorem de_lstRg1 (hc : X.calm = true) (hg : Gl X "list") (hm : X.mg "list" = none) (hg2 : Gl X "range") (hm2 : X.mg "range" = none) (ha : DE X a fa)
    (na : starEach [Expr.Call (.Name "range" p2) [a] [] pos2] X.env = (false, eval (Expr.Call (.Name "range" p2) [a] [] pos2) X.env) :: starEach [] X.env := by rfl)
    (nb : starEach [a] X.env = (false, eval a X.env) :: starEach [] X.env := by rfl) : DE X (.Call (.Name "list" p) [.Call (.Name "range" p2) [a] [] pos2] [] pos) (fLstRg1 fa) :=
  ⟨pe_weak (pe_listRg hc hg hm (prg_1 hg2 hm2 ha.pe nb) na) fun σ H Q ⟨ρ, F, r', ρ', E, nd, ef, k⟩ => by
    obtain ⟨⟨r, ρ1⟩, e1, ef⟩ := Option.bind_eq_some_iff.mp ef
    obtain ⟨d, e2, ef⟩ := Option.bind_eq_some_iff.mp ef
    cases d <;> try cases ef
    rename_i j
    obtain ⟨⟨c1, c2⟩, ef⟩ := if_some ef
    cases ef
    refine ⟨ρ, F, r, ρ', E, nd, e1, fun v H' g F' r1 E1 N1 S1 => ?_⟩
    obtain ⟨pp, q, _⟩ := r1.cont E1 e2
    obtain ⟨b1, b2⟩ := okR_of c1
    refine ⟨j, q.1, ⟨by decide, by decide, b1, b2, by simpa using c2⟩, fun t ht => ?_⟩
    have T : Tells X.K H' (.lst (iota 0 j.toNat)) Q := fun u H2 hh ru nh fr sm => k u H2 hh F' ru (E1.keep (Same.keep sm)) (nodup_fresh E1 (nodup3 N1).2.1 nh fr) (S1.fresh sm fr fun a ha => List.mem_append_right _ ha)
    have := rgV_rep (K := X.K) (H := H') 0 j
    rw [Int.sub_zero] at this
    exact T.list this ht⟩
end
/-! ### {k: v, ..} -/
def pairUp : List D → Option (List (Key × D))
  | [] => some []
  | k :: d :: r => (keyOf k).bind fun kk => (pairUp r).map fun kvs => (kk, d) :: kvs
  | _ => none
def fDic (fr : FA) : FE := fun ρ => (fr ρ).bind fun (rs, ρ1) => (takes ρ1 rs).bind fun (ds, ρ2) => (pairUp ds).bind fun kvs => if (kvs.map (·.1)).Nodup ∧ kvs.length ≤ 15 then some (.val (.dic kvs), ρ2) else none
end DL
/-! A def by its meaning; its call; the end of a law. -/
namespace DL
open PySem PySem.Spec L2
open PyProof.Rows (envOfC AllBare)
/-- data in, what is told out, and what the arguments are then (none: not known) -/
abbrev Den := List D → Option (D × Fm)
def spD (K : PySem.W.Frag) (den : Den) (vs : List V) (H : Hp) (Q : VK) : Prop := ∃ ds F r ρ', RepL K H ds vs F ∧ F.Nodup ∧ den ds = some (r, ρ') ∧
  ∀ v H' g F', Rep K H' r v g → EnvR K H' ρ' (vs.map some) F' → (g ++ F').Nodup → Step H F H' (g ++ F') → Q v H'
structure FnD (P : Program) (w : World) (K : PySem.W.Frag) (mg : Str → Option Value) (base : Heap) (k : Nat) (f : Addr) (fd : FuncData) (ps : List Str) (den : Den) : Prop where
  run : ∀ (A : Around) (outer : List PySem.Env) (s : Shared) (H : Hp) (args : PySem.Args) (us : List Value) (vs : List V) (Q : VK), A.guards = some [] → Room k A →
    Env0 P w K mg base A outer s H → BindsTo s fd args (ps.zip us) → Vals vs us → vs.length = ps.length → spD K den vs H Q →
    codeAny (model P w) A (.call (.ref f) args) (CR CX0 outer P w H s Q E0) s
theorem FnD.mono {P : Program} {w : World} {K : PySem.W.Frag} {mg : Str → Option Value} {base : Heap} {j k : Nat} {f : Addr} {fd : FuncData} {ps : List Str} {den : Den} (F : FnD P w K mg base j f fd ps den) (h : j ≤ k) : FnD P w K mg base k f fd ps den :=
  ⟨fun A outer s H args us vs Q hg hr => F.run A outer s H args us vs Q hg (hr.mono h)⟩
/-- the parameters at the end: such as were not stored -/
def params (W : List Nat) (n : Nat) (ρ : Fm) : Fm := (List.range n).map fun i => if i ∈ W then none else slot ρ i
def denOf (N n : Nat) (W : List Nat) (fb : FS) : Den := fun ds => (fb (ds.map some ++ List.replicate (N - ds.length) none)).bind fun (o, ρ) => match o with
  | .ret d => some (d, params W n ρ)
  | .nx => some (.non, params W n ρ)
  | _ => none
section
variable {K : PySem.W.Frag} {H : Hp}
theorem EnvR.of_vals : ∀ {ds : List D} {vs : List V} {F : List Addr} (n : Nat), RepL K H ds vs F → EnvR K H (ds.map some ++ List.replicate n none) (vs.map some ++ List.replicate n none) F
  | [], vs, F, n, r => by
    obtain ⟨rfl, rfl⟩ := r
    induction n with
    | zero => exact ⟨rfl, rfl⟩
    | succ n ih => exact ⟨none, _, rfl, ih⟩
  | d :: ds, vs, F, n, r => by
    obtain ⟨v, vs', f1, f2, rfl, rfl, r1, r2⟩ := r
    exact ⟨v, _, f1, f2, rfl, rfl, r1, EnvR.of_vals n r2⟩
/-- the first slots alone -/
theorem EnvR.first {σ : L2.St} {ρ : Fm} {F : List Addr} {vs : List V} {W : List Nat} (E : EnvR K H ρ σ F) (nd : F.Nodup) (hv : ∀ i, i ∉ W → i < vs.length → σ[i]? = some (vs[i]?)) :
    ∃ F', EnvR K H (params W vs.length ρ) (vs.map some) F' ∧ F'.Nodup ∧ ∀ a, a ∈ F' → a ∈ F := by
  -- slot by slot
  have gen : ∀ (n : Nat), n ≤ vs.length → ∀ (τ : Fm) (G : List Addr), EnvR K H τ σ G → G.Nodup → (∀ i d, slot τ i = some d → slot ρ i = some d) → (∀ i, n ≤ i → i ∉ W → slot τ i = slot ρ i) →
      ∃ F', EnvR K H ((List.range (vs.length - n)).map fun i => if (i + n) ∈ W then none else slot ρ (i + n)) ((vs.drop n).map some) F' ∧ F'.Nodup ∧ ∀ a, a ∈ F' → a ∈ G := by
    intro n hn
    generalize hm : vs.length - n = m
    induction m generalizing n with
    | zero =>
      intro τ G Eτ nG _ _
      have : vs.drop n = [] := List.drop_eq_nil_of_le (by omega)
      rw [this]
      exact ⟨[], ⟨rfl, rfl⟩, List.nodup_nil, fun a ha => by cases ha⟩
    | succ m ih =>
      intro τ G Eτ nG h1 h2
      have hlt : n < vs.length := by omega
      have hd : vs.drop n = vs[n] :: vs.drop (n + 1) := List.drop_eq_getElem_cons hlt
      rw [hd, List.range_succ_eq_map, List.map_cons, List.map_map, List.map_cons]
      have fe : ((fun i => if (i + n) ∈ W then none else slot ρ (i + n)) ∘ Nat.succ) = fun i => if (i + (n + 1)) ∈ W then none else slot ρ (i + (n + 1)) := by
        funext i
        have : Nat.succ i + n = i + (n + 1) := by omega
        simp only [Function.comp, this]
      rw [fe]
      by_cases hW : (0 + n) ∈ W ∨ slot ρ (0 + n) = none
      · have e0 : (if (0 + n) ∈ W then none else slot ρ (0 + n)) = none := by
          rcases hW with h | h
          · rw [if_pos h]
          · rw [h]; split <;> rfl
        rw [e0]
        obtain ⟨F', q1, q2, q3⟩ := ih (n + 1) (by omega) (by omega) τ G Eτ nG h1 fun i hi => h2 i (by omega)
        exact ⟨F', ⟨_, _, rfl, q1⟩, q2, q3⟩
      · rw [not_or] at hW
        rw [Nat.zero_add] at hW ⊢
        obtain ⟨d, ed⟩ := Option.ne_none_iff_exists'.mp hW.2
        rw [if_neg hW.1, ed]
        have et : slot τ n = some d := by rw [h2 n (Nat.le_refl _) hW.1, ed]
        obtain ⟨v, G1, f, G3, e1, rfl, r1, E1⟩ := Eτ.at (slot_some et)
        have ev := hv n hW.1 hlt
        rw [e1] at ev
        have ev' : v = vs[n] := by
          have := Option.some.inj ev
          rw [List.getElem?_eq_getElem hlt] at this
          exact Option.some.inj this
        subst ev'
        have nd' := nodup_mid nG
        obtain ⟨m1, m2, m3⟩ := nodup3 nd'
        obtain ⟨F', q1, q2, q3⟩ := ih (n + 1) (by omega) (by omega) (τ.set n none) (G1 ++ G3) E1 m2 (fun i d' e => h1 i d' (by
          have e' := slot_some e
          rw [List.getElem?_set] at e'
          unfold slot
          split at e'
          · split at e' <;> cases e'
          · rw [e'])) fun i hi hw => by
            rw [← h2 i (by omega) hw]
            unfold slot
            rw [List.getElem?_set_ne (by omega)]
        refine ⟨f ++ F', ⟨vs[n], _, f, F', rfl, rfl, r1, q1⟩, nodup_of m1 q2 fun a ha hb => m3 a ha (q3 a hb), fun a ha => ?_⟩
        rcases List.mem_append.mp ha with z | z
        · simp [z]
        · have := q3 a z
          simp at this ⊢
          rcases this with y | y <;> simp [y]
  obtain ⟨F', q1, q2, q3⟩ := gen 0 (Nat.zero_le _) ρ F E nd (fun _ _ e => e) fun _ _ _ => rfl
  exact ⟨F', by simpa [params] using q1, q2, q3⟩
end
/-! ### a def of the text by its body
Three facts, then the rule: what the base holds is there at the call; a body's end is the call's end; the body alone, from its parameters on. -/
section
variable {P : Program} {w : World} {K : PySem.W.Frag} {mg : Str → Option Value} {base : Heap} {A : Around} {outer : List PySem.Env} {s : Shared} {H : Hp}
theorem at_call (e : Env0 P w K mg base A outer s H) : K.In s.heap ∧ s.heap.NoLimit :=
  have up : ∀ c u, base.get? c = some u → s.heap.get? c = some u := fun c u q => And.left (e.bs c u q)
  ⟨e.mod.kin.keeps up, e.mod.nolimit.keeps up⟩
/-- the context of a def's body at a call -/
abbrev ctx (P : Program) (w : World) (K : PySem.W.Frag) (mg : Str → Option Value) (base : Heap) (N : List Str) (qual : Str) (sc : Scope) (f : Addr) (cdv : Value) (A : Around) (outer : List PySem.Env) (s : Shared) (H : Hp) : Cx := cxOf CX0 P w K mg base N qual sc f cdv A outer s H E0
theorem body_left {N : List Str} {qual : Str} {sc : Scope} {f : Addr} {cdv : Value} {Q : VK} : ∀ (o : Flow) (t : Shared), SP (ctx P w K mg base N qual sc f cdv A outer s H) [] { nx := fun _ G => Q .non G, rt := Q } o t →
    match o with
    | .next => CE outer P w H s Q .none t
    | .ret u => CE outer P w H s Q u t
    | _ => False
  | .next, t, ⟨_, G, J, q⟩ => ⟨V.non, G, J.os, J.bare, J.base, J.hok, rfl, q⟩
  | .ret _, t, ⟨x, _, G, J, rx, q⟩ => ⟨x, G, J.os, J.bare, J.base, J.hok, rx, q⟩
  | .brk, _, ⟨_, _, _, no⟩ => no
  | .cont, _, ⟨_, _, _, no⟩ => no
/-- slots that the body stores nothing into hold the arguments at the end -/
theorem args_stay {N : List Str} {vs : List V} {W : List Nat} {τ : L2.St} (h : ∀ j, j ∉ W → τ[j]? = (L2.start N vs)[j]?) (i : Nat) (hi : i ∉ W) (hlt : i < vs.length) : τ[i]? = some (vs[i]?) := by
  have e : (L2.start N vs)[i]? = some (vs[i]?) := by
    simp [L2.start, List.getElem?_append_left, hlt]
  exact (h i hi).trans e
/-- the body alone: what the meaning tells comes about -/
theorem body_does {X : Cx} {body : List Stmt} {fb : FS} {W : List Nat} {N : List Str} {n : Nat} {vs : List V} {Q : VK} {t : Shared} (hb : PSs X body (rdS X.K W fb)) (I : Inv X [] (L2.start N vs) H t) (hl : vs.length = n) (sp : spD X.K (denOf N.length n W fb) vs H Q) :
    wpAny (model X.prog X.w) X.A (execs body X.env) (SP X [] { nx := fun _ G => Q .non G, rt := Q }) X.xe t := by
  subst hl
  obtain ⟨ds, G, r, out, rl, nd, told, k⟩ := sp
  obtain ⟨⟨o, ρ1⟩, run, end1⟩ := Option.bind_eq_some_iff.mp told
  have E : EnvR X.K H (ds.map some ++ List.replicate (N.length - ds.length) none) (L2.start N vs) G := by
    have := EnvR.of_vals (N.length - ds.length) rl
    rwa [← rl.length] at this ⊢
  refine hb.run [] t _ H _ I ⟨_, G, o, ρ1, E, nd, run, ?_⟩
  match o, end1 with
  | .nx, rfl =>
    intro τ H' F' E' N' S' still
    obtain ⟨F2, q1, q2, q3⟩ := E'.first N' (args_stay still)
    exact k .non H' [] F2 ⟨rfl, rfl⟩ q1 q2 (S'.to fun a ha => .inl (q3 a ha))
  | .ret d, rfl =>
    intro v τ H' g F' rv E' N' S' still
    have ⟨n1, n2, n3⟩ := nodup3 N'
    obtain ⟨F2, q1, q2, q3⟩ := E'.first n2 (args_stay still)
    refine k v H' g F2 rv q1 (nodup_of n1 q2 fun a ha hb => n3 a ha (q3 a hb)) (S'.to fun a ha => .inl ?_)
    simp only [List.mem_append] at ha ⊢
    exact ha.imp id (q3 a)
end
theorem fnD_of {P : Program} {w : World} {K : PySem.W.Frag} {mg : Str → Option Value} {base : Heap} {k : Nat} {f : Addr} {fd : FuncData} {x qual : Str} {st : Stmt} {N ps : List Str} {W : List Nat} {fb : FS} (F : Fun K x qual st f fd) (S : FnScope N ps (defScope st))
    (hbody : ∀ (cdv : Value) (A : Around) (outer : List PySem.Env) (s : Shared) (H : Hp), A.guards = some [] → Room k (A.deeper (envOfC qual (defScope st) s.heap.objs.size f cdv)) →
      DSs (ctx P w K mg base N qual (defScope st) f cdv A outer s H).nox W (defBody st) fb) : FnD P w K mg base (k + 1) f fd ps (denOf N.length ps.length W fb) := by
  obtain ⟨_, _, _, _, _, _, cd, _, _, rfl, here, code⟩ := F.ex
  constructor
  intro A outer s H args us vs Q guards room e binds rel len sp
  obtain ⟨inK, free⟩ := at_call e
  have names (y : Str × Value) (hy : y ∈ ps.zip us) := (S.par y.1 (List.of_mem_zip (b := y.2) hy).1).imp_right fun c => And.intro c (PySem.W.cellsFrom_some (defScope st).names (s.heap.objs.size + 1) [] (Or.inl c))
  apply codeAny_call_function room.depth (inK _ _ here) rfl S.co S.gen rfl (PySem.W.codeRec_of inK code)
  apply binds
  apply wpAny_newFunctionEnv_cells S.kind names
  rintro _ rfl t call
  have I := inv_start (CX := CX0) (w := w) (E := E0) S room.hd e len rel call
  refine ⟨free.keeps call.toInCall.keep, codeAny_func (wpAny_mono (body_does (hbody cd A outer s H guards (room.deeper _)).pss.nox I len sp) (fun o t' h => ?_) fun _ _ h => h)⟩
  have := body_left o t' h
  cases o <;> first | exact this | exact False.elim this
/-! ### calls -/
/-- what the slots hold again, behind the call -/
def giveBack : List R → List D → Fm → Fm → Fm
  | .var i :: rs, d :: ds, o :: os, ρ => giveBack rs ds os (if imm d then ρ else ρ.set i o)
  | .val _ :: rs, _ :: ds, _ :: os, ρ => giveBack rs ds os ρ
  | _, _, _, ρ => ρ
def fCallD (den : Den) (fr : FA) : FE := fun ρ => (fr ρ).bind fun (rs, ρ1) => (takes ρ1 rs).bind fun (ds, ρ2) => (den ds).map fun (r, ρp) => (.val r, giveBack rs ds ρp ρ2)
section
variable {K : PySem.W.Frag} {H : Hp} {σ : L2.St}
theorem give : ∀ {rs : List R} {vs : List V} {g : List Addr} {ds : List D} {os ρ : Fm} {F Fp : List Addr} {H0 : Hp}, RepRs K H0 σ rs vs g → EnvR K H os (vs.map some) Fp → EnvR K H ρ σ F → (Fp ++ F).Nodup →
    ∃ F', EnvR K H (giveBack rs ds os ρ) σ F' ∧ F'.Nodup ∧ ∀ a, a ∈ F' → a ∈ Fp ++ F
  | [], vs, g, ds, os, ρ, F, Fp, H0, r, Eo, E, nd => ⟨F, by unfold giveBack; exact E, (nodup3 nd).2.1, fun a ha => List.mem_append_right _ ha⟩
  | x :: rs, vs, g, [], os, ρ, F, Fp, H0, r, Eo, E, nd => ⟨F, by cases x <;> (unfold giveBack; exact E), (nodup3 nd).2.1, fun a ha => List.mem_append_right _ ha⟩
  | x :: rs, vs, g, d :: ds, [], ρ, F, Fp, H0, r, Eo, E, nd => ⟨F, by cases x <;> (unfold giveBack; exact E), (nodup3 nd).2.1, fun a ha => List.mem_append_right _ ha⟩
  | .val d0 :: rs, vs, g, d :: ds, o :: os, ρ, F, Fp, H0, r, Eo, E, nd => by
    obtain ⟨v, vs', g1, g2, rfl, rfl, r1, r2⟩ := r
    have Eo' : ∃ G, EnvR K H os (vs'.map some) G ∧ G.Nodup ∧ ∀ a ∈ G, a ∈ Fp := by
      obtain ⟨n1, n2, n3⟩ := nodup3 nd
      cases o with
      | none => obtain ⟨o', τ, e, h⟩ := Eo; injection e with _ e; subst e; exact ⟨Fp, h, n1, fun a ha => ha⟩
      | some d' => obtain ⟨w, τ, f, f', e, rfl, _, h⟩ := Eo; injection e with _ e; subst e; exact ⟨f', h, (nodup3 n1).2.1, fun a ha => List.mem_append_right _ ha⟩
    obtain ⟨G, EG, nG, sG⟩ := Eo'
    obtain ⟨n1, n2, n3⟩ := nodup3 nd
    obtain ⟨F', q1, q2, q3⟩ := give (ds := ds) r2 EG E (nodup_of nG n2 fun a ha => n3 a (sG a ha))
    exact ⟨F', by unfold giveBack; exact q1, q2, fun a ha => by
      rcases List.mem_append.mp (q3 a ha) with z | z
      · exact List.mem_append_left _ (sG a z)
      · exact List.mem_append_right _ z⟩
  | .var i :: rs, vs, g, d :: ds, o :: os, ρ, F, Fp, H0, r, Eo, E, nd => by
    obtain ⟨v, vs', g1, g2, rfl, rfl, r1, r2⟩ := r
    obtain ⟨n1, n2, n3⟩ := nodup3 nd
    obtain ⟨hv, _⟩ := r1
    -- the rest of the arguments, and this one
    have key : ∀ (ρ' : Fm) (Fn G : List Addr), EnvR K H os (vs'.map some) G → EnvR K H ρ' σ Fn → (G ++ Fn).Nodup → (∀ a, a ∈ G ++ Fn → a ∈ Fp ++ F) → (if imm d then ρ else ρ.set i o) = ρ' →
        ∃ F', EnvR K H (giveBack (.var i :: rs) (d :: ds) (o :: os) ρ) σ F' ∧ F'.Nodup ∧ ∀ a, a ∈ F' → a ∈ Fp ++ F := fun ρ' Fn G EG En nn sub eq => by
      obtain ⟨F', q1, q2, q3⟩ := give (ds := ds) r2 EG En nn
      exact ⟨F', by unfold giveBack; rw [eq]; exact q1, q2, fun a ha => sub a (q3 a ha)⟩
    by_cases hi : imm d = true
    · cases o with
      | none =>
        obtain ⟨o', τ, e, h⟩ := Eo; injection e with _ e; subst e
        exact key ρ F Fp h E nd (fun a ha => ha) (by rw [if_pos hi])
      | some d' =>
        obtain ⟨w, τ, f, f', e, rfl, _, h⟩ := Eo; injection e with _ e; subst e
        exact key ρ F f' h E (nodup_of (nodup3 n1).2.1 n2 fun a ha => n3 a (List.mem_append_right _ ha)) (fun a ha => by simp at ha ⊢; rcases ha with z | z <;> simp [z]) (by rw [if_pos hi])
    · cases o with
      | none =>
        obtain ⟨o', τ, e, h⟩ := Eo; injection e with _ e; subst e
        obtain ⟨A, f, B, rfl, E1⟩ := E.drop (i := i)
        refine key _ (A ++ B) Fp h E1 (nodup_of n1 (nodup3 (nodup_mid n2)).2.1 fun a ha hb => n3 a ha ?_) (fun a ha => ?_) (by rw [if_neg hi])
        · simp at hb ⊢; rcases hb with z | z <;> simp [z]
        · simp at ha ⊢; rcases ha with z | z | z <;> simp [z]
      | some d' =>
        obtain ⟨w, τ, f, f', e, rfl, rw', h⟩ := Eo
        injection e with e0 e
        subst e
        cases e0
        obtain ⟨m1, m2, m3⟩ := nodup3 n1
        by_cases hlt : i < ρ.length
        · obtain ⟨A, fo, B, rfl, E1⟩ := E.drop (i := i)
          have nAB : (A ++ B).Nodup := (nodup3 (nodup_mid n2)).2.1
          obtain ⟨A', B', eab, E2⟩ := E1.put hlt hv rw'
          have nn : (f ++ (A' ++ B')).Nodup := nodup_of m1 (by rw [← eab]; exact nAB) fun a ha hb => n3 a (List.mem_append_left _ ha) (by rw [← eab] at hb; simp at hb ⊢; rcases hb with z | z <;> simp [z])
          refine key _ (A' ++ (f ++ B')) f' h E2 (nodup_of m2 (nodup_mid nn) fun a ha hb => ?_) (fun a ha => ?_) (by rw [if_neg hi])
          · simp only [List.mem_append] at hb
            rcases hb with z | z | z
            · have : a ∈ A ++ B := by rw [eab]; simp [z]
              exact n3 a (List.mem_append_right _ ha) (by simp at this ⊢; rcases this with y | y <;> simp [y])
            · exact m3 a z ha
            · have : a ∈ A ++ B := by rw [eab]; simp [z]
              exact n3 a (List.mem_append_right _ ha) (by simp at this ⊢; rcases this with y | y <;> simp [y])
          · simp only [List.mem_append] at ha ⊢
            rcases ha with z | z | z | z
            · simp [z]
            · have : a ∈ A ++ B := by rw [eab]; simp [z]
              simp at this; rcases this with y | y <;> simp [y]
            · simp [z]
            · have : a ∈ A ++ B := by rw [eab]; simp [z]
              simp at this; rcases this with y | y <;> simp [y]
        · have : ρ.set i (some d') = ρ := List.set_eq_of_length_le (by omega)
          exact key ρ F f' h E (nodup_of m2 n2 fun a ha => n3 a (List.mem_append_right _ ha)) (fun a ha => by simp at ha ⊢; rcases ha with z | z <;> simp [z]) (by rw [if_neg hi, this])
end
section
variable {X : Cx} {x : Str} {p pos : Pos} {e : Expr} {es : List Expr} {fr : FA} {k : Nat} {f : Addr} {fd : FuncData} {ps : List Str} {den : Den}
theorem run_fnD {pins : List (Addr × Obj)} {σ : L2.St} {H : Hp} {s : Shared} {Q : VK} {us : List Value} {vs : List V} (F : FnD X.prog X.w X.K X.mg X.base k f fd ps den) (hgd : X.A.guards = some []) (hr : Room k X.A) (hb : Binds X.K fd ps [])
    (I : Inv X pins σ H s) (r : Vals vs us) (hl : vs.length = ps.length) (h : spD X.K den vs H Q) : wpAny (model X.prog X.w) X.A (call (.ref f) us) (EP X pins σ Q) X.xe s := by
  have hb' := hb s us I.kIn (by rw [List.append_nil, ← r.length]; exact hl)
  rw [List.append_nil] at hb'
  refine wpAny_call (codeAny_mono (F.run X.A X.stack s H ⟨us, []⟩ us vs Q hgd hr I.env0 hb' r hl h) fun rr s' hq => ?_)
  match rr, hq with
  | .ok (.ret u), hq => exact I.after hq
  | .ok .next, hq => exact False.elim hq
  | .ok .brk, hq => exact False.elim hq
  | .ok .cont, hq => exact False.elim hq
  | .error ee, hq => exact False.elim hq
theorem call_core {σ : L2.St} {H : Hp} {Q : VK} {n : Nat} (hn : ∀ (ρ ρ1 : Fm) (rs : List R), fr ρ = some (rs, ρ1) → rs.length = n) (h : rdE X.K (fCallD den fr) σ H Q) : rdA X.K fr σ H fun vs H1 => vs.length = n ∧ spD X.K den vs H1 Q := by
  obtain ⟨ρ, F, r, ρ', E, nd, ef, k⟩ := h
  obtain ⟨⟨rs, ρ1⟩, e1, ef⟩ := Option.bind_eq_some_iff.mp ef
  obtain ⟨⟨ds, ρ2⟩, e2, ef⟩ := Option.bind_eq_some_iff.mp ef
  obtain ⟨⟨rr, ρp⟩, e3, ef⟩ := Option.map_eq_some_iff.mp ef
  cases ef
  refine ⟨ρ, F, rs, ρ1, E, nd, e1, fun vs H1 g F1 r1 E1 N1 S1 => ?_⟩
  obtain ⟨p2, F2, r2, E2, N2, s2⟩ := r1.takes E1 N1 e2
  have hl : ∀ {rs : List R} {vs : List V} {g : List Addr}, RepRs X.K H1 σ rs vs g → vs.length = rs.length := by
    intro rs
    induction rs with
    | nil => intro vs g h; rw [h.1]; rfl
    | cons x rs ih => intro vs g h; obtain ⟨v, vs', _, _, rfl, _, _, h⟩ := h; simp [ih h]
  refine ⟨by rw [hl r1, hn _ _ _ e1], ds, p2, rr, ρp, r2, (nodup3 N2).1, e3, fun v H' g' F' rv Ep np Sp => ?_⟩
  obtain ⟨n1, n2, n3⟩ := nodup3 N2
  have n3' : ∀ a ∈ F2, a ∉ p2 := fun a ha hb => n3 a hb ha
  have E2' := E2.keep (Sp.keep r2.mut n3')
  have ap : ∀ a ∈ F2, a ∉ g' ++ F' := Sp.apart E2.mut n3'
  obtain ⟨m1, m2, m3⟩ := nodup3 np
  obtain ⟨F3, E3, N3, s3⟩ := give (ds := ds) r1 Ep E2' (nodup_of m2 n2 fun a ha hb => ap a hb (List.mem_append_right _ ha))
  refine k v H' g' F3 rv E3 (nodup_of m1 N3 fun a ha hb => ?_) fun a u ea na => ?_
  · rcases List.mem_append.mp (s3 a hb) with z | z
    · exact m3 a ha z
    · exact ap a z (List.mem_append_left _ ha)
  · obtain ⟨x1, x2⟩ := S1 a u ea na
    have x3 : a ∉ p2 ++ F2 := fun z => x2 (s2 a z)
    obtain ⟨x4, x5⟩ := Sp a u x1 fun z => x3 (List.mem_append_left _ z)
    refine ⟨x4, fun z => ?_⟩
    rcases List.mem_append.mp z with z | z
    · exact x5 (List.mem_append_left _ z)
    · rcases List.mem_append.mp (s3 a z) with y | y
      · exact x5 (List.mem_append_right _ y)
      · exact x3 (List.mem_append_right _ y)
theorem fNil_len : ∀ (ρ ρ1 : Fm) (rs : List R), fNil ρ = some (rs, ρ1) → rs.length = 0 := fun ρ ρ1 rs h => by cases h; rfl
theorem fCons_len {f : FE} {fr : FA} {n : Nat} (h : ∀ (ρ ρ1 : Fm) (rs : List R), fr ρ = some (rs, ρ1) → rs.length = n) : ∀ (ρ ρ1 : Fm) (rs : List R), fCons f fr ρ = some (rs, ρ1) → rs.length = n + 1 := fun ρ ρ1 rs e => by
  obtain ⟨⟨x, ρ2⟩, e1, e⟩ := Option.bind_eq_some_iff.mp e
  obtain ⟨⟨rs', ρ3⟩, e2, e⟩ := Option.map_eq_some_iff.mp e
  cases e
  rw [List.length_cons, h _ _ _ e2]
theorem de_call (F : FnD X.prog X.w X.K X.mg X.base k f fd ps den) (hgd : X.A.guards = some []) (hr : Room k X.A) (hg : Gl X x) (hm : X.mg x = some (.ref f)) (hk : PySem.W.keepIn X.K (.ref f) = true) (hb : Binds X.K fd ps [])
    (hn : ∀ (ρ ρ1 : Fm) (rs : List R), fr ρ = some (rs, ρ1) → rs.length = ps.length) (ha : DA X (e :: es) fr) (hdb : (x == ("__debug__" : Str)) = false := by decide)
    (he : starEach (e :: es) X.env = (false, eval e X.env) :: starEach es X.env := by rfl) (hpl : (backTo pos (starEach es X.env)).any (·.1) = false := by rfl) : DE X (.Call (.Name x p) (e :: es) [] pos) (fCallD den fr) := by
  refine ⟨⟨fun pins s σ H Q I h => wpAny_Call_Name_kw (ld_glob I hg hm ?_ hdb)⟩⟩
  refine PySem.W.callWith_K (h₀ := X.base) I.ok.mod.kin hk (thn (ha.pa.run pos pins s σ H _ I (call_core hn h)) fun us s1 hh => ?_) he hpl
  obtain ⟨vs, H1, I1, r, hl, q⟩ := hh
  exact ⟨I1.kIn, run_fnD F hgd hr hb I1 r hl q⟩
theorem de_call0 (F : FnD X.prog X.w X.K X.mg X.base k f fd ps den) (hgd : X.A.guards = some []) (hr : Room k X.A) (hg : Gl X x) (hm : X.mg x = some (.ref f)) (hk : PySem.W.keepIn X.K (.ref f) = true) (hb : Binds X.K fd ps []) (hp : ps.length = 0)
    (hdb : (x == ("__debug__" : Str)) = false := by decide) : DE X (.Call (.Name x p) [] [] pos) (fCallD den fNil) := by
  refine ⟨⟨fun pins s σ H Q I h => wpAny_Call_Name_kw (ld_glob I hg hm ?_ hdb)⟩⟩
  obtain ⟨ρ, F0, rs, ρ1, E, nd, e1, kk⟩ := call_core fNil_len h
  cases e1
  obtain ⟨hl, q⟩ := kk [] H [] F0 ⟨rfl, rfl⟩ E nd Step.refl
  exact PySem.W.callWith_K0 I.kIn hk (run_fnD (us := []) F hgd hr hb I .nil (by rw [hp]; rfl) q)
end
/-! ### the end of a law -/
/-- what the end wants of a law: its bound, its def as a meaning, and that the meaning says True -/
structure Kept (l : PySem.W.OpenLaw) (n k : Nat) (d : DefRec) (K : Params → PySem.W.Frag) (x : Str) (den : Den) : Prop where
  most : l.most = some n
  small : n ≤ sizeLine
  plain : d.params.defaults = []
  room : Room k callerA
  made : ∀ w mg fa h, (K (World.params w)).In h → Heap.Ns h mainGlobals mg → mg d.name = some (.ref fa) →
    ∃ fd, (∀ t u, BindsTo t fd ⟨[u], []⟩ [(x, u)]) ∧ ∀ base, (K w.params).In base → base.Ns mainGlobals mg → FnD l.prog w (K w.params) mg base k fa fd [x] den
  says : ∀ ns : List Int, ns.length ≤ n → ∃ ρ', den [.flst (ns.map .int)] = some (.bl true, ρ')
/-- the law's promise at the heap behind the top -/
theorem law_end {l : PySem.W.OpenLaw} {n k : Nat} {q : Program} {loose : List Str} {XP : (Str → Option Value) → Heap → Prop} {YP : World → Heap → Prop} {d : DefRec} {K : Params → PySem.W.Frag} {x : Str} {den : Den}
    (L : Kept l n k d K x den) (there : ∀ w h, YP w h → (K (World.params w)).In h) : PySem.W.WalkO q loose XP YP l.row.toRowW d [] (fun f vs => PySem.call f vs) := by
  have hn2 := L.small
  have hr := L.room
  have hlaw := L.says
  apply Att.attach_call L.most L.plain
  intro w _ s₁ mg mb fa _ _ _ _ a vs ns G Y _ _ _ hmg hobj hints hlen hg
  have KX := there w _ Y
  have ⟨fd, hb, hF⟩ := L.made w mg fa _ KX G.T.g hmg
  have rv := vals_ints hints
  have core : ∀ H : Hp, Only H → SqF (K w.params) H a (ns.map V.int) → HOk l.prog w H s₁.heap → (∀ b, H b ≠ none → b = a) → (H a ≠ none → (K w.params).lookup a = none) →
      codeAny (model l.prog w) callerA (.call (.ref fa) ⟨[.ref a], []⟩) (fun r s' => r = .ok (.ret (.bool true)) ∧ OldK s₁.heap s'.heap ∧ s'.os = s₁.os ∧ AllBare s'.gens) s₁ := by
    intro H hO hS hok hA hK
    have base_of : ∀ {b : Addr} {ob : Obj}, s₁.heap.get? b = some ob → H b = none → (hidT s₁.heap H).get? b = some ob := fun e z => hidT_get e z
    have noA : ∀ {b : Addr} {ob : Obj} {es : Array DictEntry} {ep : Nat}, s₁.heap.get? b = some ob → ob.data = .dict es ep → H b = none := fun {b ob es ep} e dd => by
      by_cases z : H b = none
      · exact z
      · rw [hA b z, hobj] at e
        cases e
        have dd' : Data.seq vs.toArray _ = Data.dict es ep := dd
        cases dd'
    have nsK : ∀ {b : Addr} {m : Str → Option Value}, s₁.heap.Ns b m → (hidT s₁.heap H).Ns b m := fun ⟨ob, es, ep, e, dd, r⟩ => ⟨ob, es, ep, base_of e (noA e dd), dd, r⟩
    have hKb : (K w.params).In (hidT s₁.heap H) := fun b ob e => base_of (KX b ob e) (by
      by_cases z : H b = none
      · exact z
      · have eb := hA b z
        rw [eb] at z e
        rw [hK z] at e
        cases e)
    have hM : Mod (K w.params) mg (hidT s₁.heap H) := ⟨hKb, nsK G.T.g, ⟨mb, nsK G.T.b, G.T.builtins⟩, let ⟨mc, h1, h2⟩ := G.T.nolimit; ⟨mc, nsK h1, h2⟩⟩
    have e0 : Env0 l.prog w (K w.params) mg (hidT s₁.heap H) callerA [] s₁ H :=
      ⟨rfl, hM, fun b ob e => of_hidT e, Nat.le_of_eq (hidT_size _ _), trivial, fun b hb => absurd (show b ∈ ([] : List Addr) from hb) (by simp), hok, .of_eq hg⟩
    obtain ⟨ρ', hl⟩ := hlaw ns hlen
    have rl : ∀ ms : List Int, RepL (K w.params) H (ms.map D.int) (ms.map V.int) [] := fun ms => RepL.of_each (by simp) fun i dd v e1 e2 => by
      rw [List.getElem?_map] at e1 e2
      cases e3 : ms[i]? with
      | none => rw [e3] at e1; cases e1
      | some z => rw [e3] at e1 e2; cases e1; cases e2; exact ⟨rfl, rfl⟩
    have sp : spD (K w.params) den [.ref a] H fun v _ => v = .bl true := ⟨[.flst (ns.map .int)], [], .bl true, ρ', RepL.of_one ⟨a, _, rfl, hS, rl ns⟩, List.nodup_nil, hl, fun v H' g F' rr _ _ _ => rr.1⟩
    refine codeAny_mono ((hF _ hKb (nsK G.T.g)).run callerA [] s₁ H ⟨[.ref a], []⟩ [.ref a] [.ref a] _ rfl hr e0 (hb s₁ (.ref a)) (.cons rfl .nil) rfl sp) fun r s' h => ?_
    match r, h with
    | .error _, h => exact False.elim h
    | .ok .next, h => exact False.elim h
    | .ok .brk, h => exact False.elim h
    | .ok .cont, h => exact False.elim h
    | .ok (.ret u), h =>
      obtain ⟨v, H', os, bare, un, hok', r', qv⟩ := h
      have qv' : v = .bl true := qv
      subst qv'
      cases (r' : u = .bool true)
      refine ⟨rfl, OldK.of_keep fun b ob e => ?_, os, bare⟩
      by_cases z : H b = none
      · exact un.keep b ob e z (fun y => absurd (show b ∈ ([] : List Addr) from y) (by simp)) (by simp)
      · rcases hO b with y | ⟨ob', xs, y⟩
        · exact absurd y z
        · have y2 := un.frzs b ob' _ y
          obtain ⟨x1, _⟩ := hok b _ y
          obtain ⟨x2, _⟩ := hok' b _ y2
          rw [e] at x1
          cases x1
          exact x2
  have hz : ns.length ≤ sizeLine := Nat.le_trans hlen hn2
  have lenV := hints.length
  by_cases hk : (K w.params).lookup a = none
  · refine core (fun b => if b = a then some (.frz { cls := .type "list", data := .seq vs.toArray } (.lst (ns.map V.int))) else none) (fun b => ?_) (.inl ⟨_, if_pos rfl⟩) (fun b u z => ?_) (fun b z => ?_) fun _ => hk
    · exact (Decidable.em (b = a)).symm.imp (fun no => if_neg no) fun yes => ⟨_, _, if_pos yes⟩
    · by_cases hb : b = a
      · have z' := Eq.trans (if_pos hb).symm z
        cases z'
        subst hb
        exact ⟨hobj, by rw [List.length_map]; exact hz, vs, _, rv, hobj⟩
      · have z' := Eq.trans (if_neg hb).symm z
        cases z'
    · by_cases hb : b = a
      · exact hb
      · exact absurd (if_neg hb) z
  · obtain ⟨ob, hk'⟩ := Option.ne_none_iff_exists'.mp hk
    have e := KX a ob hk'
    rw [hobj] at e
    cases e
    refine core (fun _ => none) (fun _ => .inl rfl) (.inr (.inr ⟨_, vs.toArray, _, hk', rfl, rfl, rfl, by rw [List.size_toArray, lenV]; exact hz, by simpa using rv⟩)) (fun b u z => by cases z) (fun b z => absurd rfl z) fun z => absurd rfl z
end DL
/-! Smaller things: is None, -x, chains; a def as its callers see it. -/
namespace DL
open PySem PySem.Spec L2
open PyProof.Rows (envOfC AllBare)
def isNon : D → Bool
  | .non => true
  | _ => false
def dIsN (x y : D) : Option D := match y with
  | .non => some (.bl (isNon x))
  | _ => none
def dIsNotN (x y : D) : Option D := match y with
  | .non => some (.bl (!isNon x))
  | _ => none
section
variable {K : PySem.W.Frag} {X : Cx}
theorem isNon_dec {H : Hp} {x : D} {v : V} {p : List Addr} (r : Rep K H x v p) : decide (v = .non) = isNon x := by
  cases x with
  | non => rw [r.1]; rfl
  | bl b => rw [r.1]; rfl
  | int i => rw [r.1]; rfl
  | str z => rw [r.1]; rfl
  | tup ds => obtain ⟨a, vs, rfl, _⟩ := r; rfl
  | lst ds => obtain ⟨a, vs, g, rfl, _⟩ := r; rfl
  | flst ds => obtain ⟨a, vs, rfl, _⟩ := r; rfl
  | dic kvs => obtain ⟨a, vs, g, rfl, _⟩ := r; rfl
  | fdic kvs => obtain ⟨a, vs, rfl, _⟩ := r; rfl
  | exc a C dd kvs => obtain ⟨ws, rfl, _⟩ := r; rfl
theorem o2_isN : Op2 K (fun x y H Q => y = .non ∧ Q (.bl (decide (x = .non))) H) dIsN := by
  intro H x y v w p q z Q r1 r2 e k
  unfold dIsN at e
  split at e
  · cases e
    exact ⟨r2.1, by rw [isNon_dec r1]; exact k _ H [] ⟨rfl, rfl⟩ List.nodup_nil (by simp) (Same.refl H)⟩
  · cases e
theorem o2_isNotN : Op2 K (fun x y H Q => y = .non ∧ Q (.bl (!decide (x = .non))) H) dIsNotN := by
  intro H x y v w p q z Q r1 r2 e k
  unfold dIsNotN at e
  split at e
  · cases e
    exact ⟨r2.1, by rw [isNon_dec r1]; exact k _ H [] ⟨rfl, rfl⟩ List.nodup_nil (by simp) (Same.refl H)⟩
  · cases e
end
def fNeg (fa : FE) : FE := fun ρ => (fa ρ).bind fun (r, ρ1) => (cont ρ1 r).bind fun d => match d with
  | .int i => some (.val (.int (-i)), ρ1)
  | _ => none
theorem de_neg {X : Cx} {a : Expr} {fa : FE} {pos : Pos} (ha : DE X a fa) : DE X (.UnaryOp .USub a pos) (fNeg fa) := ⟨pe_weak (pe_un un_neg ha.pe) fun σ H Q ⟨ρ, F, r', ρ', E, nd, ef, k⟩ => by
  obtain ⟨⟨r, ρ1⟩, e1, ef⟩ := Option.bind_eq_some_iff.mp ef
  obtain ⟨d, e2, ef⟩ := Option.bind_eq_some_iff.mp ef
  cases d <;> try cases ef
  refine ⟨ρ, F, r, ρ', E, nd, e1, fun v H' g F' r1 E1 N1 S1 => ?_⟩
  obtain ⟨p, q, _⟩ := r1.cont E1 e2
  exact ⟨_, q.1, k _ H' [] F' ⟨rfl, rfl⟩ E1 (by simpa using (nodup3 N1).2.1) (S1.to fun a ha => .inl (List.mem_append_right _ (by simpa using ha)))⟩⟩
/-- a < b < c of whole numbers -/
def fChain (p q : Int → Int → Bool) (fa fb fc : FE) : FT := fun ρ => (fa ρ).bind fun (x, ρ1) => (fb ρ1).bind fun (y, ρ2) => (cont ρ2 x).bind fun dx => (cont ρ2 y).bind fun dy => match dx, dy with
  | .int i, .int j => if p i j then (fc ρ2).bind fun (z, ρ3) => (cont ρ3 z).bind fun dz => match dz with
      | .int l => some (q j l, ρ3)
      | _ => none
    else some (false, ρ2)
  | _, _ => none
theorem chain_of {K : PySem.W.Frag} {p q : Int → Int → Bool} {fa fb fc : FE} {σ : L2.St} {H : Hp} {Q : VK} (h : rdE K (fBl (fChain p q fa fb fc)) σ H Q) :
    tChain (rI0 fun i j => .bl (p i j)) (rI0 fun i j => .bl (q i j)) (rdE K fa) (rdE K fb) (rdE K fc) σ H Q := by
  obtain ⟨ρ, F, r, ρ', E, nd, ef, k⟩ := h
  obtain ⟨⟨b0, ρ0⟩, ef, e0⟩ := Option.map_eq_some_iff.mp ef
  cases e0
  obtain ⟨⟨x, ρ1⟩, e1, ef⟩ := Option.bind_eq_some_iff.mp ef
  obtain ⟨⟨y, ρ2⟩, e2, ef⟩ := Option.bind_eq_some_iff.mp ef
  obtain ⟨dx, e3, ef⟩ := Option.bind_eq_some_iff.mp ef
  obtain ⟨dy, e4, ef⟩ := Option.bind_eq_some_iff.mp ef
  have hij : ∃ i j, dx = .int i ∧ dy = .int j := by
    cases dx <;> cases dy <;> first | exact ⟨_, _, rfl, rfl⟩ | cases ef
  obtain ⟨i, j, rfl, rfl⟩ := hij
  have ef : (if p i j then (fc ρ2).bind fun (z, ρ3) => (cont ρ3 z).bind fun dz => match dz with
      | .int l => some (q j l, ρ3)
      | _ => none
    else some (false, ρ2)) = some (b0, ρ') := ef
  refine two E nd e1 e2 fun v w H2 gx gy F2 r1 r2 E2 N2 S2 => ?_
  obtain ⟨p1, q1, _⟩ := r1.cont E2 e3
  obtain ⟨p2, q2, _⟩ := r2.cont E2 e4
  obtain ⟨_, N3, _⟩ := nodup3 N2
  have n2 := (nodup3 N3).2.1
  have S2' : Step H F H2 F2 := S2.to fun a ha => .inl (by simp [ha])
  refine ⟨i, j, q1.1, q2.1, p i j, rfl, ?_⟩
  cases hp : p i j with
  | true =>
    rw [hp, if_pos rfl] at ef
    obtain ⟨⟨z, ρ3⟩, e5, ef⟩ := Option.bind_eq_some_iff.mp ef
    obtain ⟨dz, e6, ef⟩ := Option.bind_eq_some_iff.mp ef
    cases dz <;> try cases ef
    refine iteT ⟨ρ2, F2, z, _, E2, n2, e5, fun u H3 g3 F3 r3 E3 N3 S3 => ?_⟩
    obtain ⟨p3, q3, _⟩ := r3.cont E3 e6
    exact ⟨j, _, q2.1, q3.1, k _ H3 [] F3 ⟨rfl, rfl⟩ E3 (by simpa using (nodup3 N3).2.1) (S2'.trans (S3.to fun a ha => .inl (List.mem_append_right _ (by simpa using ha))))⟩
  | false =>
    rw [hp, if_neg Bool.false_ne_true] at ef
    cases ef
    exact iteF (k _ H2 [] F2 ⟨rfl, rfl⟩ E2 (by simpa using n2) (by simpa using S2'))
section
variable {X : Cx} {a b c : Expr} {fa fb fc : FE} {pos : Pos} {p q : Int → Int → Bool} {o1 o2 : CmpOp}
theorem de_chain (h1 : OpR X (compareOp o1) (rI0 fun i j => .bl (p i j))) (h2 : OpR X (compareOp o2) (rI0 fun i j => .bl (q i j))) (ha : DE X a fa) (hb : DE X b fb) (hc : DE X c fc) (hm : lastMarks [o1, o2] [b, c] = false := by with_unfolding_all rfl) :
    DE X (.Compare a [o1, o2] [b, c] pos) (fBl (fChain p q fa fb fc)) := ⟨pe_weak (pe_chain h1 h2 ha.pe hb.pe hc.pe hm) fun _ _ _ h => chain_of h⟩
theorem dt_chain (h1 : OpR X (compareOp o1) (rI0 fun i j => .bl (p i j))) (h2 : OpR X (compareOp o2) (rI0 fun i j => .bl (q i j))) (ha : DE X a fa) (hb : DE X b fb) (hc : DE X c fc) (hm : lastMarks [o1, o2] [b, c] = false := by with_unfolding_all rfl) :
    DT X (.Compare a [o1, o2] [b, c] pos) (fTest (fBl (fChain p q fa fb fc))) := ⟨pt_weak (pt_chain h1 h2 ha.pe hb.pe hc.pe hm) fun _ _ _ h => tTest_of (fun _ _ _ q => chain_of q) h⟩
end
/-- a def, as its callers see it -/
structure DefOk (P : Program) (w : World) (K : PySem.W.Frag) (mg : Str → Option Value) (base : Heap) (x : Str) (k : Nat) (ps : List Str) (den : Den) : Prop where
  ex : ∃ (f : Addr) (fd : FuncData), FnD P w K mg base k f fd ps den ∧ mg x = some (.ref f) ∧ PySem.W.keepIn K (.ref f) = true ∧ Binds K fd ps []
theorem de_callG {X : Cx} {x : Str} {p pos : Pos} {e : Expr} {es : List Expr} {fr : FA} {j k : Nat} {ps : List Str} {den : Den} (G : DefOk X.prog X.w X.K X.mg X.base x j ps den) (hgd : X.A.guards = some []) (hr : Room k X.A) (hjk : j ≤ k) (hg : Gl X x)
    (hn : ∀ (ρ ρ1 : Fm) (rs : List R), fr ρ = some (rs, ρ1) → rs.length = ps.length) (ha : DA X (e :: es) fr) (hdb : (x == ("__debug__" : Str)) = false := by decide)
    (he : starEach (e :: es) X.env = (false, eval e X.env) :: starEach es X.env := by rfl) (hpl : (backTo pos (starEach es X.env)).any (·.1) = false := by rfl) : DE X (.Call (.Name x p) (e :: es) [] pos) (fCallD den fr) := by
  obtain ⟨f, fd, F, hm, hk, hb⟩ := G.ex
  exact de_call F hgd (hr.mono hjk) hg hm hk hb hn ha hdb he hpl
theorem de_callG0 {X : Cx} {x : Str} {p pos : Pos} {j k : Nat} {ps : List Str} {den : Den} (G : DefOk X.prog X.w X.K X.mg X.base x j ps den) (hgd : X.A.guards = some []) (hr : Room k X.A) (hjk : j ≤ k) (hg : Gl X x) (hp : ps.length = 0)
    (hdb : (x == ("__debug__" : Str)) = false := by decide) : DE X (.Call (.Name x p) [] [] pos) (fCallD den fNil) := by
  obtain ⟨f, fd, F, hm, hk, hb⟩ := G.ex
  exact de_call0 F hgd (hr.mono hjk) hg hm hk hb hp hdb
end DL
/-! Names that the printed meanings use. -/
namespace DL
open PySem PySem.Spec L2
abbrev pLt : Int → Int → Bool := fun i j => decide (i < j)
abbrev pLe : Int → Int → Bool := fun i j => decide (i ≤ j)
abbrev pGt : Int → Int → Bool := fun i j => decide (j < i)
abbrev pGe : Int → Int → Bool := fun i j => decide (j ≤ i)
/-- turns that a while may take -/
def fuel : Nat := 100000
theorem room_u {n k u : Nat} (h : n + 1 ≤ 200) (hu : u + 16 * k + 200 < cLine) : u + n < cLine := by omega
/-- {} -/
def fDic0 : FE := fun ρ => some (.val (.dic []), ρ)
theorem de_dic0 {X : Cx} {pos : Pos} : DE X (.Dict [] [] pos) fDic0 := ⟨pe_weak pe_dnewK fun σ H Q ⟨ρ, F, r, ρ', E, nd, ef, k⟩ p hp => by
  cases ef
  have sm := upd_same_of (o := .dK []) hp
  have np : p ∉ F := fun z => by
    obtain ⟨u, eu⟩ := (E.mut p z).some_
    rw [hp] at eu
    cases eu
  exact k _ _ [p] F ⟨p, [], [], rfl, upd_same, rfl, rfl, rfl⟩ (E.keep (Same.keep sm)) (List.nodup_cons.mpr ⟨np, nd⟩) (Step.fresh Step.refl sm (by simpa using hp) fun a ha => ha)⟩
end DL
/-! A tuple walked with its count: the library's walk (WalksT.enumerateD over Draws.tuple) as a turn of the hand layer. -/
namespace DL
open PySem PySem.Spec L2
/-- pairs (i, x) of the tuple at a, each new -/
def Itc2 (K : PySem.W.Frag) (a : Addr) (m : Nat) : It where
  go i H := ∃ xs, SqT K H a xs ∧ xs.length = m ∧ i < m
  yld i H v G := ∃ T x, v = .ref T ∧ H T = none ∧ G = upd H T (.tup [.int (i : Nat), x]) ∧ ∀ xs, SqT K H a xs → xs[i]? = some x
  stop i H := ∃ xs, SqT K H a xs ∧ xs.length = m ∧ m ≤ i
/-- where the two new things stand -/
structure Count (a en ti : Addr) (m i : Nat) (h : Heap) : Prop where
  so_far : i ≤ m
  en_at : ∃ old, IsEnum h en ti ((i : Nat) : Int) old
  ti_at : h.IsTupleIter ti a i
theorem turn_count {P : Program} {w : World} {K : PySem.W.Frag} {es : List Expr} {kk : Nat} {tp : Pos} {a en ti : Addr} {m : Nat} (n1 : en ≠ ti) (n2 : en ≠ a) (n3 : a ≠ ti) :
    Turn P w K (.Tuple es kk tp) (Itc2 K a m) [en, ti] en (Count a en ti m) where
  mem := List.mem_cons_self
  obj i h st b hb := by
    have ⟨_, ⟨_, q1⟩, ⟨o, q2, _, q3⟩⟩ := st
    obtain rfl | rfl : b = en ∨ b = ti := by simpa using hb
    · exact ⟨_, q1, nofun⟩
    · exact ⟨o, q2, fun v => q3 ▸ nofun⟩
  keep i h g st same := ⟨st.so_far, st.en_at.imp fun _ q => same en (by simp) _ q, st.ti_at.at (same ti (by simp))⟩
  item := by
    rintro X rfl rfl rfl calm i pins s σ H E I free st ⟨xs, at_, rfl, lt⟩
    have ⟨zs, rz, tz, _⟩ := I.tuple at_
    have walk := PySem.WalksT.enumerateD (PySem.Draws.tuple (prog := X.prog) (w := X.w) (A := X.A.in1) (I.ok.hd calm) ti a n3 zs.toArray) en n1 (by simp [n1, n2]) List.mem_cons_self
    have size : zs.toArray.size = xs.length := by simp [rz.length]
    refine walk.item i s _ _ (size ▸ lt) ⟨st.en_at, st.ti_at, tz⟩ fun T vals g tk pv new tup mid kept => ⟨_, rfl, walk.go es kk tp i T _ _ _ mid fun g2 st2 kept2 => ?_⟩
    obtain ⟨t, u, hu, rfl⟩ := pv
    obtain ⟨x, hx, ru⟩ : ∃ x, xs[i]? = some x ∧ RelV x u := by
      have ⟨u', e1, r'⟩ := rz.get (List.getElem?_eq_getElem lt)
      have e2 : zs[i]? = some u := by simpa using hu
      cases e1.symm.trans e2
      exact ⟨_, List.getElem?_eq_getElem lt, r'⟩
    have far := walk.apart i T g mid
    have ⟨o, o1, o2, cap, o3⟩ := tup
    have pair : ObjOk X.prog X.w (upd H T (.tup [.int (i : Nat), x])) g2 T (.tup [.int (i : Nat), x]) :=
      ⟨show 2 ≤ sizeLine by decide, [.int i t, u], .cons ⟨t, rfl⟩ (.cons ru .nil), o, kept2 T o far o1, o2, cap, o3⟩
    refine ⟨.ref T, _, I.turnedNew (ch := [en, ti]) (fun b ob no q => kept2 b ob no (kept b ob no q)) free new pair, rfl, ⟨T, x, rfl, I.hok.fresh new, rfl, fun ys hy => I.tuple_inj hy at_ ▸ hx⟩, ⟨lt, st2.1, st2.2.1⟩, fun b hb => ?_⟩
    have apart : b ≠ T := fun z => far (by rw [← z]; exact hb)
    exact (upd_ne apart).trans (free b hb).1
  done := by
    rintro X rfl rfl rfl calm i pins s σ H E I free st ⟨xs, at_, rfl, past⟩
    obtain rfl := Nat.le_antisymm st.so_far past
    have ⟨zs, rz, tz, _⟩ := I.tuple at_
    have walk := PySem.WalksT.enumerateD (PySem.Draws.tuple (prog := X.prog) (w := X.w) (A := X.A.in1) (I.ok.hd calm) ti a n3 zs.toArray) en n1 (by simp [n1, n2]) List.mem_cons_self
    have size : zs.toArray.size = xs.length := by simp [rz.length]
    exact walk.done s _ _ (size.symm ▸ ⟨st.en_at, st.ti_at, tz⟩) fun g tk kept => ⟨rfl, I.turnedL (t' := tk) kept free⟩
  self A i s Q E st q := st.en_at.elim fun _ at_ => wpAny_pyIter_enum at_ q
/-- enumerate(v) makes two things: what iter(v) gives, and the count over it -/
def madeOver (o : Obj) (h : Heap) : Heap := (h.push o).push { cls := .type "enumerate", data := .fields #[.none, .bool false, .ref h.objs.size, rawInt 0, .none, .none] }
theorem made_meets {v : Value} {o : Obj} {Pre : Heap → Prop} (B : Begins v o Pre) : Meets (Builtin.«enumerate.__new__» ⟨[.type "enumerate", v], []⟩) fun _ R s => Pre s.heap ∧ R (.ok (.ret (.ref (s.heap.push o).objs.size))) { s with heap := madeOver o s.heap } := by
  refine .of_wp fun P w A R ⟨h, gs, ds, n, os⟩ both => ?_
  have pre := both.1
  have post := both.2
  have below := sub_enumerate
  have begin_ {A' : Around} {E Q : Value → Shared → Prop} (q : Q (.ref h.objs.size) ⟨h.push o, gs, ds, n, os⟩) : wpAny (model P w) A' (pyIter v) Q E ⟨h, gs, ds, n, os⟩ := B.iter P w A' E ⟨h, gs, ds, n, os⟩ Q pre q
  wp_walk using begin_
  apply wpAny_stack_any
  intro _
  apply wpAny_pure
  split
  next c _ _ _ _ _ => cases c == Value.type "enumerate" <;> (wp_walk using begin_; exact ⟨_, rfl, post⟩)
  next => wp_walk using begin_; exact ⟨_, rfl, post⟩
theorem made_call {P : Program} {w : World} {A : Around} {E : Value → Shared → Prop} {s : Shared} {a : Addr} {zs : Array Value} {Q : Value → Shared → Prop} (tz : s.heap.IsTuple a zs)
    {m : Nat} (q : ∀ g, Count a (s.heap.objs.size + 1) s.heap.objs.size m 0 g → (∀ b o, s.heap.get? b = some o → g.get? b = some o) → Q (.ref (s.heap.objs.size + 1)) { s with heap := g }) : wpAny (model P w) A (call (.type "enumerate") [.ref a]) Q E s := by
  have B := begins_tuple a zs
  apply callType_new F.called_enumerate (by decide) (F.typeCall_enumerate_1 _) (F.newCall_enumerate_1 _) (F.args_object_init_2 · _) F.entry_enumerate_new (made_meets B)
  have more := Heap.size_push s.heap { cls := .type "tuple_iterator", data := .fields #[.ref a, .int 0 0] }
  have en := Heap.get?_push_size (s.heap.push { cls := .type "tuple_iterator", data := .fields #[.ref a, .int 0 0] }) (o := { cls := .type "enumerate", data := .fields #[.none, .bool false, .ref s.heap.objs.size, rawInt 0, .none, .none] }) rfl
  rw [more] at en
  have old {b : Addr} {o : Obj} (x : s.heap.get? b = some o) := Heap.get?_push_of_some { cls := .type "enumerate", data := .fields #[.none, .bool false, .ref s.heap.objs.size, rawInt 0, .none, .none] } (Heap.get?_push_of_some { cls := .type "tuple_iterator", data := .fields #[.ref a, .int 0 0] } x)
  have ti := Heap.get?_push_of_some { cls := .type "enumerate", data := .fields #[.none, .bool false, .ref s.heap.objs.size, rawInt 0, .none, .none] } (Heap.get?_push_size s.heap (o := { cls := .type "tuple_iterator", data := .fields #[.ref a, .int 0 0] }) rfl)
  refine ⟨tz, ?_⟩
  rw [more]
  exact ⟨⟨_, en, rfl⟩, q _ ⟨Nat.zero_le _, ⟨_, en⟩, _, ti, rfl, rfl⟩ fun _ _ => old⟩
def iCount (K : PySem.W.Frag) (ta : TA) : TI := fun σ H R => ta σ H fun vs G => ∃ a xs, vs = [.ref a] ∧ SqT K G a xs ∧ R (Itc2 K a xs.length) G
open PyProof.Rows in
theorem pi_count {X : Cx} {e : Expr} {ta : TA} {p pos tp : Pos} {es : List Expr} {kk : Nat} (hg : Gl X "enumerate") (hm : X.mg "enumerate" = none) (ha : PA X [e] ta) (one : starEach [e] X.env = [(false, eval e X.env)] := by rfl) :
    PI X (.Tuple es kk tp) (.Call (.Name "enumerate" p) [e] [] pos) (iCount X.K ta) where
  run pins s σ H R I h := PyProof.Rows.Call_ <| ld_blt I hg hm boot_enumerate <| PyProof.Rows.callWith_type1 (thn (ha.run pos pins s σ H _ I h) <| by
    rintro us t ⟨_, G, J, r, a, xs, rfl, at_, q⟩
    rw [Vals.ref1 r]
    have ⟨zs, _, tz, _⟩ := J.tuple at_
    have below : a < t.heap.objs.size := tz.elim fun _ z => Heap.lt_size z.1
    refine made_call (m := xs.length) tz fun g st kept => st.en_at.elim fun _ en => wpAny_pyIter_enum en ?_
    have far : t.heap.objs.size + 1 ≠ t.heap.objs.size ∧ t.heap.objs.size + 1 ≠ a ∧ a ≠ t.heap.objs.size := ⟨Nat.succ_ne_self _, Nat.ne_of_gt (Nat.lt_succ_of_lt below), Nat.ne_of_lt below⟩
    refine ⟨_, _, _, _, G, rfl, J.kept (t' := t.toks) kept, turn_count far.1 far.2.1 far.2.2, st, fun b hb => ?_, q⟩
    have new : t.heap.objs.size ≤ b := by
      obtain rfl | rfl : b = _ + 1 ∨ b = _ := List.mem_cons.mp hb |>.imp_right List.mem_singleton.mp
      · exact Nat.le_succ _
      · exact Nat.le_refl _
    exact J.fpOk new (J.hok.fresh new)) one rfl
/-- the items with their counts -/
def counted (ds : List D) : List D := ds.mapIdx fun i d => .tup [.int (i : Nat), d]
section
variable {K : PySem.W.Frag} {H : Hp} {ds : List D} {vs : List V}
/-- the pair that a turn makes is told by the counted items -/
theorem count_pair {T : Addr} {n : Nat} {x : V} {d : D} (new : H T = none) (rl : RepL K H ds vs []) (still : immL ds = true) (at_ : vs[n]? = some x) (hd : (counted ds)[n]? = some d) :
    Weak K (upd H T (.tup [.int (n : Nat), x])) d (.ref T) ∧ Same H (upd H T (.tup [.int (n : Nat), x])) := by
  rw [counted, List.getElem?_mapIdx] at hd
  obtain ⟨d1, e1, rfl⟩ := Option.map_eq_some_iff.mp hd
  obtain ⟨d2, e2, r⟩ := rl.each still n x at_
  cases e1.symm.trans e2
  have sm := upd_same_of (o := .tup [.int (n : Nat), x]) new
  exact ⟨⟨_, T, _, rfl, rfl, .inl (.inl upd_same), _, _, [], [], rfl, rfl, ⟨rfl, rfl⟩, _, _, [], [], rfl, rfl, Rep.keep _ _ _ r (Same.keep sm), rfl, rfl⟩, sm⟩
theorem count_len : (counted ds).length = ds.length := List.length_mapIdx
theorem src_countT {a : Addr} (still : immL ds = true) : SrcOk K (Weak K) (Itc2 K a vs.length) (counted ds) fun H => TupR K H a vs ∧ RepL K H ds vs [] where
  keep H G h k := ⟨tupR_keep h.1 k, RepL.keep _ _ _ h.2 k⟩
  go H n h lt := ⟨vs, h.1.sq, rfl, by rw [h.2.length, ← count_len (ds := ds)]; exact lt⟩
  stop H n h ge := ⟨vs, h.1.sq, rfl, by rw [h.2.length, ← count_len (ds := ds)]; exact ge⟩
  yld H n x G d h y hd := by
    obtain ⟨T, u, rfl, new, rfl, told⟩ := y
    exact count_pair new h.2 still (told vs h.1.sq) hd
theorem src_countL {a : Addr} (still : immL ds = true) : SrcOk K (Weak K) (Ite K a) (counted ds) fun H => SqF K H a vs ∧ RepL K H ds vs [] where
  keep H G h k := ⟨SqF.keep h.1 k, RepL.keep _ _ _ h.2 k⟩
  go H n h lt := by
    rw [count_len, ← h.2.length] at lt
    exact ⟨vs, vs[n], h.1.seq, List.getElem?_eq_getElem lt⟩
  stop H n h ge := ⟨vs, h.1.seq, by rw [h.2.length, ← count_len (ds := ds)]; exact ge⟩
  yld H n x G d h y hd := by
    obtain ⟨T, u, rfl, new, rfl, told⟩ := y
    exact count_pair new h.2 still (told vs h.1.seq) hd
end
/-- enumerate(e) over a tuple, a list that stands still -/
def fEnum (fr : FA) : FI := fun ρ => (fr ρ).bind fun (rs, ρ1) => (conts ρ1 rs).bind fun ds => match ds with
  | [.tup ds] => if immL ds = true then some (counted ds, ρ1) else none
  | [.flst ds] => if immL ds = true then some (counted ds, ρ1) else none
  | _ => none
/-- the rule over what the library tells of lists, and what stands above of tuples -/
theorem di_enum {X : Cx} {tg E : Expr} {fr : FA} (hl : PI X tg E (iEnum X.K (rdA X.K fr))) (ht : PI X tg E (iCount X.K (rdA X.K fr))) : DI X (Weak X.K) tg E (fEnum fr) :=
  ⟨pi_weak (pi_or hl ht) fun σ H R ⟨ρ, F, ds, ρ', env, nd, ef, k⟩ => by
    obtain ⟨⟨rs, ρ1⟩, e1, ef⟩ := Option.bind_eq_some_iff.mp ef
    obtain ⟨xs, e2, ef⟩ := Option.bind_eq_some_iff.mp ef
    split at ef
    case h_3 => cases ef
    all_goals
      obtain ⟨still, ef⟩ := if_some ef
      cases ef
    · refine .inr ⟨ρ, F, rs, ρ', env, nd, e1, fun vs G g F' r env1 nd1 S1 => ?_⟩
      obtain ⟨len, each⟩ := r.conts env1 e2
      match vs, len with
      | [v], _ =>
        obtain ⟨_, ⟨a, ws, rfl, at_, rl⟩, _⟩ := each 0 _ v rfl rfl
        exact ⟨a, ws, rfl, at_.sq, k _ G F' _ (src_countT still) ⟨at_, rl.nil_of still⟩ env1 (nodup3 nd1).2.1 (S1.to fun b hb => .inl (List.mem_append_right _ hb))⟩
    · refine .inl ⟨ρ, F, rs, ρ', env, nd, e1, fun vs G g F' r env1 nd1 S1 => ?_⟩
      obtain ⟨len, each⟩ := r.conts env1 e2
      match vs, len with
      | [v], _ =>
        obtain ⟨_, ⟨a, ws, rfl, at_, rl⟩, _⟩ := each 0 _ v rfl rfl
        exact ⟨a, ws, rfl, at_.seq, k _ G F' _ (src_countL still) ⟨at_, rl.nil_of still⟩ env1 (nodup3 nd1).2.1 (S1.to fun b hb => .inl (List.mem_append_right _ hb))⟩⟩
end DL
/-! t[::-1], isinstance of built-in kinds, is of truths, what is never reached. -/
namespace DL
open PySem PySem.Spec L2
/-! ### a tuple backwards -/
section
variable {X : Cx} {e : Expr} {fe : FE} {k0 : Nat} {p1 p2 p3 p pos : Pos}
def dRev : D → Option D
  | .tup ds => if immL ds = true then some (.tup ds.reverse) else none
  | .lst ds => if immL ds = true then some (.lst ds.reverse) else none
  | .flst ds => if immL ds = true then some (.lst ds.reverse) else none
  | _ => none
def fRev (f : FE) : FE := fun ρ => (f ρ).bind fun (r, ρ1) => (cont ρ1 r).bind fun d => (dRev d).map fun z => (.val z, ρ1)
theorem RepL.reverse {K : PySem.W.Frag} {H : Hp} : ∀ {ds : List D} {vs : List V}, RepL K H ds vs [] → immL ds = true → RepL K H ds.reverse vs.reverse []
  | [], vs, r, _ => by rw [r.1]; exact ⟨rfl, rfl⟩
  | d :: ds, vs, r, c => by
    obtain ⟨v, vs', f1, f2, rfl, e, r1, r2⟩ := r
    obtain ⟨rfl, rfl⟩ := List.nil_eq_append_iff.mp e
    have c' : (DL.imm d && immL ds) = true := c
    rw [Bool.and_eq_true] at c'
    rw [List.reverse_cons, List.reverse_cons]
    exact RepL.append (RepL.reverse r2 c'.2) (RepL.of_one r1)
end
/-! ### isinstance -/
inductive Kd where
  | int | bool | tuple | list | str | dict
def kdName : Kd → String
  | .int => "int" | .bool => "bool" | .tuple => "tuple" | .list => "list" | .str => "str" | .dict => "dict"
def tyOf : D → String
  | .non => "NoneType" | .bl _ => "bool" | .int _ => "int" | .str _ => "str" | .tup _ => "tuple" | .lst _ => "list" | .flst _ => "list" | .dic _ => "dict" | .fdic _ => "dict" | .exc _ _ _ _ => ""
/-- a caught exception -/
def isX : D → Bool
  | .exc _ _ _ _ => true
  | _ => false
def isK : Kd → D → Bool
  | .int, .int _ => true | .int, .bl _ => true
  | .bool, .bl _ => true
  | .tuple, .tup _ => true
  | .list, .lst _ => true | .list, .flst _ => true
  | .str, .str _ => true
  | .dict, .dic _ => true | .dict, .fdic _ => true
  | _, _ => false
theorem isK_kit (k : Kd) (d : D) (nx : isX d = false) : kitB (tyOf d) (kdName k) = some (isK k d) := by
  cases k <;> cases d <;> try cases nx
  all_goals (first | rfl | (with_unfolding_all rfl) | decide +kernel)
theorem Rep.tyX {K : PySem.W.Frag} {H : Hp} {d : D} {v : V} {p : List Addr} (r : Rep K H d v p) (nx : isX d = false) : TyX K H v (.type (tyOf d)) := by
  cases d with
  | non => obtain ⟨rfl, _⟩ := r; exact .base .non
  | bl b => obtain ⟨rfl, _⟩ := r; exact .base (.bl b)
  | int b => obtain ⟨rfl, _⟩ := r; exact .base (.int b)
  | str b => obtain ⟨rfl, _⟩ := r; exact .base (.str b)
  | tup ds =>
    obtain ⟨a, vs, rfl, t, _⟩ := r
    rcases t with ⟨o, h, _⟩ | ⟨o, _, _, h, _, c, _⟩
    · exact .fTuple h
    · exact .kTuple h c
  | lst ds => obtain ⟨a, vs, g, rfl, h, _⟩ := r; exact .base (.lst h)
  | flst ds =>
    obtain ⟨a, vs, rfl, t, _⟩ := r
    rcases t with ⟨o, h⟩ | (h | ⟨o, h⟩) | ⟨o, _, _, h, c, _⟩
    · exact .base (.frz h)
    · cases h
    · cases h
    · exact .kList h c
  | dic ds => obtain ⟨a, vs, g, rfl, h, _⟩ := r; exact .base (.dK h)
  | fdic ds => obtain ⟨a, vs, rfl, ⟨o, h⟩, _⟩ := r; exact .fDict h
  | exc a C dd kvs => cases nx
def fIsi (k : Kd) (f : FE) : FE := fun ρ => (f ρ).bind fun (r, ρ1) => (cont ρ1 r).bind fun d => if isX d = true then none else some (.val (.bl (isK k d)), ρ1)
section
variable {X : Cx} {e : Expr} {fe : FE} {p p2 pos : Pos}
theorem boot_isi : bootBuiltins "isinstance" = some (.builtin "isinstance") := by decide +kernel
theorem boot_kd (k : Kd) : bootBuiltins (Str.ofString (kdName k)) = some (.type (kdName k)) := by cases k <;> decide +kernel
theorem de_isi (k : Kd) (hg : Gl X "isinstance") (hm : X.mg "isinstance" = none) (hg2 : Gl X (Str.ofString (kdName k))) (hm2 : X.mg (Str.ofString (kdName k)) = none) (h : DE X e fe)
    (hs : starEach [e, .Name (Str.ofString (kdName k)) p2] X.env = (false, eval e X.env) :: starEach [.Name (Str.ofString (kdName k)) p2] X.env := by rfl)
    (hs2 : starEach [.Name (Str.ofString (kdName k)) p2] X.env = (false, eval (.Name (Str.ofString (kdName k)) p2) X.env) :: starEach [] X.env := by rfl) :
    DE X (.Call (.Name "isinstance" p) [e, .Name (Str.ofString (kdName k)) p2] [] pos) (fIsi k fe) :=
  ⟨pe_weak (pe_callB call_isi hg hm boot_isi (pa_cons h.pe (pa_cons (pe_bltn hg2 hm2 (boot_kd k) (v := .ty (kdName k)) rfl (by cases k <;> decide) (by cases k <;> decide)) pa_nil hs2) hs) (by decide) (by decide) hs (by rw [hs2]; rfl)) fun σ H Q ⟨ρ, F, r', ρ', E, nd, ef, k0⟩ => by
    obtain ⟨⟨r, ρ1⟩, e1, ef⟩ := Option.bind_eq_some_iff.mp ef
    obtain ⟨d, e2, ef⟩ := Option.bind_eq_some_iff.mp ef
    have nx : isX d = false := by
      cases z : isX d with
      | false => rfl
      | true => rw [if_pos z] at ef; cases ef
    rw [if_neg (by rw [nx]; decide)] at ef
    cases ef
    refine ⟨ρ, F, r, ρ', E, nd, e1, fun v H1 g F1 r1 E1 N1 S1 => ?_⟩
    obtain ⟨q, q1, _⟩ := r1.cont E1 e2
    exact ⟨v, .ty (kdName k), .type (tyOf d), .type (kdName k), isK k d, rfl, .ty _, q1.tyX nx, kit_ty (isK_kit k d nx), k0 _ H1 [] F1 ⟨rfl, rfl⟩ E1 (by simpa using (nodup3 N1).2.1) (S1.to fun b hb => .inl (List.mem_append_right _ hb))⟩⟩
end
/-! ### is of truths -/
def dIsB : D → D → Option D
  | .bl a, .bl b => some (.bl (decide (a = b)))
  | _, _ => none
def dIsNotB : D → D → Option D
  | .bl a, .bl b => some (.bl (!decide (a = b)))
  | _, _ => none
theorem o2_isNotB {K : PySem.W.Frag} : Op2 K rNotB dIsNotB := by
  intro H x y v w p q z Q rx ry e k
  unfold dIsNotB at e
  split at e
  · cases e
    obtain ⟨rfl, _⟩ := rx
    obtain ⟨rfl, _⟩ := ry
    exact ⟨_, _, rfl, rfl, k _ H [] ⟨rfl, rfl⟩ List.nodup_nil (by simp) (Same.refl H)⟩
  · cases e
/-! ### what is never reached -/
def fNever : FS := fun _ => none
theorem ds_never {X : Cx} {st : Stmt} : DS X [] st fNever := ⟨⟨fun pins s σ H Dn I ⟨ρ, F, o, ρ', E, nd, ef, k⟩ => by cases ef⟩⟩
end DL
/-! Sets of whole numbers, made of a list or a tuple, their size, sorted. -/
namespace DL
open PySem PySem.Spec L2
/-! ### rising lists without doubles -/
def insUp (x : Int) : List Int → List Int
  | [] => [x]
  | y :: ys => if x < y then x :: y :: ys else if x = y then y :: ys else y :: insUp x ys
def ascend (ns : List Int) : List Int := ns.foldr insUp []
theorem insUp_mem {x k : Int} : ∀ {ys : List Int}, k ∈ insUp x ys ↔ k = x ∨ k ∈ ys
  | [] => by simp [insUp]
  | y :: ys => by
    unfold insUp
    by_cases h : x < y
    · simp [h]
    · by_cases e : x = y
      · subst e; simp
      · simp only [h, e, if_false, List.mem_cons, insUp_mem (ys := ys)]
        constructor
        · rintro (a | a | a) <;> simp [a]
        · rintro (a | a | a) <;> simp [a]
theorem ascend_mem {k : Int} : ∀ {ns : List Int}, k ∈ ascend ns ↔ k ∈ ns
  | [] => by simp [ascend]
  | n :: ns => by
    show k ∈ insUp n (ascend ns) ↔ _
    rw [insUp_mem, ascend_mem, List.mem_cons]
theorem insUp_rises {x : Int} : ∀ {ys : List Int}, ys.Pairwise (· < ·) → (insUp x ys).Pairwise (· < ·)
  | [], _ => by simp [insUp]
  | y :: ys, h => by
    obtain ⟨h1, h2⟩ := List.pairwise_cons.mp h
    unfold insUp
    by_cases a : x < y
    · rw [if_pos a]
      refine List.pairwise_cons.mpr ⟨fun z hz => ?_, h⟩
      rcases List.mem_cons.mp hz with rfl | hz
      · exact a
      · have := h1 z hz; omega
    · rw [if_neg a]
      by_cases e : x = y
      · rw [if_pos e]; exact h
      · rw [if_neg e]
        refine List.pairwise_cons.mpr ⟨fun z hz => ?_, insUp_rises h2⟩
        rcases insUp_mem.mp hz with rfl | hz
        · omega
        · exact h1 z hz
theorem ascend_rises : ∀ (ns : List Int), (ascend ns).Pairwise (· < ·)
  | [] => List.Pairwise.nil
  | n :: ns => insUp_rises (ascend_rises ns)
theorem rises_same : ∀ {a b : List Int}, a.Pairwise (· < ·) → b.Pairwise (· < ·) → (∀ k, k ∈ a ↔ k ∈ b) → a = b
  | [], [], _, _, _ => rfl
  | [], y :: b, _, _, h => by have := (h y).mpr List.mem_cons_self; cases this
  | x :: a, [], _, _, h => by have := (h x).mp List.mem_cons_self; cases this
  | x :: a, y :: b, ha, hb, h => by
    obtain ⟨a1, a2⟩ := List.pairwise_cons.mp ha
    obtain ⟨b1, b2⟩ := List.pairwise_cons.mp hb
    have e : x = y := by
      have h1 := (h x).mp List.mem_cons_self
      have h2 := (h y).mpr List.mem_cons_self
      rcases List.mem_cons.mp h1 with z | z
      · exact z
      · rcases List.mem_cons.mp h2 with u | u
        · exact u.symm
        · have := a1 y u; have := b1 x z; omega
    subst e
    rw [rises_same a2 b2 fun k => ⟨fun z => ?_, fun z => ?_⟩]
    · rcases List.mem_cons.mp ((h k).mp (List.mem_cons_of_mem _ z)) with u | u
      · subst u; have := a1 k z; omega
      · exact u
    · rcases List.mem_cons.mp ((h k).mpr (List.mem_cons_of_mem _ z)) with u | u
      · subst u; have := b1 k z; omega
      · exact u
theorem rises_nodup {a : List Int} (h : a.Pairwise (· < ·)) : a.Nodup := h.imp fun h => by omega
theorem nodup_lens {α : Type} {a b : List α} (ha : a.Nodup) (hb : b.Nodup) (h : ∀ k, k ∈ a ↔ k ∈ b) : a.length = b.length := ((List.perm_ext_iff_of_nodup ha hb).mpr h).length_eq
/-! ### set(xs) -/
abbrev bareSet (w : World) : Obj := { cls := .type "set", dict := none, data := .set #[] 0 (.fresh 0 0 (!w.params.followText "set-order")) }
/-- the members of such a set are as many as it says -/
theorem setR_count {w : World} {h : Heap} {a : Addr} {ns : List Int} {c : Nat} (R : SetR w h a (fun j => decide (j ∈ ns)) c) : c = (ascend ns).length := by
  obtain ⟨_, es, _, _, _, _, _, _, once, mem, _, _, size, _⟩ := R
  rw [← size, ← Array.length_toList, ← List.length_map (f := L2.keyOf)]
  refine nodup_lens once (rises_nodup (ascend_rises ns)) fun k => ?_
  rw [ascend_mem, ← mem k, decide_eq_true_iff]
section
variable {P : Program} {w : World} {A : Around} {E : Value → Shared → Prop} {s : Shared} {ns : List Int}
/-- the fresh set at S takes the list at l -/
theorem set_takes {S l : Addr} {its : Array Value} {R : Result → Shared → Prop} (still : A.handled = none) (lst : s.heap.IsList l its) (nums : PyProof.Rows.IntsAre its.toList ns) (few : ns.length + 1 < scanBound) (apart : l ≠ S)
    (isSet : s.heap.get? S = some (bareSet w))
    (k : ∀ (g : Heap) (tk c : Nat), SetR w g S (fun j => decide (j ∈ ns)) c → (∀ b o, b ≠ S → s.heap.get? b = some o → g.get? b = some o) → R (.ok (.ret .none)) { s with heap := g, toks := tk }) :
    codeAny (model P w) A (.call (.builtin "set.__init__") ⟨[.ref S, .ref l], []⟩) R s := by
  have kind : s.TypeIs (.ref S) "set" := ⟨_, isSet, rfl⟩
  have len : its.size = ns.length := by simpa using nums.length
  apply codeAny_call_builtin F.called_set.init.plain F.entry_set_init
  apply check_set_init_1 kind
  have here := lst
  obtain ⟨ob, at_, c, n, dat⟩ := lst
  obtain ⟨oc, od, dt, sl⟩ := ob
  dsimp only at c dat
  subst c dat
  have no1 := F.sub_list_set
  have no2 := F.sub_list_frozenset
  have no3 : (Value.type "list" == Value.type "dict") = false := by decide
  have big : l < s.heap.objs.size := Heap.lt_size at_
  have bigS : S < s.heap.objs.size := Heap.lt_size isSet
  unfold Builtin.«set.__init__» noKeywords Builtin.Frozenset.updateFrom
  generalize hw : pyIter = walk
  wp_walk
  subst hw
  apply wpAny_pyIter_list here
  apply wpAny_bind
  apply wpAny_runValue
  have quiet : A.in1.in1.handled = none := by simp [still]
  have off : S ∉ [s.heap.objs.size, l] := by
    simp only [List.mem_cons, List.not_mem_nil, or_false, not_or]
    exact ⟨Nat.ne_of_lt bigS, fun z => apart z.symm⟩
  have item : ∀ (i : Nat) (v : Value), its[i]? = some v → ∃ k t, ns[i]? = some k ∧ v = .int k t := by
    intro i v hv
    have lt : i < ns.length := len ▸ (Array.getElem?_eq_some_iff.mp hv).1
    obtain ⟨t, e⟩ := nums.int_at i v (Array.getElem?_toList ▸ hv)
    exact ⟨ns[i], t, List.getElem?_eq_getElem lt, by rw [e, List.getD_eq_getElem?_getD, List.getElem?_eq_getElem lt]; rfl⟩
  apply set_update_ints (Walks.list quiet s.heap.objs.size l (Nat.ne_of_lt big) its).toS S off ns len few item its.size 0 _ (by omega) (Nat.zero_le _)
  · exact ⟨⟨_, Heap.get?_push_size _ rfl, rfl, rfl⟩, here.push _⟩
  · exact ⟨0, Nat.le_refl 0, setR_new_at (Heap.get?_push_of_some _ isSet)⟩
  · intro t c moved _ told
    obtain ⟨g, gs, dr, tk, sys⟩ := t
    cases (show gs = s.gens from moved.gens)
    cases (show dr = s.drawn from moved.drawn)
    cases (show sys = s.os from moved.os)
    show wpAny _ _ _ _ _ _
    apply wpAny_pure
    show wpAny _ _ (ret Value.none) _ _ _
    refine wpAny_pure (k g tk c told fun b o hb e => ?_)
    apply moved.heap b o _ (Heap.get?_push_of_some _ e)
    simp only [List.mem_cons, List.not_mem_nil, or_false, not_or]
    exact ⟨hb, Nat.ne_of_lt (Heap.lt_size e)⟩
theorem set_of_list {l : Addr} {its : Array Value} {Q : Value → Shared → Prop} (still : A.handled = none) (lst : s.heap.IsList l its) (nums : PyProof.Rows.IntsAre its.toList ns) (few : ns.length + 1 < scanBound)
    (k : ∀ (g : Heap) (tk c : Nat), SetR w g s.heap.objs.size (fun j => decide (j ∈ ns)) c → (∀ b o, s.heap.get? b = some o → g.get? b = some o) → Q (.ref s.heap.objs.size) { s with heap := g, toks := tk }) :
    wpAny (model P w) A (call (.type "set") [.ref l]) Q E s := by
  have ⟨_, _, mro⟩ := F.called_set.mro
  have made := F.called_set.made
  have self := F.called_set.sub
  have a1 := F.called_set.notType
  have a2 := F.called_set.canCreate
  have a3 := F.typeCall_set_1 (.ref l)
  have b1 := F.called_set.init.lookup
  have b2 := F.called_set.init.bind (.ref s.heap.objs.size)
  apply wpAny_call
  apply codeAny_of_tree
  show wpAny _ _ (callAny (.type "set") _) _ _ _
  refine wpAny_pure ⟨Code.quiet_builtin _ (by decide +kernel), codeAny_builtin F.entry_type_call ?_⟩
  rw [Around.under_plain (weight_type_call_type "set" [.ref l] []) rfl]
  repeat (any_goals (first | assumption | wp_step))
  -- made by __new__
  refine codeAny_mono (code_set_led1 (.ref l) (E := E) (Q₁ := fun u t => u = .ref s.heap.objs.size ∧ t = { s with heap := s.heap.push (bareSet w) }) ⟨rfl, rfl⟩) fun r t told => ?_
  match r, told with
  | .error _, told => exact told
  | .ok .next, told => exact told.elim
  | .ok .brk, told => exact told.elim
  | .ok .cont, told => exact told.elim
  | .ok (.ret _), told =>
  obtain ⟨rfl, rfl⟩ := told
  have here : (s.heap.push (bareSet w)).get? s.heap.objs.size = some (bareSet w) := Heap.get?_push_size _ rfl
  have kind : Shared.TypeIs { s with heap := s.heap.push (bareSet w) } (.ref s.heap.objs.size) "set" := ⟨_, here, rfl⟩
  repeat (any_goals (first | assumption | wp_step))
  refine codeAny_mono (set_takes (R := wants (fun u t => u = .none ∧ ∃ g tk c, t = { s with heap := g, toks := tk } ∧ SetR w g s.heap.objs.size (fun j => decide (j ∈ ns)) c ∧ ∀ b o, s.heap.get? b = some o → g.get? b = some o) E) (by simpa using still) (lst.push _) nums few ?apart here ?done) fun r t told => ?_
  case apart =>
    obtain ⟨_, e, _⟩ := lst
    exact Nat.ne_of_lt (Heap.lt_size e)
  case done =>
    intro g tk c told kept
    exact ⟨rfl, g, tk, c, rfl, told, fun b o e => kept b o (Nat.ne_of_lt (Heap.lt_size e)) (Heap.get?_push_of_some _ e)⟩
  match r, told with
  | .error _, told => exact told
  | .ok .next, told => exact told.elim
  | .ok .brk, told => exact told.elim
  | .ok .cont, told => exact told.elim
  | .ok (.ret _), told =>
  obtain ⟨rfl, g, tk, c, rfl, isR, kept⟩ := told
  repeat (any_goals (first | assumption | wp_step))
  exact k g tk c isR kept
end
end DL
/-! len(set(xs)), sorted(set(xs)); min, max of two; range of three; xs.count(k). -/
namespace DL
open PySem PySem.Spec L2
section
variable {X : Cx} {e : Expr} {fe : FE} {p p2 q pos : Pos}
def rSetI (X : Cx) : List V → Hp → VK → Prop := fun xs H Q => ∃ (l : Addr) (ns : List Int), xs = [.ref l] ∧ (SqL X.K H l (ns.map V.int) ∨ SqT X.K H l (ns.map V.int)) ∧ ns.length ≤ 4000 ∧
  ∀ p, H p = none → Q (.ref p) (upd H p (SetO X.w p (fun j => decide (j ∈ ns)) (ascend ns).length))
theorem cr_setI (calm : X.calm = true) : CallR X (.type "set") (rSetI X) := by
  rintro pins s σ H _ us Q I r ⟨l, ns, rfl, seq, few, k⟩
  rw [Vals.ref1 r]
  have few' : ns.length + 1 < scanBound := by unfold scanBound; omega
  have fin : ∀ (g : Heap) (tk c : Nat), SetR X.w g s.heap.objs.size (fun j => decide (j ∈ ns)) c → (∀ b o, s.heap.get? b = some o → g.get? b = some o) →
      EP X pins σ Q (.ref s.heap.objs.size) { s with heap := g, toks := tk } := fun g tk c R kept => by
    have := setR_count R
    subst this
    exact ⟨.ref _, _, I.laid (t' := tk) kept (Nat.le_refl _) (setO_new R), rfl, k _ (I.hok.fresh (Nat.le_refl _))⟩
  rcases seq with lst | tup
  · obtain ⟨its, rv, at_, _⟩ := I.list lst
    exact set_of_list (I.ok.hd calm) at_.isList (intsAre_of rv) few' fin
  · obtain ⟨its, rv, at_, _⟩ := I.tuple tup
    exact call_set_tupI ns (I.ok.hd calm) at_ (intsAre_of rv) few' fun g tk c R _ kept => fin g tk c R kept
theorem boot_set' : bootBuiltins "set" = some (.type "set") := by decide +kernel
theorem boot_sorted' : bootBuiltins "sorted" = some (.builtin "sorted") := by decide +kernel
def intsIn (d : D) : Option (List Int) := (seqOf d).bind intsOf
theorem Rep.intsIn {K : PySem.W.Frag} {H : Hp} {d : D} {v : V} {p : List Addr} {ns : List Int} (r : Rep K H d v p) (e : DL.intsIn d = some ns) : ∃ a, v = .ref a ∧ (SqL K H a (ns.map V.int) ∨ SqT K H a (ns.map V.int)) := by
  obtain ⟨ds, e1, e2⟩ := Option.bind_eq_some_iff.mp e
  obtain ⟨a, vs, g, rfl, seq, rl, _⟩ := r.seq e1
  obtain ⟨rfl, _⟩ := rl.ints e2
  exact ⟨a, rfl, seq⟩
def fSetLen (f : FE) : FE := fun ρ => (f ρ).bind fun (r, ρ1) => (cont ρ1 r).bind fun d => (intsIn d).bind fun ns => if ns.length ≤ 4000 then some (.val (.int (ascend ns).length), ρ1) else none
def fSetSorted (f : FE) : FE := fun ρ => (f ρ).bind fun (r, ρ1) => (cont ρ1 r).bind fun d => (intsIn d).bind fun ns => if ns.length ≤ 4000 ∧ (ascend ns).length < 64 then some (.val (.lst ((ascend ns).map .int)), ρ1) else none
theorem RepL.ofInts {K : PySem.W.Frag} {H : Hp} : ∀ ns : List Int, RepL K H (ns.map D.int) (ns.map V.int) []
  | [] => ⟨rfl, rfl⟩
  | n :: ns => ⟨.int n, ns.map V.int, [], [], rfl, rfl, ⟨rfl, rfl⟩, RepL.ofInts ns⟩
theorem rises_sorted {ns ms : List Int} (h : ms.Pairwise (· < ·)) (m : ∀ k, k ∈ ms ↔ decide (k ∈ ns) = true) : ms = ascend ns := rises_same h (ascend_rises ns) fun k => by rw [m, ascend_mem, decide_eq_true_iff]
theorem de_setSorted (calm : X.calm = true) (hg : Gl X "sorted") (hm : X.mg "sorted" = none) (hg2 : Gl X "set") (hm2 : X.mg "set" = none) (h : DE X e fe)
    (h1 : starEach [e] X.env = (false, eval e X.env) :: starEach [] X.env := by rfl) (h2 : starEach [.Call (.Name "set" p2) [e] [] q] X.env = (false, eval (.Call (.Name "set" p2) [e] [] q) X.env) :: starEach [] X.env := by rfl) :
    DE X (.Call (.Name "sorted" p) [.Call (.Name "set" p2) [e] [] q] [] pos) (fSetSorted fe) :=
  ⟨pe_weak (pe_callB (cr_sortedSet calm) hg hm boot_sorted' (pa_cons (pe_callTy (cr_setI calm) hg2 hm2 boot_set' (pa_cons h.pe pa_nil h1) (by decide) (by decide) h1 (by rfl)) pa_nil h2) (by decide) (by decide) h2 (by rfl)) fun σ H Q ⟨ρ, F, r', ρ', E, nd, ef, k⟩ => by
    obtain ⟨⟨r, ρ1⟩, e1, ef⟩ := Option.bind_eq_some_iff.mp ef
    obtain ⟨d, e2, ef⟩ := Option.bind_eq_some_iff.mp ef
    obtain ⟨ns, e3, ef⟩ := Option.bind_eq_some_iff.mp ef
    obtain ⟨⟨few, few2⟩, ef⟩ := if_some ef
    cases ef
    refine ⟨ρ, F, r, ρ', E, nd, e1, fun v H1 g F1 r1 E1 N1 S1 => ?_⟩
    obtain ⟨p, q1, _⟩ := r1.cont E1 e2
    obtain ⟨a, rfl, seq⟩ := q1.intsIn e3
    refine ⟨a, ns, rfl, seq, few, fun t ht => ⟨t, _, _, rfl, upd_same, few2, fun ms l rise mem _ hl => ?_⟩⟩
    cases rises_sorted rise mem
    have sm := (upd_same_of (o := SetO X.w t (fun j => decide (j ∈ ns)) (ascend ns).length) ht)
    have sm2 := upd_same_of (o := .lst ((ascend ns).map V.int)) hl
    have sm3 : Same H1 (upd (upd H1 t (SetO X.w t (fun j => decide (j ∈ ns)) (ascend ns).length)) l (.lst ((ascend ns).map V.int))) := fun b u eb => sm2 b u (sm b u eb)
    have hl1 : H1 l = none := by
      by_cases z : l = t
      · rw [z]; exact ht
      · rwa [upd_ne z] at hl
    refine k _ _ [l] F1 ⟨l, _, [], rfl, upd_same, rfl, RepL.ofInts _⟩ (E1.keep (Same.keep sm3)) (nodup_fresh (h := [l]) E1 (nodup3 N1).2.1 (by simp) (by simpa using hl1) |> fun z => z) (S1.fresh (h := [l]) sm3 (by simpa using hl1) fun b hb => List.mem_append_right _ hb)⟩
/-! ### min, max of two -/
def dMin2 : List D → Option D
  | [.int i, .int j] => some (.int (if j < i then j else i))
  | _ => none
def dMax2 : List D → Option D
  | [.int i, .int j] => some (.int (if j > i then j else i))
  | _ => none
theorem cs_min2 {K : PySem.W.Frag} : CallS K (fun xs H Q => ∃ i j, xs = [.int i, .int j] ∧ Q (.int (if j < i then j else i)) H) dMin2 := by
  intro H ds vs z Q a e k
  unfold dMin2 at e
  split at e
  · obtain ⟨v, w, p, q, rfl, r1, r2⟩ := a.two
    cases e
    exact ⟨_, _, by rw [r1.1, r2.1], k.flat ⟨rfl, rfl⟩⟩
  · cases e
end
end DL
/-! for x in xs: .., where xs is a name's own list and x's things are changed in their places. -/
namespace DL
open PySem PySem.Spec L2
def loopM (i j : Nat) (fb : FS) : List D → List D → FS
  | done, [], ρ => some (.nx, ρ.set i (some (.lst done)))
  | done, d :: rest, ρ => if j < ρ.length then (fb (ρ.set j (some d))).bind fun (o, ρ2) => (slot ρ2 j).bind fun d' => match o with
    | .nx => loopM i j fb (done ++ [d']) rest (ρ2.set j none)
    | .ct => loopM i j fb (done ++ [d']) rest (ρ2.set j none)
    | .bk => none
    | .ret r => if imm r = true then some (.ret r, (ρ2.set j none).set i (some (.lst (done ++ d' :: rest)))) else none
    else none
def fForM (i j : Nat) (fb : FS) : FS := fun ρ => match slot ρ i with
  | some (.lst ds) => loopM i j fb [] ds (ρ.set i none)
  | _ => none
/-- over a name's own list so, over a thing that stands still as ever -/
def fForN (i j : Nat) (fb : FS) : FS := fun ρ => match slot ρ i with
  | some (.lst ds) => loopM i j fb [] ds (ρ.set i none)
  | _ => fFor (fSeqI (fVar i)) (fgName j) fb ρ
/-- the list is its name's again -/
theorem put_back {K : PySem.W.Frag} {H : Hp} {ρ : Fm} {σ : L2.St} {F g1 g2 : List Addr} {a : Addr} {vs : List V} {done rest : List D} {i n : Nat} (E : EnvR K H ρ σ F) (nd : (a :: ((g1 ++ g2) ++ F)).Nodup) (ha : H a = some (.lst vs))
    (r1 : RepL K H done (vs.take n) g1) (r2 : RepL K H rest (vs.drop n) g2) (si : σ[i]? = some (some (.ref a))) :
    ∃ F', EnvR K H (ρ.set i (some (.lst (done ++ rest)))) σ F' ∧ F'.Nodup ∧ ∀ p ∈ F', p ∈ a :: ((g1 ++ g2) ++ F) := by
  have hil : i < ρ.length := by rw [← E.length]; exact (List.getElem?_eq_some_iff.mp si).1
  have r := RepL.append r1 r2
  rw [List.take_append_drop] at r
  obtain ⟨na, nn⟩ := List.nodup_cons.mp nd
  obtain ⟨ng, nF, ngF⟩ := nodup3 nn
  obtain ⟨B1, fb, B3, rfl, E5⟩ := E.drop (i := i)
  have nBB : (B1 ++ B3).Nodup := (nodup3 (nodup_mid nF)).2.1
  obtain ⟨C1, C3, ec, E6⟩ := E5.put hil si (show Rep K H (.lst (done ++ rest)) (.ref a) (a :: (g1 ++ g2)) from ⟨a, vs, g1 ++ g2, rfl, ha, rfl, r⟩)
  have sub : ∀ b ∈ C1 ++ C3, b ∈ B1 ++ (fb ++ B3) := fun b hb => by rw [← ec] at hb; simp at hb ⊢; rcases hb with y | y <;> simp [y]
  refine ⟨_, E6, nodup_mid (nodup_of (List.nodup_cons.mpr ⟨fun z => na (List.mem_append_left _ z), ng⟩) (by rw [← ec]; exact nBB) fun b y z => ?_), fun p hp => ?_⟩
  · have z := sub b z
    rcases List.mem_cons.mp y with rfl | y
    · exact na (List.mem_append_right _ z)
    · exact ngF b y z
  · have key : p ∈ a :: (g1 ++ g2) ∨ p ∈ C1 ++ C3 := by
      simp only [List.mem_append, List.mem_cons] at hp ⊢
      rcases hp with h | (h | h | h) | h <;> simp [h]
    rcases key with y | y
    · rcases List.mem_cons.mp y with rfl | y
      · exact List.mem_cons_self
      · exact List.mem_cons_of_mem _ (List.mem_append_left _ y)
    · exact List.mem_cons_of_mem _ (List.mem_append_right _ (sub p y))
section
variable {X : Cx} {l tg : Expr} {body : List Stmt} {fb : FS} {W : List Nat} {pos : Pos} {i j : Nat}
theorem ds_forM (hp : PassesOwn (model X.prog X.w) X.A X.env X.xe) (hc : X.calm = true) (hl : PE X l (tVar i)) (hg : PG X tg (gName j)) (hb : DSs X W body fb) (hij : i ≠ j) (hi : i ∉ W) (hj : j ∉ W)
    (hs : ∀ x, foldedSetIterable l X.env x = pure x := by intro _; rfl) : DS X (j :: W) (.For tg l body [] pos) (fForM i j fb) :=
  ⟨ps_weak (ps_for hp hc (pi_list hl) hg hb.pss hs) fun Dn σ H ⟨ρ, F, o, ρ', E, nd, ef, k⟩ => by
    unfold fForM at ef
    split at ef
    case h_2 => cases ef
    rename_i ds es
    obtain ⟨v, F1, f, F3, e1, rfl, r1, E1⟩ := E.at (slot_some es)
    obtain ⟨a, vs, g, rfl, ha, rfl, rl⟩ := r1
    have nd2 := nodup_mid nd
    refine ⟨_, e1, a, rfl, ⟨vs, SqL.of ha⟩, ?_⟩
    refine ⟨fun n m σn Hn => m = ds.length - n ∧ n ≤ ds.length ∧ ∃ ρn Fn done g1 g2, EnvR X.K Hn ρn σn Fn ∧ (a :: ((g1 ++ g2) ++ Fn)).Nodup ∧ Hn a = some (.lst vs) ∧ RepL X.K Hn done (vs.take n) g1 ∧ RepL X.K Hn (ds.drop n) (vs.drop n) g2 ∧
        loopM i j fb done (ds.drop n) ρn = some (o, ρ') ∧ Step H (F1 ++ ((a :: g) ++ F3)) Hn (a :: ((g1 ++ g2) ++ Fn)) ∧ ∀ x, x ∉ j :: W → σn[x]? = σ[x]?,
      ⟨ds.length, by simp, Nat.zero_le _, ρ.set i none, F1 ++ F3, [], [], g, E1, by simpa using nd2, ha, by simp [RepL], by simpa using rl, by simpa using ef, Step.refl.to fun p hp => .inl (by simp at hp ⊢; rcases hp with h | h | h | h <;> simp [h]), fun _ _ => rfl⟩, ?_⟩
    rintro n m σn Hn ⟨rfl, hn, ρn, Fn, done, g1, g2, En, Nn, han, rd, rr, efn, Sn, wn⟩
    obtain ⟨na, nn⟩ := List.nodup_cons.mp Nn
    obtain ⟨ng, nF, ngF⟩ := nodup3 nn
    have lv : vs.length = ds.length := rl.length
    by_cases hlt : n < ds.length
    · have hd : ds.drop n = ds[n] :: ds.drop (n + 1) := List.drop_eq_getElem_cons hlt
      have hlv : n < vs.length := by omega
      have hv : vs.drop n = vs[n] :: vs.drop (n + 1) := List.drop_eq_getElem_cons hlv
      rw [hd] at efn rr
      rw [hv] at rr
      obtain ⟨x, rest, f1, f2, ex, rfl, r1, r2⟩ := rr
      injection ex with ex1 ex2
      subst ex1 ex2
      unfold loopM at efn
      obtain ⟨hjl, efn⟩ := by_cases_if efn
      obtain ⟨⟨o1, ρ2⟩, e4, efn⟩ := Option.bind_eq_some_iff.mp efn
      obtain ⟨d', e5, efn⟩ := Option.bind_eq_some_iff.mp efn
      refine .inr ⟨⟨vs, vs[n], SqL.of han, List.getElem?_eq_getElem hlv⟩, fun σ' H' => (n + 1 ≤ ds.length ∧ ∃ ρn Fn done g1 g2, EnvR X.K H' ρn σ' Fn ∧ (a :: ((g1 ++ g2) ++ Fn)).Nodup ∧ H' a = some (.lst vs) ∧ RepL X.K H' done (vs.take (n + 1)) g1 ∧
        RepL X.K H' (ds.drop (n + 1)) (vs.drop (n + 1)) g2 ∧ loopM i j fb done (ds.drop (n + 1)) ρn = some (o, ρ') ∧ Step H (F1 ++ ((a :: g) ++ F3)) H' (a :: ((g1 ++ g2) ++ Fn)) ∧ ∀ x, x ∉ j :: W → σ'[x]? = σ[x]?), fun σ' H' h => ⟨ds.length - (n + 1), by omega, rfl, h⟩, fun x H' yl => ?_⟩
      obtain ⟨rfl, yl⟩ := yl
      have := yl vs (SqL.of han)
      rw [List.getElem?_eq_getElem hlv] at this
      cases this
      -- the item is x's now
      have nf1 : (f1 ++ Fn).Nodup := nodup_of (nodup3 (nodup3 ng).2.1).1 nF fun b hb hc => ngF b (by simp [hb]) hc
      obtain ⟨F2, E2, N2, s2⟩ := En.store r1 nf1 hjl
      have ap : ∀ b ∈ a :: (g1 ++ f2), b ∉ F2 := fun b hb hc => by
        have := s2 b hc
        simp only [List.nodup_cons, List.mem_append, not_or] at Nn
        rcases List.mem_cons.mp hb with rfl | hb
        · rcases List.mem_append.mp this with z | z
          · exact Nn.1.1.2.1 z
          · exact Nn.1.2 z
        · rcases List.mem_append.mp this with z | z
          · rcases List.mem_append.mp hb with y | y
            · exact (nodup3 ng).2.2 b y (by simp [z])
            · exact (nodup3 (nodup3 ng).2.1).2.2 b z y
          · exact ngF b (by rcases List.mem_append.mp hb with y | y <;> simp [y]) z
      have si : (σn.set j (some vs[n]))[i]? = some (some (V.ref a)) := by
        rw [List.getElem?_set_ne (fun z => hij z.symm), wn i (by simp [hij, hi])]
        exact e1
      have sj : (σn.set j (some vs[n]))[j]? = some (some vs[n]) := by
        rw [List.getElem?_set_self (by rw [En.length]; exact hjl)]
      refine ⟨_, F2, o1, ρ2, E2, N2, e4, ?_⟩
      have core : ∀ σ' H2 F4, EnvR X.K H2 ρ2 σ' F4 → F4.Nodup → Step H' F2 H2 F4 → (∀ x, x ∉ W → σ'[x]? = (σn.set j (some vs[n]))[x]?) →
          ∃ Fn g1 g2, EnvR X.K H2 (ρ2.set j none) σ' Fn ∧ (a :: ((g1 ++ g2) ++ Fn)).Nodup ∧ H2 a = some (.lst vs) ∧ RepL X.K H2 (done ++ [d']) (vs.take (n + 1)) g1 ∧
          RepL X.K H2 (ds.drop (n + 1)) (vs.drop (n + 1)) g2 ∧ Step H (F1 ++ ((a :: g) ++ F3)) H2 (a :: ((g1 ++ g2) ++ Fn)) ∧ ∀ x, x ∉ j :: W → σ'[x]? = σ[x]? := by
        intro σ' H2 F4 E4 N4 S4 w4
        obtain ⟨w, A1, f', A3, e7, rfl, r7, E7⟩ := E4.at (slot_some e5)
        rw [w4 j hj, sj] at e7
        cases e7
        have mutA : ∀ b ∈ a :: (g1 ++ f2), MutO (H' b) := fun b hb => by
          rcases List.mem_cons.mp hb with rfl | hb
          · rw [han]; trivial
          · rcases List.mem_append.mp hb with y | y
            · exact RepL.mut _ _ _ rd b y
            · exact RepL.mut _ _ _ r2 b y
        have far : ∀ b ∈ a :: (g1 ++ f2), b ∉ A1 ++ (f' ++ A3) := S4.apart mutA ap
        have keep : Keep H' (a :: (g1 ++ f2)) H2 := S4.keep E2.mut ap
        have nm := nodup_mid N4
        obtain ⟨m1, m2, m3⟩ := nodup3 nm
        have far2 : ∀ b ∈ a :: (g1 ++ f2), b ∉ f' ∧ b ∉ A1 ++ A3 := fun b hb => ⟨fun z => far b hb (by simp [z]), fun z => far b hb (by simp at z ⊢; rcases z with y | y <;> simp [y])⟩
        refine ⟨A1 ++ A3, g1 ++ f', f2, E7, ?_, keep a _ han (.inr List.mem_cons_self), ?_, RepL.keep _ _ _ r2 (keep.sub fun b hb => by simp [hb]), ?_, ?_⟩
        · have n12 : (g1 ++ f2).Nodup := nodup_of (nodup3 ng).1 (nodup3 (nodup3 ng).2.1).2.1 fun b y z => (nodup3 ng).2.2 b y (by simp [z])
          refine List.nodup_cons.mpr ⟨fun z => ?_, nodup_of (nodup_of (nodup_of (nodup3 ng).1 m1 fun b y z => (far2 b (by simp [y])).1 z) (nodup3 n12).2.1 fun b y z => ?_) m2 fun b y z => ?_⟩
          · simp only [List.mem_append, or_assoc] at z
            rcases z with z | z | z | z | z
            · exact na (by simp [z])
            · exact (far2 a (by simp)).1 z
            · exact na (by simp [z])
            · exact (far2 a (by simp)).2 (by simp [z])
            · exact (far2 a (by simp)).2 (by simp [z])
          · rcases List.mem_append.mp y with y | y
            · exact (nodup3 n12).2.2 b y z
            · exact (far2 b (by simp [z])).1 y
          · simp only [List.mem_append, or_assoc] at y
            rcases y with y | y | y
            · exact (far2 b (by simp [y])).2 z
            · exact m3 b y z
            · exact (far2 b (by simp [y])).2 z
        · rw [List.take_add_one, List.getElem?_eq_getElem hlv]
          exact RepL.append (RepL.keep _ _ _ rd (keep.sub fun b hb => by simp [hb])) (RepL.of_one r7)
        · intro b u eb nb
          obtain ⟨x1, x2⟩ := Sn b u eb nb
          have nF2 : b ∉ F2 := fun z => x2 (by have := s2 b z; simp at this ⊢; rcases this with y | y <;> simp [y])
          obtain ⟨x3, x4⟩ := S4 b u x1 nF2
          refine ⟨x3, fun z => ?_⟩
          simp only [List.mem_cons, List.mem_append, or_assoc] at z x2 x4
          rcases z with z | z | z | z | z | z
          · exact x2 (by simp [z])
          · exact x2 (by simp [z])
          · exact x4 (by simp [z])
          · exact x2 (by simp [z])
          · exact x4 (by simp [z])
          · exact x4 (by simp [z])
        · intro x hx
          have hx1 : x ≠ j := fun z => hx (by simp [z])
          have hx2 : x ∉ W := fun z => hx (by simp [z])
          rw [w4 x hx2, List.getElem?_set_ne (fun z => hx1 z.symm), wn x hx]
      have next : ∀ σ' H2 F4, EnvR X.K H2 ρ2 σ' F4 → F4.Nodup → Step H' F2 H2 F4 → (∀ x, x ∉ W → σ'[x]? = (σn.set j (some vs[n]))[x]?) → loopM i j fb (done ++ [d']) (ds.drop (n + 1)) (ρ2.set j none) = some (o, ρ') →
          (n + 1 ≤ ds.length ∧ ∃ ρn Fn done g1 g2, EnvR X.K H2 ρn σ' Fn ∧ (a :: ((g1 ++ g2) ++ Fn)).Nodup ∧ H2 a = some (.lst vs) ∧ RepL X.K H2 done (vs.take (n + 1)) g1 ∧
          RepL X.K H2 (ds.drop (n + 1)) (vs.drop (n + 1)) g2 ∧ loopM i j fb done (ds.drop (n + 1)) ρn = some (o, ρ') ∧ Step H (F1 ++ ((a :: g) ++ F3)) H2 (a :: ((g1 ++ g2) ++ Fn)) ∧ ∀ x, x ∉ j :: W → σ'[x]? = σ[x]?) := by
        intro σ' H2 F4 E4 N4 S4 w4 e6
        obtain ⟨G, h1, h2, c1, c2, c3, c4, c5, c6, c7⟩ := core σ' H2 F4 E4 N4 S4 w4
        exact ⟨hlt, _, G, _, h1, h2, c1, c2, c3, c4, c5, e6, c6, c7⟩
      cases o1 with
      | nx => exact fun σ' H2 F4 E4 N4 S4 w4 => next σ' H2 F4 E4 N4 S4 w4 efn
      | ct => exact fun σ' H2 F4 E4 N4 S4 w4 => next σ' H2 F4 E4 N4 S4 w4 efn
      | bk => cases efn
      | ret d =>
        obtain ⟨c, efn⟩ := by_cases_if efn
        cases efn
        intro v σ' H2 gv F4 rv E4 N4 S4 w4
        cases rv.imm _ _ _ c
        rw [List.nil_append] at N4 S4
        obtain ⟨G, h1, h2, c1, c2, c3, c4, c5, c6, c7⟩ := core σ' H2 F4 E4 N4 S4 w4
        have si' : σ'[i]? = some (some (V.ref a)) := by rw [w4 i hi]; exact si
        obtain ⟨F5, E5, N5, s5⟩ := put_back c1 c2 c3 c4 c5 si'
        have e9 : done ++ [d'] ++ ds.drop (n + 1) = done ++ d' :: ds.drop (n + 1) := by simp
        rw [e9] at E5
        exact k v σ' H2 [] F5 rv E5 (by simpa using N5) (c6.to fun p hp => .inl (s5 p (by simpa using hp))) c7
    · have e3 : n = ds.length := by omega
      subst e3
      rw [List.drop_length] at efn rr
      cases efn
      have si : σn[i]? = some (some (V.ref a)) := by rw [wn i (by simp [hij, hi])]; exact e1
      obtain ⟨F5, E5, N5, s5⟩ := put_back En Nn han rd rr si
      rw [List.append_nil] at E5
      exact .inl ⟨⟨vs, SqL.of han, by omega⟩, k σn Hn F5 E5 N5 (Sn.to fun p hp => .inl (s5 p hp)) wn⟩⟩
theorem ds_forN (hp : PassesOwn (model X.prog X.w) X.A X.env X.xe) (hc : X.calm = true) (hl : PE X l (tVar i)) (hg : PG X tg (gName j)) (hb : DSs X W body fb) (hij : i ≠ j) (hi : i ∉ W) (hj : j ∉ W)
    (hs : ∀ x, foldedSetIterable l X.env x = pure x := by intro _; rfl) : DS X (j :: W) (.For tg l body [] pos) (fForN i j fb) := by
  have A := ds_forM (pos := pos) hp hc hl hg hb hij hi hj hs
  have B := ds_for (pos := pos) hp hc (di_seq (de_var hl)) (DG.dy (dg_name hg)) hb hs
  constructor
  refine ⟨fun pins s σ H Dn I h => ?_⟩
  obtain ⟨ρ, F, o, ρ', E, nd, ef, k⟩ := h
  unfold fForN at ef
  split at ef
  · rename_i ds es
    exact A.ps.run pins s σ H Dn I ⟨ρ, F, o, ρ', E, nd, by unfold fForM; rw [es]; exact ef, k⟩
  · exact B.ps.run pins s σ H Dn I ⟨ρ, F, o, ρ', E, nd, ef, k⟩
/-! ### an item of a display taken out of it -/
/-- [x, ..][k], the items may be such as are changed -/
def fPick (fa fb : FE) : FE := fun ρ => (fa ρ).bind fun (x, ρ1) => (fb ρ1).bind fun (y, ρ2) => match x, cont ρ2 y with
  | .val (.lst ds), some (.int i) => (atI ds i).map fun d => (.val d, ρ2)
  | _, _ => none
end
end DL
/-! for a, b in zip(x, y): lists that stand still and tuples, in any mix. -/
namespace DL
open PySem PySem.Spec L2
/-- one side of it: a tuple, else a list -/
def SqK (tup : Bool) (K : PySem.W.Frag) (H : Hp) (a : Addr) (vs : List V) : Prop := match tup with
  | true => SqT K H a vs
  | false => SqL K H a vs
def ItAt (tup : Bool) (h : Heap) (it a : Addr) (i : Nat) : Prop := match tup with
  | true => h.IsTupleIter it a i
  | false => h.IsListIter it a i
def IsAt (tup : Bool) (h : Heap) (a : Addr) (zs : Array Value) : Prop := match tup with
  | true => h.IsTuple a zs
  | false => h.IsList a zs
section
variable {X : Cx} {pins : List (Addr × Obj)} {σ : L2.St} {H : Hp} {s : Shared} {a it : Addr} {xs : List V} {h g : Heap} {i : Nat}
theorem side_at (k : Bool) (I : Inv X pins σ H s) (q : SqK k X.K H a xs) : ∃ zs : List Value, Vals xs zs ∧ IsAt k s.heap a zs.toArray ∧ a < s.heap.objs.size := by
  cases k with
  | true =>
    obtain ⟨zs, r, t, _⟩ := I.tuple q
    exact ⟨zs, r, t, t.elim fun _ z => Heap.lt_size z.1⟩
  | false =>
    obtain ⟨zs, r, t, _⟩ := I.list q
    exact ⟨zs, r, t.isList, t.isList.elim fun _ z => Heap.lt_size z.1⟩
theorem side_one (k : Bool) (I : Inv X pins σ H s) {ys : List V} (q : SqK k X.K H a xs) (q' : SqK k X.K H a ys) : ys = xs := by
  cases k with
  | true => exact I.tuple_inj q' q
  | false => exact I.list_inj q' q
theorem side_draws {P : Program} {w : World} {A : Around} (k : Bool) (still : A.handled = none) (it a : Addr) (ne : a ≠ it) (zs : Array Value) :
    Draws P w A it [it, a] zs.size (fun i v => zs[i]? = some v) (fun i h => ItAt k h it a i ∧ IsAt k h a zs) := by
  cases k with
  | true => exact Draws.tuple still it a ne zs
  | false => exact Draws.list still it a ne zs
theorem side_obj {k : Bool} (st : ItAt k h it a i) : ∃ o, h.get? it = some o ∧ ∀ v, o.data ≠ .cell v := by
  cases k with
  | true => obtain ⟨o, e, _, d⟩ := st; exact ⟨o, e, fun v => by rw [d]; exact nofun⟩
  | false => obtain ⟨o, e, _, d⟩ := st; exact ⟨o, e, fun v => by rw [d]; exact nofun⟩
theorem side_keep {k : Bool} (st : ItAt k h it a i) (same : ∀ o, h.get? it = some o → g.get? it = some o) : ItAt k g it a i := by
  cases k with
  | true => exact Heap.IsTupleIter.at st same
  | false => exact Heap.IsListIter.at st same
def sideObj (k : Bool) (a : Addr) : Obj := match k with
  | true => { cls := .type "tuple_iterator", data := .fields #[.ref a, .int 0 0] }
  | false => { cls := .type "list_iterator", data := .fields #[.ref a, .int 0 0] }
theorem side_begins (k : Bool) (a : Addr) (zs : Array Value) : Begins (.ref a) (sideObj k a) fun h => IsAt k h a zs := by
  cases k with
  | true => exact begins_tuple a zs
  | false => exact begins_list a zs
theorem side_fresh {k : Bool} (e : h.get? it = some (sideObj k a)) : ItAt k h it a 0 := by
  cases k with
  | true => exact ⟨_, e, rfl, rfl⟩
  | false => exact ⟨_, e, rfl, rfl⟩
end
/-- pairs of both, each new -/
def Itz2 (K : PySem.W.Frag) (k1 k2 : Bool) (a b : Addr) (m : Nat) : It where
  go i H := ∃ xs ys, SqK k1 K H a xs ∧ SqK k2 K H b ys ∧ min xs.length ys.length = m ∧ i < m
  yld i H v G := ∃ T x y, v = .ref T ∧ H T = none ∧ G = upd H T (.tup [x, y]) ∧ (∀ xs, SqK k1 K H a xs → xs[i]? = some x) ∧ ∀ ys, SqK k2 K H b ys → ys[i]? = some y
  stop i H := ∃ xs ys, SqK k1 K H a xs ∧ SqK k2 K H b ys ∧ min xs.length ys.length = m ∧ m ≤ i
structure Zst (k1 k2 : Bool) (a b z ti to i1 i2 : Addr) (m i : Nat) (h : Heap) : Prop where
  so_far : i ≤ m
  z_at : IsZip h z ti to .none
  ti_at : IsTupOf2 h ti (.ref i1) (.ref i2)
  to_at : ∃ x y, IsTupOf2 h to x y
  a_at : ItAt k1 h i1 a i
  b_at : ItAt k2 h i2 b i
theorem turn_zip {P : Program} {w : World} {K : PySem.W.Frag} {es : List Expr} {kk : Nat} {tp : Pos} {k1 k2 : Bool} {a b z ti to i1 i2 : Addr} {m : Nat} (S : ZipSep2 z ti to i1 i2 [i1, a] [i2, b]) (n1 : a ≠ i1) (n2 : b ≠ i2) :
    Turn P w K (.Tuple es kk tp) (Itz2 K k1 k2 a b m) [z, ti, to, i1, i2] z (Zst k1 k2 a b z ti to i1 i2 m) where
  mem := List.mem_cons_self
  obj i h st c hc := by
    have hc : c = z ∨ c = ti ∨ c = to ∨ c = i1 ∨ c = i2 := by simpa using hc
    rcases hc with rfl | rfl | rfl | rfl | rfl
    · exact ⟨_, st.z_at, nofun⟩
    · exact ⟨_, st.ti_at, nofun⟩
    · exact st.to_at.elim fun _ q => q.elim fun _ q => ⟨_, q, nofun⟩
    · exact side_obj st.a_at
    · exact side_obj st.b_at
  keep i h g st same := ⟨st.so_far, same z (by simp) _ st.z_at, same ti (by simp) _ st.ti_at, st.to_at.imp fun _ q => q.imp fun _ q => same to (by simp) _ q, side_keep st.a_at (same i1 (by simp)), side_keep st.b_at (same i2 (by simp))⟩
  item := by
    rintro X rfl rfl rfl calm i pins s σ H E I free st ⟨xs, ys, qa, qb, rfl, lt⟩
    obtain ⟨zs, ra, ta, _⟩ := side_at k1 I qa
    obtain ⟨us, rb, tb, _⟩ := side_at k2 I qb
    have walk := PySem.WalksT.zipD2 S (side_draws (P := X.prog) (w := X.w) (A := X.A.in1) k1 (I.ok.hd calm) i1 a n1 zs.toArray) (side_draws (P := X.prog) (w := X.w) (A := X.A.in1) k2 (I.ok.hd calm) i2 b n2 us.toArray)
    have size : min zs.toArray.size us.toArray.size = min xs.length ys.length := by simp [ra.length, rb.length]
    refine walk.item i s _ _ (size ▸ lt) ⟨st.z_at, st.ti_at, st.to_at, ⟨st.a_at, ta⟩, st.b_at, tb⟩ fun T vals g tk pv new tup mid kept => ⟨_, rfl, walk.go es kk tp i T _ _ _ mid fun g2 st2 kept2 => ?_⟩
    obtain ⟨u1, u2, h1, h2, rfl⟩ := pv
    obtain ⟨x, hx, r1⟩ : ∃ x, xs[i]? = some x ∧ RelV x u1 := by
      have lx : i < xs.length := by omega
      obtain ⟨u', e1, r'⟩ := ra.get (List.getElem?_eq_getElem lx)
      have e2 : zs[i]? = some u1 := by simpa using h1
      cases e1.symm.trans e2
      exact ⟨_, List.getElem?_eq_getElem lx, r'⟩
    obtain ⟨y, hy, r2⟩ : ∃ y, ys[i]? = some y ∧ RelV y u2 := by
      have ly : i < ys.length := by omega
      obtain ⟨u', e1, r'⟩ := rb.get (List.getElem?_eq_getElem ly)
      have e2 : us[i]? = some u2 := by simpa using h2
      cases e1.symm.trans e2
      exact ⟨_, List.getElem?_eq_getElem ly, r'⟩
    have far := walk.apart i T g mid
    obtain ⟨o, o1, o2, cap, o3⟩ := tup
    have pair : ObjOk X.prog X.w (upd H T (.tup [x, y])) g2 T (.tup [x, y]) :=
      ⟨show 2 ≤ sizeLine by decide, [u1, u2], .cons r1 (.cons r2 .nil), o, kept2 T o far o1, o2, cap, o3⟩
    have sub : ∀ c ∈ [z, to, i1, i2], c ∈ [z, ti, to, i1, i2] := fun c hc => by
      simp only [List.mem_cons, List.not_mem_nil, or_false] at hc ⊢
      rcases hc with q | q | q | q <;> simp [q]
    refine ⟨.ref T, _, I.turnedNew (ch := [z, to, i1, i2]) (fun c ob no q => kept2 c ob no (kept c ob no q)) (fun c hc => free c (sub c hc)) new pair, rfl, ⟨T, x, y, rfl, I.hok.fresh new, rfl, fun l hl => side_one k1 I qa hl ▸ hx, fun l hl => side_one k2 I qb hl ▸ hy⟩, ⟨lt, st2.1, st2.2.1, st2.2.2.1, st2.2.2.2.1.1, st2.2.2.2.2.1⟩, fun c hc => ?_⟩
    have apart : c ≠ T := fun q => by
      have := (free c hc).1
      subst q
      have hz := mid
      rcases (show c = z ∨ c = ti ∨ c = to ∨ c = i1 ∨ c = i2 by simpa using hc) with rfl | rfl | rfl | rfl | rfl
      · exact far (by simp)
      · exact absurd (Heap.lt_size st.ti_at) (Nat.not_lt.mpr new)
      · exact far (by simp)
      · exact far (by simp)
      · exact far (by simp)
    exact (upd_ne apart).trans (free c hc).1
  done := by
    rintro X rfl rfl rfl calm i pins s σ H E I free st ⟨xs, ys, qa, qb, rfl, past⟩
    obtain rfl := Nat.le_antisymm st.so_far past
    obtain ⟨zs, ra, ta, _⟩ := side_at k1 I qa
    obtain ⟨us, rb, tb, _⟩ := side_at k2 I qb
    have walk := PySem.WalksT.zipD2 S (side_draws (P := X.prog) (w := X.w) (A := X.A.in1) k1 (I.ok.hd calm) i1 a n1 zs.toArray) (side_draws (P := X.prog) (w := X.w) (A := X.A.in1) k2 (I.ok.hd calm) i2 b n2 us.toArray)
    have size : min zs.toArray.size us.toArray.size = min xs.length ys.length := by simp [ra.length, rb.length]
    have sub : ∀ c ∈ [z, to, i1, i2], c ∈ [z, ti, to, i1, i2] := fun c hc => by
      simp only [List.mem_cons, List.not_mem_nil, or_false] at hc ⊢
      rcases hc with q | q | q | q <;> simp [q]
    exact walk.done s _ _ (size.symm ▸ ⟨st.z_at, st.ti_at, st.to_at, ⟨st.a_at, ta⟩, st.b_at, tb⟩) fun g tk kept => ⟨rfl, I.turnedL (t' := tk) kept fun c hc => free c (sub c hc)⟩
  self A i s Q E st q := wpAny_pyIter_zip st.z_at q
def iZip2 (K : PySem.W.Frag) (k1 k2 : Bool) (ta : TA) : TI := fun σ H R => ta σ H fun vs G => ∃ a b xs ys, vs = [.ref a, .ref b] ∧ SqK k1 K G a xs ∧ SqK k2 K G b ys ∧ R (Itz2 K k1 k2 a b (min xs.length ys.length)) G
theorem pi_zip2 {X : Cx} {e e2 : Expr} {ta : TA} {p pos tp : Pos} {es : List Expr} {kk : Nat} (k1 k2 : Bool) (hg : Gl X "zip") (hm : X.mg "zip" = none) (ha : PA X [e, e2] ta)
    (hs : starEach [e, e2] X.env = (false, eval e X.env) :: starEach [e2] X.env := by rfl) (hp : (backTo pos (starEach [e2] X.env)).any (·.1) = false := by rfl) :
    PI X (.Tuple es kk tp) (.Call (.Name "zip" p) [e, e2] [] pos) (iZip2 X.K k1 k2 ta) where
  run pins s σ H R I h := PyProof.Rows.Call_ <| ld_blt I hg hm PyProof.Rows.boot_zip <| PyProof.Rows.callWith_type1 (thn (ha.run pos pins s σ H _ I h) <| by
    rintro us t ⟨_, G, J, r, a, b, xs, ys, rfl, qa, qb, q⟩
    obtain ⟨_, _, rfl, r1, r2⟩ := vals2 r
    cases r1
    cases r2
    obtain ⟨zs, ra, ta, la⟩ := side_at k1 J qa
    obtain ⟨us, rb, tb, lb⟩ := side_at k2 J qb
    refine zip_begins2 (side_begins k1 a zs.toArray) (side_begins k2 b us.toArray) ta tb fun g z1 z2 z3 z4 z5 _ kept => wpAny_pyIter_zip z1 ?_
    have S : ZipSep2 (t.heap.objs.size + 4) (t.heap.objs.size + 2) (t.heap.objs.size + 3) t.heap.objs.size (t.heap.objs.size + 1) [t.heap.objs.size, a] [t.heap.objs.size + 1, b] :=
      zip_sep2 (fp1 := [a]) (fp2 := [b]) (fun c hc => by simp at hc; subst hc; exact la) (fun c hc => by simp at hc; subst hc; exact lb)
    refine ⟨_, _, _, _, G, rfl, J.kept (t' := t.toks) kept, turn_zip S (Nat.ne_of_lt la) (Nat.ne_of_lt (Nat.lt_succ_of_lt lb)), ⟨Nat.zero_le _, z1, z2, ⟨_, _, z3⟩, side_fresh z4, side_fresh z5⟩, fun c hc => ?_, q⟩
    have new : t.heap.objs.size ≤ c := by
      rcases (show c = _ ∨ c = _ ∨ c = _ ∨ c = _ ∨ c = _ by simpa using hc) with rfl | rfl | rfl | rfl | rfl
      · exact Nat.le_add_right _ _
      · exact Nat.le_add_right _ _
      · exact Nat.le_add_right _ _
      · exact Nat.le_refl _
      · exact Nat.le_add_right _ _
    exact J.fpOk new (J.hok.fresh new)) hs hp
/-- pairs, as far as both go -/
def zipped (ds es : List D) : List D := List.zipWith (fun d e => .tup [d, e]) ds es
def fZip (fr : FA) : FI := fun ρ => (fr ρ).bind fun (rs, ρ1) => (conts ρ1 rs).bind fun ds => match ds with
  | [x, y] => (seqS x).bind fun ds => (seqS y).map fun es => (zipped ds es, ρ1)
  | _ => none
where
  /-- what stands still -/
  seqS : D → Option (List D)
    | .tup ds => if immL ds = true then some ds else none
    | .flst ds => if immL ds = true then some ds else none
    | _ => none
section
variable {K : PySem.W.Frag}
/-- such a thing at any later time -/
def StillS (K : PySem.W.Frag) (k : Bool) (a : Addr) (vs : List V) (ds : List D) (H : Hp) : Prop := (match k with
  | true => TupR K H a vs
  | false => SqF K H a vs) ∧ RepL K H ds vs []
theorem StillS.keep {k : Bool} {a : Addr} {vs : List V} {ds : List D} {H G : Hp} (h : StillS K k a vs ds H) (kp : Keep H [] G) : StillS K k a vs ds G := by
  cases k with
  | true => exact ⟨tupR_keep h.1 kp, RepL.keep _ _ _ h.2 kp⟩
  | false => exact ⟨SqF.keep h.1 kp, RepL.keep _ _ _ h.2 kp⟩
theorem StillS.sq {k : Bool} {a : Addr} {vs : List V} {ds : List D} {H : Hp} (h : StillS K k a vs ds H) : SqK k K H a vs := by
  cases k with
  | true => exact h.1.sq
  | false => exact h.1.seq
theorem zip_len {ds es : List D} : (zipped ds es).length = min ds.length es.length := List.length_zipWith
theorem src_zip {k1 k2 : Bool} {a b : Addr} {vs ws : List V} {ds es : List D} (c1 : immL ds = true) (c2 : immL es = true) :
    SrcOk K (Weak K) (Itz2 K k1 k2 a b (min vs.length ws.length)) (zipped ds es) fun H => StillS K k1 a vs ds H ∧ StillS K k2 b ws es H where
  keep H G h k := ⟨h.1.keep k, h.2.keep k⟩
  go H n h lt := ⟨vs, ws, h.1.sq, h.2.sq, rfl, by rw [zip_len, ← h.1.2.length, ← h.2.2.length] at lt; exact lt⟩
  stop H n h ge := ⟨vs, ws, h.1.sq, h.2.sq, rfl, by rw [zip_len, ← h.1.2.length, ← h.2.2.length] at ge; exact ge⟩
  yld H n x G d h y hd := by
    obtain ⟨T, u1, u2, rfl, new, rfl, t1, t2⟩ := y
    have e1 := t1 vs h.1.sq
    have e2 := t2 ws h.2.sq
    obtain ⟨d1, f1, r1⟩ := h.1.2.each c1 n u1 e1
    obtain ⟨d2, f2, r2⟩ := h.2.2.each c2 n u2 e2
    have : (zipped ds es)[n]? = some (.tup [d1, d2]) := by
      unfold zipped
      rw [List.getElem?_zipWith, f1, f2]
    rw [this] at hd
    cases hd
    have sm := upd_same_of (o := .tup [u1, u2]) new
    exact ⟨⟨_, T, _, rfl, rfl, .inl (.inl upd_same), _, _, [], [], rfl, rfl, Rep.keep _ _ _ r1 (Same.keep sm), _, _, [], [], rfl, rfl, Rep.keep _ _ _ r2 (Same.keep sm), rfl, rfl⟩, sm⟩
end
theorem pi_all {X : Cx} {tg e : Expr} {α : Type} {t : α → TI} (h : ∀ a, PI X tg e (t a)) : PI X tg e (fun σ H R => ∃ a, t a σ H R) := ⟨fun pins s σ H R I ⟨a, q⟩ => (h a).run pins s σ H R I q⟩
theorem pi_late {X : Cx} {e e2 : Expr} {ta : TA} {p pos tp : Pos} {es : List Expr} {kk : Nat} (hg : Gl X "zip") (hm : X.mg "zip" = none) (ha : PA X [e, e2] ta)
    (hs : starEach [e, e2] X.env = (false, eval e X.env) :: starEach [e2] X.env := by rfl) (hp : (backTo pos (starEach [e2] X.env)).any (·.1) = false := by rfl) :
    PI X (.Tuple es kk tp) (.Call (.Name "zip" p) [e, e2] [] pos) (fun σ H R => ∃ k : Bool × Bool, iZip2 X.K k.1 k.2 ta σ H R) := pi_all fun k => pi_zip2 k.1 k.2 hg hm ha hs hp
def kindS : D → Bool
  | .tup _ => true
  | _ => false
theorem still_at {K : PySem.W.Frag} {H : Hp} {d : D} {v : V} {p : List Addr} {ds : List D} (r : Rep K H d v p) (e : fZip.seqS d = some ds) : ∃ a vs, v = .ref a ∧ StillS K (kindS d) a vs ds H ∧ immL ds = true := by
  unfold fZip.seqS at e
  split at e
  · obtain ⟨c, rfl⟩ := if_some e
    obtain ⟨a, vs, rfl, t, rl⟩ := r
    exact ⟨a, vs, rfl, ⟨t, rl.nil_of c⟩, c⟩
  · obtain ⟨c, rfl⟩ := if_some e
    obtain ⟨a, vs, rfl, t, rl⟩ := r
    exact ⟨a, vs, rfl, ⟨t, rl.nil_of c⟩, c⟩
  · cases e
/-- for a, b in zip(x, y) -/
theorem di_zip {X : Cx} {e e2 : Expr} {p pos tp : Pos} {es : List Expr} {kk : Nat} {fr : FA} (hg : Gl X "zip") (hm : X.mg "zip" = none) (ha : DA X [e, e2] fr)
    (hs : starEach [e, e2] X.env = (false, eval e X.env) :: starEach [e2] X.env := by rfl) (hp : (backTo pos (starEach [e2] X.env)).any (·.1) = false := by rfl) :
    DI X (Weak X.K) (.Tuple es kk tp) (.Call (.Name "zip" p) [e, e2] [] pos) (fZip fr) :=
  ⟨pi_weak (pi_late hg hm ha.pa hs hp) fun σ H R ⟨ρ, F, ds, ρ', env, nd, ef, k⟩ => by
    obtain ⟨⟨rs, ρ1⟩, e1, ef⟩ := Option.bind_eq_some_iff.mp ef
    obtain ⟨xs, e2, ef⟩ := Option.bind_eq_some_iff.mp ef
    split at ef
    case h_2 => cases ef
    rename_i x y
    obtain ⟨as, e3, ef⟩ := Option.bind_eq_some_iff.mp ef
    obtain ⟨bs, e4, ef⟩ := Option.map_eq_some_iff.mp ef
    cases ef
    refine ⟨(kindS x, kindS y), ρ, F, rs, ρ', env, nd, e1, fun vs G g F' r env1 nd1 S1 => ?_⟩
    obtain ⟨len, each⟩ := r.conts env1 e2
    match vs, len with
    | [v, w], _ =>
      obtain ⟨_, r1, _⟩ := each 0 _ v rfl rfl
      obtain ⟨_, r2, _⟩ := each 1 _ w rfl rfl
      obtain ⟨a, vs, rfl, s1, c1⟩ := still_at r1 e3
      obtain ⟨b, ws, rfl, s2, c2⟩ := still_at r2 e4
      exact ⟨a, b, vs, ws, rfl, s1.sq, s2.sq, k _ G F' _ (src_zip c1 c2) ⟨s1, s2⟩ env1 (nodup3 nd1).2.1 (S1.to fun b hb => .inl (List.mem_append_right _ hb))⟩⟩
end DL
namespace DL
open PySem PySem.Spec L2
/-! ### a name's list made longer by another name's whole numbers, which stay there -/
def fExtV (i j : Nat) : FE := fun ρ => (slot ρ i).bind fun d => (slot ρ j).bind fun e => match d, e with
  | .lst ds, .lst es => (intsOf es).bind fun ns => if ds.length + ns.length ≤ sizeLine then some (.val .non, ρ.set i (some (.lst (ds ++ ns.map .int)))) else none
  | _, _ => none
/-- longer by known numbers, wherever they stand -/
def rBy (ns : List Int) : V → List V → Hp → VK → Prop := fun x _ H Q => ∃ l xs, x = .ref l ∧ H l = some (.lst xs) ∧ xs.length + ns.length ≤ sizeLine ∧ Q .non (upd H l (.lst (xs ++ ns.map V.int)))
def mBy (ns : List Int) : D → List D → Option (D × D)
  | .lst ds, [] => if ds.length + ns.length ≤ sizeLine then some (.lst (ds ++ ns.map .int), .non) else none
  | _, _ => none
theorem ints_rep {K : PySem.W.Frag} {H : Hp} : ∀ ns : List Int, RepL K H (ns.map D.int) (ns.map V.int) []
  | [] => ⟨rfl, rfl⟩
  | n :: ns => ⟨.int n, ns.map V.int, [], [], rfl, rfl, ⟨rfl, rfl⟩, ints_rep ns⟩
theorem mu_by {K : PySem.W.Frag} (ns : List Int) : MutS K (rBy ns) (mBy ns) := by
  intro H d v f ds vs p d' z Q rd ra nd e k
  cases d <;> cases ds <;> try cases e
  rename_i es
  obtain ⟨fit, e⟩ := if_some e
  cases e
  obtain ⟨l, xs, g, rfl, at1, rfl, rl⟩ := rd
  obtain ⟨_, rfl⟩ := ra
  rw [List.append_nil] at nd
  refine ⟨l, xs, rfl, at1, by rw [rl.length]; exact fit, ?_⟩
  have free := (List.nodup_cons.mp nd).1
  have still := RepL.keep _ _ _ (rl.append (ints_rep ns)) (keep_upd (a := l) (o := .lst (xs ++ ns.map V.int)) (by rw [at1]; trivial) (by simpa using free))
  rw [List.append_nil] at still
  exact k .non _ (l :: g) [] ⟨l, _, g, rfl, upd_same, rfl, still⟩ ⟨rfl, rfl⟩ nd (fun a ha => .inl (by simpa using ha)) upd_other
section
variable {X : Cx} {i j : Nat}
theorem de_extV {E : Expr} (h : PE X E (tBM X.K "list" rExtend (rdP X.K (fpVar i)) (rdA X.K (fCons (fVar j) fNil)))) : DE X E (fExtV i j) :=
  ⟨pe_weak h fun σ H Q ⟨ρ, F, r0, ρ', En, nd, ef, k⟩ => by
    obtain ⟨d, e0, ef⟩ := Option.bind_eq_some_iff.mp ef
    obtain ⟨e, e1, ef⟩ := Option.bind_eq_some_iff.mp ef
    cases d with
    | lst ds =>
      cases e with
      | lst es =>
        obtain ⟨ns, e2, ef⟩ := Option.bind_eq_some_iff.mp ef
        obtain ⟨fit, ef⟩ := if_some ef
        cases ef
        refine ⟨ρ, F, .sl i, ρ, En, nd, by unfold fpVar; rw [e0]; rfl, fun v H1 F1 hv E1 N1 S1 => ?_⟩
        obtain ⟨f0, _, r00, _⟩ := E1.lens N1 (show getP ρ (.sl i) = some (.lst ds) from e0) hv
        refine ⟨ok_lst (d := .lst ds) rfl r00, ?_⟩
        obtain ⟨Fh, Eh, nh, sub, back⟩ := hidden E1 N1 (show getP ρ (.sl i) = some (.lst ds) from e0) hv
        refine ⟨ρ, Fh, [.var j], ρ, Eh, nh, by unfold fCons fVar fNil; rw [e1]; rfl, fun vs H2 g2 F2 r2 E2 N2 S2 => ?_⟩
        obtain ⟨ln, at_⟩ := r2.conts E2 (ds := [.lst es]) (by unfold DL.conts; show (slot ρ j).bind _ = _; rw [e1]; rfl)
        obtain ⟨b, rfl⟩ : ∃ b, vs = [b] := by
          match vs, ln with
          | [b], _ => exact ⟨b, rfl⟩
        obtain ⟨q, ⟨B, zs, g, rfl, hB, _, rz⟩, _⟩ := at_ 0 _ _ rfl rfl
        have ez : zs = ns.map V.int := by
          exact (rz.ints e2).1
        obtain ⟨hv2, F4, E4, N4, S4⟩ := back [] (by simp) (by simp) H2 ρ F2 g2 E2 N2 S2
        have g0 : g2 = [] := by
          obtain ⟨_, _, a1, a2, _, rfl, ⟨_, rfl⟩, ⟨_, rfl⟩⟩ := r2
          rfl
        subst g0
        obtain ⟨l, xs, ev, at1, fit2, q2⟩ := change (ds := []) (vs := []) (p2 := []) (mu_by ns) (S1.trans S4) E4 N4 ⟨rfl, rfl⟩ hv2 (show getP _ (.sl i) = some (.lst ds) from e0) (show mBy ns (.lst ds) [] = _ from if_pos fit) fun u H' h F' r1 E' n' S' => k u H' h F' r1 E' n' S'
        refine ⟨l, B, xs, zs, ev, rfl, at1, hB, by rw [ez, List.length_map]; exact fit2, by rw [ez]; exact q2⟩
      | _ => cases ef
    | _ => cases ef⟩
end
end DL
namespace DL
open PySem PySem.Spec L2 PyProof.Rows
/-! ### a tuple times a whole number -/
section
open PySem.AutoSeq1
/-- once: it is the tuple itself -/
theorem once_walk (l : Addr) (xs : Array Value) (n : Nat) (dd : Option Addr) (sl : Array (Option Value)) (u : Tok) :
    Meets (Builtin.«tuple.__mul__» ⟨[.ref l, .int 1 u], []⟩) (fun _ R s => s.heap.get? l = some { cls := .type "tuple", dict := dd, data := .seq xs n, slots := sl } ∧ R (.ok (.ret (Value.ref l))) s) := by
  refine .of_wp fun prog w A R s ⟨at1, rest⟩ => ?_
  obtain ⟨hp, gs, dr, tk, os⟩ := s
  have y1 := AutoSeq1.idx_int
  have c1 : (xs.isEmpty || (1 : Int) == 1) = true := by simp
  wp_walk using wpAny_loadPart' at1
  exact ⟨_, rfl, rest⟩
end
def rTimes (K : PySem.W.Frag) : R2 := fun x y H Q => ∃ l k xs, x = .ref l ∧ y = .int k ∧ SqT K H l xs ∧ xs ≠ [] ∧ 1 ≤ k ∧ k ≤ 1000 ∧ xs.length ≤ 1000 ∧ (k = 1 → Q x H) ∧ (2 ≤ k → newT H (List.replicate k.toNat xs).flatten Q)
theorem op_times {X : Cx} : OpR X (binaryOp .Mult) (rTimes X.K) := by
  intro pins s σ H x y v u Q I rx ry ⟨l, k, xs, ex, ey, hT, void, k1, k2, few, once, more⟩
  subst ex ey
  cases rx
  obtain ⟨t, rfl⟩ := ry
  obtain ⟨zs, r, ⟨⟨c, dc, body, so⟩, found, hc, m, hb⟩, _⟩ := I.tuple hT
  cases hc
  cases hb
  have same := r.length
  -- the tuple's own method, once or more often
  have mul : wpAny (model X.prog X.w) X.A (call (.builtin "tuple.__mul__") [.ref l, .int k t]) (EP X pins σ Q) X.xe s := by
    by_cases one : k = 1
    · subst one
      exact call_meets F.slot_tuple_mul ⟨_, found, rfl⟩ F.entry_tuple_mul (F.args_tuple_mul_2 _ _) (once_walk l zs.toArray m dc so t) ⟨found, .ref l, H, I, rfl, once rfl⟩
    · have some1 : zs ≠ [] := fun z => void (by rw [z] at same; exact List.eq_nil_of_length_eq_zero same)
      have notVoid : zs.toArray.isEmpty = false := by simpa using some1
      have long : ∀ {α : Type} (q : List α), q.length ≤ 1000 → (List.replicate k.toNat q).flatten.length ≤ sizeLine := fun q hq => by
        rw [List.length_flatten, List.map_replicate, List.sum_replicate_nat]
        exact Nat.le_trans (Nat.mul_le_mul (show k.toNat ≤ 1000 by omega) hq) (by decide)
      have prod : ((zs.toArray.size : Nat) : Int) * k ≤ 1000000 := by
        rw [List.size_toArray, ← same]
        exact Int.le_trans (Int.mul_le_mul_of_nonneg_right (show ((xs.length : Nat) : Int) ≤ 1000 by omega) (by omega)) (by omega)
      have tame : Builtin.Tuple.tupleTooMany (((zs.toArray.size : Nat) : Int) * k) = false := decide_eq_false (by rw [sizeLine_eq]; omega)
      refine call_meets F.slot_tuple_mul ⟨_, found, rfl⟩ F.entry_tuple_mul (F.args_tuple_mul_2 _ _)
        (tuple_mulW l zs.toArray m dc so k t (by simp; omega) (by simp [notVoid, one]) (by simp [notVoid]; omega) (by omega) tame (by rw [size_rep, List.size_toArray]; exact long zs (by omega))) ⟨found, ?_⟩
      rw [size_rep]
      exact newT_fin (t' := s.toks) I (r.rep k.toNat) (long xs few) (more (by omega))
  exact wpAny_binaryOp_repeat_ref (T := "tuple") (U := "int") (by decide) ⟨_, found, rfl⟩ (fun s' => typeIs_int s' k t) noFill_tuple_mul F.fills_int_mul F.slot_int_rmul repeat_tuple F.slot_int_index.lookup
    (call_meets F.slot_int_rmul (typeIs_int s k t) F.entry_int_rmul (F.args_int_rmul_2 _ _) (int_rmul_tuple k t l zs.toArray m dc so) ⟨found, rfl, ⟨_, found, rfl⟩, mul⟩)
def dTimes : D → D → Option D
  | .tup a, .int k => if immL a = true ∧ a ≠ [] ∧ 1 ≤ k ∧ k ≤ 1000 ∧ a.length ≤ 1000 then some (.tup (List.replicate k.toNat a).flatten) else none
  | _, _ => none
theorem o2_times {K : PySem.W.Frag} : Op2 K (rTimes K) dTimes := by
  intro H x y v w p q z Q r1 r2 e h
  cases x <;> cases y <;> try cases e
  rename_i a k
  obtain ⟨⟨c, hne, h1, h2, h3⟩, rfl⟩ := if_some e
  obtain ⟨pa, va, rfl, ea, ra⟩ := r1
  have la := ra.length
  refine ⟨pa, k, va, rfl, r2.1, ea.sq, fun z => hne (by rw [z] at la; exact List.eq_nil_of_length_eq_zero la.symm), h1, h2, by omega, fun h1 => ?_, fun _ t o ht hd => ?_⟩
  · subst h1
    exact h _ H [] ⟨pa, va, rfl, ea, by simpa using ra.nil_of c⟩ List.nodup_nil (by simp) (Same.refl H)
  · have sm := upd_same_of (o := .frz o (.tup (List.replicate k.toNat va).flatten)) ht
    exact h _ _ [] ⟨t, _, rfl, .inl ⟨o, upd_same, hd⟩, RepL.keep _ _ _ ((ra.nil_of c).rep _) (Same.keep sm)⟩ List.nodup_nil (by simp) sm
end DL
/-! tuple(range(n)), tuple(range(i, j, c)), list(range(i, j, c)), by steps above nought. -/
namespace DL
open PySem PySem.Spec L2 PyProof.Rows
def stepN (i j c : Int) : Nat := if i < j then ((j - i - 1) / c + 1).toNat else 0
def stepOk (i j c : Int) : Bool := okR i && okR j && decide (0 < c) && decide (c < 1000000) && decide (stepN i j c ≤ 2 ^ 24)
def stepD (i c : Int) (n : Nat) : List D := (List.range n).map fun k => D.int (i + (k : Nat) * c)
/-! ### meanings -/
def fTupRg1 (fa : FE) : FE := fun ρ => (fa ρ).bind fun (r, ρ1) => (cont ρ1 r).bind fun d => match d with
  | .int j => if stepOk 0 j 1 = true then some (.val (.tup (stepD 0 1 (stepN 0 j 1))), ρ1) else none
  | _ => none
def dSt : List D → Option (Int × Int × Nat)
  | [.int i, .int j, .int c] => if stepOk i j c = true then some (i, c, stepN i j c) else none
  | _ => none
def fTupRg3 (fr : FA) : FE := fun ρ => (fr ρ).bind fun (rs, ρ1) => (conts ρ1 rs).bind fun ds => (dSt ds).map fun z => (.val (.tup (stepD z.1 z.2.1 z.2.2)), ρ1)
def fLstRg3 (fr : FA) : FE := fun ρ => (fr ρ).bind fun (rs, ρ1) => (conts ρ1 rs).bind fun ds => (dSt ds).map fun z => (.val (.lst (stepD z.1 z.2.1 z.2.2)), ρ1)
end DL
/-! min of a list of data that can be put in order. -/
namespace DL
open PySem PySem.Spec L2
mutual
/-- numbers, texts, truths, tuples of such -/
def plain : D → Bool
  | .bl _ => true | .int _ => true | .str _ => true
  | .tup ds => plainL ds
  | _ => false
def plainL : List D → Bool
  | [] => true
  | d :: ds => plain d && plainL ds
end
mutual
theorem plain_inj : ∀ (x y : D), plain x = true → plain y = true → toP x = toP y → x = y
  | .bl a, y, _, hy, e => by cases y <;> first | (cases hy; done) | (cases e; done) | (cases e; rfl)
  | .int a, y, _, hy, e => by cases y <;> first | (cases hy; done) | (cases e; done) | (cases e; rfl)
  | .str a, y, _, hy, e => by cases y <;> first | (cases hy; done) | (cases e; done) | (cases e; rfl)
  | .tup ds, y, hx, hy, e => by
    cases y with
    | tup es =>
      have e : PyData.tuple (toPL ds) = .tuple (toPL es) := e
      injection e with e
      rw [plainL_inj ds es hx hy e]
    | _ => first | (cases hy; done) | (cases e; done)
  | .non, y, hx, _, _ => by cases hx
  | .lst _, y, hx, _, _ => by cases hx
  | .flst _, y, hx, _, _ => by cases hx
  | .dic _, y, hx, _, _ => by cases hx
theorem plainL_inj : ∀ (xs ys : List D), plainL xs = true → plainL ys = true → toPL xs = toPL ys → xs = ys
  | [], [], _, _, _ => rfl
  | [], _ :: _, _, _, e => by cases e
  | _ :: _, [], _, _, e => by cases e
  | x :: xs, y :: ys, hx, hy, e => by
    have hx : (plain x && plainL xs) = true := hx
    have hy : (plain y && plainL ys) = true := hy
    rw [Bool.and_eq_true] at hx hy
    have e : toP x :: toPL xs = toP y :: toPL ys := e
    injection e with e1 e2
    rw [plain_inj x y hx.1 hy.1 e1, plainL_inj xs ys hx.2 hy.2 e2]
end
mutual
theorem plain_ok : ∀ (x : D), plain x = true → noDic x = true ∧ imm x = true ∧ toP x ≠ .none
  | .bl _, _ => ⟨rfl, rfl, nofun⟩
  | .int _, _ => ⟨rfl, rfl, nofun⟩
  | .str _, _ => ⟨rfl, rfl, nofun⟩
  | .tup ds, h => ⟨(plainL_ok ds h).1, (plainL_ok ds h).2, nofun⟩
  | .non, h => by cases h
  | .lst _, h => by cases h
  | .flst _, h => by cases h
  | .dic _, h => by cases h
theorem plainL_ok : ∀ (xs : List D), plainL xs = true → noDicL xs = true ∧ immL xs = true
  | [], _ => ⟨rfl, rfl⟩
  | x :: xs, h => by
    have h : (plain x && plainL xs) = true := h
    rw [Bool.and_eq_true] at h
    obtain ⟨a, b, _⟩ := plain_ok x h.1
    obtain ⟨c, d⟩ := plainL_ok xs h.2
    exact ⟨show (noDic x && noDicL xs) = true by rw [a, c]; rfl, show (imm x && immL xs) = true by rw [b, d]; rfl⟩
end
theorem plainL_mem : ∀ {xs : List D}, plainL xs = true → ∀ x ∈ xs, plain x = true
  | y :: xs, h, x, hx => by
    have h : (plain y && plainL xs) = true := h
    rw [Bool.and_eq_true] at h
    rcases List.mem_cons.1 hx with rfl | hx
    · exact h.1
    · exact plainL_mem h.2 x hx
/-- the first of the least -/
def lessD (a y : D) : D := if PySem.W.dataLt (toP y) (toP a) = true then y else a
def leastD (d : D) (ds : List D) : D := ds.foldl lessD d
theorem leastD_P : ∀ (ds : List D) (d : D), toP (leastD d ds) = PySem.W.minD (toP d) (toPL ds)
  | [], d => rfl
  | y :: ds, d => by
    have q : leastD d (y :: ds) = leastD (lessD d y) ds := rfl
    rw [q, leastD_P ds]
    show _ = PySem.W.minD (if PySem.W.dataLt (toP y) (toP d) = true then toP y else toP d) (toPL ds)
    unfold lessD
    split <;> rfl
theorem leastD_mem : ∀ (ds : List D) (d : D), leastD d ds ∈ d :: ds
  | [], d => List.mem_cons_self
  | y :: ds, d => by
    have q : leastD d (y :: ds) = leastD (lessD d y) ds := rfl
    rw [q]
    have := leastD_mem ds (lessD d y)
    unfold lessD at this ⊢
    rcases List.mem_cons.1 this with h | h
    · rw [h]
      split
      · exact List.mem_cons_of_mem _ List.mem_cons_self
      · exact List.mem_cons_self
    · exact List.mem_cons_of_mem _ (List.mem_cons_of_mem _ h)
def dMinD : List D → Option D
  | [x] => (lstOf x).bind fun ds => match ds with
    | [] => none
    | d :: ds => if plainL (d :: ds) = true ∧ allAlike ((d :: ds).map toP) = true ∧ (∀ e ∈ d :: ds, (toP e).depth ≤ 30) then some (leastD d ds) else none
  | _ => none
def rMinD (K : PySem.W.Frag) : List V → Hp → VK → Prop := fun vs H Q => ∃ (a : Addr) (d : D) (ds : List D) (ws : List V), vs = [.ref a] ∧ SqL K H a ws ∧ RepL K H (d :: ds) ws [] ∧
  plainL (d :: ds) = true ∧ allAlike ((d :: ds).map toP) = true ∧ (∀ e ∈ d :: ds, (toP e).depth ≤ 30) ∧ ∀ w, Rep K H (leastD d ds) w [] → Q w H
theorem depths_le {k : Nat} : ∀ {ds : List D}, (∀ d ∈ ds, (toP d).depth ≤ k) → PyData.depthAll (toPL ds) ≤ k
  | [], _ => by simp [toPL, PyData.depthAll]
  | d :: ds, h => by
    have a := h d List.mem_cons_self
    have b := depths_le fun x hx => h x (List.mem_cons_of_mem d hx)
    simp only [toPL, PyData.depthAll]
    omega
theorem toPL_is (ds : List D) : toPL ds = ds.map toP := by
  induction ds with
  | nil => rfl
  | cons d ds ih => rw [toPL, ih]; rfl
theorem cx_minD {X : Cx} (calm : X.calm = true) (hu : X.A.units + 40 < cLine) : CallR X (.builtin "min") (rMinD X.K) := by
  rintro pins st σ H _ us Q I r ⟨a, d, ds, ws, rfl, hs, rl, pl, al, dp, q⟩
  rw [Vals.ref1 r]
  obtain ⟨zs, rv, lw, hz⟩ := I.list hs
  obtain ⟨nd, im⟩ := plainL_ok _ pl
  obtain ⟨as, rd⟩ := Dp.readsAll I _ _ zs (RepL.dp _ _ _ rl nd) rv
  have alike : PySem.W.AlikeAll (toP d :: toPL ds) := by
    have e : toP d :: toPL ds = (d :: ds).map toP := by rw [toPL_is]; rfl
    rw [e]
    refine ⟨fun x hx y hy => ?_, fun x hx => ?_⟩
    · have := List.all_eq_true.mp al x hx
      exact List.all_eq_true.mp this y hy
    · obtain ⟨z, hz, rfl⟩ := List.mem_map.1 hx
      exact (plain_ok z (plainL_mem pl z hz)).2.2
  have room : X.A.units + 1 + PyData.depthAll (toP d :: toPL ds) < cLine := by
    have : PyData.depthAll (toPL (d :: ds)) ≤ 30 := depths_le dp
    have e : PyData.depthAll (toPL (d :: ds)) = PyData.depthAll (toP d :: toPL ds) := rfl
    omega
  refine PySem.W.min_list_data (I.ok.hd calm) lw.isList rd alike room ?_
  intro i v h' tk bs hv rdv kept
  have hv' : zs[i]? = some v := by simpa using hv
  have lt : i < zs.length := (List.getElem?_eq_some_iff.mp hv').1
  have lw' : ws.length = zs.length := rv.length
  have ld : ws.length = (d :: ds).length := RepL.length rl
  obtain ⟨w, hw⟩ : ∃ w, ws[i]? = some w := ⟨_, List.getElem?_eq_getElem (by omega)⟩
  obtain ⟨u, hu', ru⟩ := rv.get hw
  rw [hv'] at hu'
  cases hu'
  obtain ⟨e, he, re⟩ := RepL.each rl im i w hw
  have me : e ∈ d :: ds := List.mem_of_getElem? he
  obtain ⟨bs2, rd2⟩ := Dp.reads I _ _ _ (Rep.dp _ _ _ re (plain_ok e (plainL_mem pl e me)).1) ru
  obtain ⟨same, _⟩ := PyProof.Rows.reads_det (fun b o e _ => kept b o e) rd2 rdv
  have is : e = leastD d ds := plain_inj _ _ (plainL_mem pl e me) (plainL_mem pl _ (leastD_mem ds d)) (by rw [leastD_P]; exact same.symm)
  rw [is] at re
  exact ⟨w, H, I.kept kept, ru, q w re⟩
theorem cs_minD {K : PySem.W.Frag} : CallS K (rMinD K) dMinD := by
  intro H ds vs z Q a e k
  unfold dMinD at e
  split at e
  · obtain ⟨v, p, rfl, r⟩ := a.one
    obtain ⟨ys, e1, e⟩ := Option.bind_eq_some_iff.mp e
    obtain ⟨b, ws, g, rfl, hs, rl, _⟩ := r.sqL e1
    cases ys with
    | nil => cases e
    | cons d ds =>
      obtain ⟨⟨pl, al, dp⟩, rfl⟩ := if_some e
      have := RepL.imm _ _ _ rl (plainL_ok _ pl).2
      subst this
      exact ⟨b, d, ds, ws, rfl, hs, rl, pl, al, dp, fun w rw' => k.flat rw'⟩
  · cases e
end DL
/-! A list's count of a number; tuple(range(a, b)). -/
namespace DL
open PySem PySem.Spec L2 PyProof.Rows
section
variable {K : PySem.W.Frag} {X : Cx}
/-- a, b, .. = a list of so many -/
def fgLst (n : Nat) (fs : FGs) : FG := fun d ρ => match d with
  | .lst ds => if ds.length = n then fs ds ρ else none
  | _ => none
variable {a b : Expr} {ta : TA} {fr : FA} {p p2 pos pos2 : Pos}
def dSt2 : List D → Option (Int × Nat)
  | [.int i, .int j] => if stepOk i j 1 = true then some (i, stepN i j 1) else none
  | _ => none
def fTupRg2 (fr : FA) : FE := fun ρ => (fr ρ).bind fun (rs, ρ1) => (conts ρ1 rs).bind fun ds => (dSt2 ds).map fun z => (.val (.tup (stepD z.1 1 z.2)), ρ1)
end
/-! ### list + list, one of them standing still -/
theorem two_lists {l b : Addr} {xs ys : Array Value} {n m : Nat} {u v : Array (Option Value)} (few : xs.size + ys.size ≤ sizeLine) :
    Meets (Builtin.«list.__add__» ⟨[.ref l, .ref b], []⟩) fun _ R s => s.heap.get? l = some ⟨.type "list", none, .seq xs n, u⟩ ∧ s.heap.get? b = some ⟨.type "list", none, .seq ys m, v⟩ ∧
      R (.ok (.ret (.ref s.heap.objs.size))) { s with heap := s.heap.push ⟨.type "list", none, .seq (xs ++ ys) 0, #[]⟩ } := by
  apply Meets.of_wp
  rintro prog w A R ⟨heap, gens, drawn, toks, os⟩ ⟨at1, at2, fin⟩
  have isl := PySem.F.sub_list_list
  wp_walk using wpAny_loadPart' at1, wpAny_loadPart' at2
  exact ⟨_, rfl, fin⟩
def rCatS (K : PySem.W.Frag) : R2 := fun x y H Q => ∃ (l b : Addr) (xs ys : List V), x = .ref l ∧ y = .ref b ∧ SqL K H l xs ∧ SqL K H b ys ∧ xs.length + ys.length ≤ sizeLine ∧ ∀ p, H p = none → Q (.ref p) (upd H p (.lst (xs ++ ys)))
section
variable {X : Cx} {K : PySem.W.Frag}
theorem op_catS : OpR X (binaryOp .Add) (rCatS X.K) := by
  rintro pins s σ H _ _ v u Q I rx ry ⟨l, b, xs, ys, rfl, rfl, h1, h2, few, q⟩
  cases rx
  cases ry
  obtain ⟨us, r1, ⟨⟨c1, d1, t1, p1⟩, n1, g1, e1, f1, k1⟩, _⟩ := I.list h1
  obtain ⟨vs, r2, ⟨⟨c2, d2, t2, p2⟩, n2, g2, e2, f2, k2⟩, _⟩ := I.list h2
  simp only at e1 f1 k1 e2 f2 k2
  subst e1 f1 k1 e2 f2 k2
  have few' : us.toArray.size + vs.toArray.size ≤ sizeLine := by
    rw [List.size_toArray, List.size_toArray, ← r1.length, ← r2.length]; exact few
  refine concat_meets ⟨_, g1, rfl⟩ ⟨_, g2, rfl⟩ noFill_list_add seq_list_add PySem.F.slot_list_add PySem.F.entry_list_add (PySem.F.args_list_add_2 _ _) (two_lists few') ⟨g1, g2, ?_⟩
  have both : us.toArray ++ vs.toArray = (us ++ vs).toArray := by simp
  rw [both]
  exact ⟨.ref s.heap.objs.size, upd H s.heap.objs.size (.lst (xs ++ ys)), I.lnew (t' := s.toks) (r1.append r2) (by rw [List.length_append]; exact few), rfl, q _ I.fresh⟩
def dCatS : D → D → Option D := fun x y => (lstOf x).bind fun a => (lstOf y).bind fun b => if (immL a && immL b) = true ∧ a.length + b.length ≤ sizeLine then some (.lst (a ++ b)) else none
theorem o2_catS : Op2 K (rCatS K) dCatS := by
  intro H x y v w p q z Q r1 r2 e h
  obtain ⟨a, e1, e⟩ := Option.bind_eq_some_iff.mp e
  obtain ⟨b, e2, e⟩ := Option.bind_eq_some_iff.mp e
  obtain ⟨⟨c, few⟩, rfl⟩ := if_some e
  rw [Bool.and_eq_true] at c
  obtain ⟨la, va, ga, rfl, sa, ra, _⟩ := r1.sqL e1
  obtain ⟨lb, vb, gb, rfl, sb, rb, _⟩ := r2.sqL e2
  refine ⟨la, lb, va, vb, rfl, rfl, sa, sb, by rw [ra.length, rb.length]; exact few, fun t free => ?_⟩
  have sm := upd_same_of (o := .lst (va ++ vb)) free
  have kept : ∀ {ds : List D} {vs : List V} {g : List Addr}, RepL K H ds vs g → immL ds = true → RepL K (upd H t (.lst (va ++ vb))) ds vs [] := fun r i => RepL.keep _ _ _ (r.nil_of i) (Same.keep sm)
  exact h _ _ [t] ⟨t, va ++ vb, [], rfl, upd_same, rfl, (kept ra c.1).append (kept rb c.2)⟩ (by simp) (by simpa using free) sm
end
end DL
/-! sorted of a tuple of numbers. -/
namespace DL
open PySem PySem.Spec L2 PyProof.Rows
end DL
/-! d.get(k, x); list(d.values()). -/
namespace DL
open PySem PySem.Spec L2 PyProof.Rows
end DL
/-! More of the layer: a list emptied in its place. -/
namespace DL
open PySem PySem.Spec L2
section
variable {K : PySem.W.Frag}
def mClear : D → List D → Option (D × D)
  | .lst _, [] => some (.lst [], .non)
  | _, _ => none
end
/-! ### ranges by any step -/
open PyProof.Rows
def rangeN (i j c : Int) : Nat := (Builtin.Range.rangeSize i j c).toNat
def rangeOk (i j c : Int) : Bool := decide (c ≠ 0) && decide (c.natAbs < 1073741824) && Builtin.Range.small i j c && decide (0 ≤ Builtin.Range.rangeSize i j c) && decide (Builtin.Range.rangeSize i j c ≤ 16777216)
def dRg : List D → Option (Int × Int × Nat)
  | [.int i, .int j, .int c] => if rangeOk i j c = true then some (i, c, rangeN i j c) else none
  | _ => none
def fLstRgC (fr : FA) : FE := fun ρ => (fr ρ).bind fun (rs, ρ1) => (conts ρ1 rs).bind fun ds => (dRg ds).map fun z => (.val (.lst (stepD z.1 z.2.1 z.2.2)), ρ1)
def fRng3 (fr : FA) : FI := fun ρ => (fr ρ).bind fun (rs, ρ1) => (conts ρ1 rs).bind fun ds => (dRg ds).map fun z => (stepD z.1 z.2.1 z.2.2, ρ1)
end DL
/-! The keys of a dict that stands still, one by one. -/
namespace DL
open PySem PySem.Spec L2
end DL
/-! Three names told at once. -/
namespace DL
open PySem PySem.Spec L2
end DL
/-! A number shifted up. -/
namespace DL
open PySem PySem.Spec L2
end DL
/-! [e for x in xs if c], where xs is a name's own list, whose things stand still, and neither e nor c asks for xs. -/
namespace DL
open PySem PySem.Spec L2
end DL
/-! A name's list is changed by things for which the name itself is asked. -/
namespace DL
open PySem PySem.Spec L2
end DL
/-! Whether data are among a tuple's. -/
namespace DL
open PySem PySem.Spec L2
section
variable {X : Cx}
def rInDT (K : PySem.W.Frag) : R2 := fun x y H Q => ∃ (d : PyData) (ds : List PyData), Dp K H x d ∧ Dp K H y (.tuple ds) ∧ SeqAt.shaped d = true ∧ SeqAt.shaped (.tuple ds) = true ∧ Q (.bl (ds.any fun z => PyData.eqv z d)) H
theorem op_inT (hu : X.A.units + 65 < cLine) : OpR X (compareOp .In) (rInDT X.K) := by
  rintro pins s σ H x y v u Q I rx ry ⟨d, ds, dx, dy, s1, s2, q⟩
  obtain ⟨_, m1⟩ := Dp.reads I d x v dx rx
  obtain ⟨_, m2⟩ := Dp.reads I (.tuple ds) y u dy ry
  have rm := PyProof.Rows.room_in_shaped (xs := ds) s1 hu
  exact SeqAt.in_tuple_reads m2 m1 (SeqAt.canLay_of_shaped s2) (SeqAt.canLay_of_shaped s1) rm ⟨.bl _, H, I, rfl, q⟩
end
def dInT (x y : D) : Option D := match y with
  | .tup ys => if noDic x = true ∧ noDicL ys = true ∧ SeqAt.shaped (toP x) = true ∧ SeqAt.shaped (.tuple (toPL ys)) = true then some (.bl ((toPL ys).any fun z => PyData.eqv z (toP x))) else none
  | _ => none
theorem o2_inT {K : PySem.W.Frag} : Op2 K (rInDT K) dInT := by
  intro H x y v u p q z Q r1 r2 e h
  cases y <;> try cases e
  rename_i ys
  obtain ⟨⟨n1, n2, s1, s2⟩, e⟩ := if_some e
  subst e
  exact ⟨toP x, toPL ys, Rep.dp _ _ _ r1 n1, Rep.dp (.tup ys) _ _ r2 n2, s1, s2, h _ H [] ⟨rfl, rfl⟩ List.nodup_nil (by simp) (Same.refl H)⟩
end DL
/-! repr of things that hold dicts; a dict of pairs. -/
namespace DL
open PySem PySem.Spec L2
section
variable {P : Program} {w : World} {h : Heap}
/-- the value is this thing, and what is shown of it -/
def Sh1 (P : Program) (w : World) (h : Heap) (u : Value) (x : PyData) : Prop := (∃ as, Reads h u x as) ∧
  (x.showable = true → x.shown.length ≤ sizeLine → ∃ bs, ReadAtMost h x.depth bs ∧ ReprK P w bs h x.depth u x.shown)
def ShL (P : Program) (w : World) (h : Heap) (us : List Value) (xs : List PyData) : Prop := (∃ as, ReadsAll h us xs as) ∧
  (PyData.showableAll xs = true → (∀ t ∈ PyData.shownAll xs, t.length ≤ sizeLine) → ∃ bs, ReadAtMost h (PyData.depthAll xs) bs ∧ ReprAllK P w bs h (PyData.depthAll xs) us (PyData.shownAll xs))
def ShK (P : Program) (w : World) (h : Heap) (es : List DictEntry) (kvs : List (PyData × PyData)) : Prop := ((∃ as, ReadsAll h (es.map (·.key)) (kvs.map (·.1)) as) ∧ ∃ as, ReadsAll h (es.map (·.val)) (kvs.map (·.2)) as) ∧
  (PyData.showableKv kvs = true → (∀ t ∈ PyData.shownKv kvs, t.length ≤ sizeLine) → ∃ bs, ReadAtMost h (PyData.depthKv kvs) bs ∧ ReprEntriesK P w bs h (PyData.depthKv kvs) es (PyData.shownKv kvs))
theorem Sh1.non : Sh1 P w h .none .none := ⟨⟨_, Reads.none⟩, fun _ _ => ⟨[], (fun _ hb => nomatch hb), by rw [PyData.shown]; exact .of_is .none _ _ _⟩⟩
theorem Sh1.bl (b : Bool) : Sh1 P w h (.bool b) (.bool b) := ⟨⟨_, Reads.bool b⟩, fun _ _ => ⟨[], (fun _ hb => nomatch hb), by rw [PyData.shown]; exact .of_is (.bool b) _ _ _⟩⟩
theorem Sh1.int (i : Int) (t : Tok) : Sh1 P w h (.int i t) (.int i) := ⟨⟨_, Reads.int i t⟩, fun hs _ => ⟨[], (fun _ hb => nomatch hb), by
  rw [PyData.showable, decide_eq_true_eq] at hs
  rw [PyData.shown]
  exact .of_is (.int t hs) _ _ _⟩⟩
theorem Sh1.str (x : Str) (t : Tok) : Sh1 P w h (.str x t) (.str x) := ⟨⟨_, Reads.str x t⟩, fun _ hz => ⟨[], (fun _ hb => nomatch hb), by
  rw [PyData.shown] at hz ⊢
  exact .of_is (.str x t hz) _ _ _⟩⟩
theorem ShL.nil : ShL P w h [] [] := ⟨⟨_, .nil⟩, fun _ _ => ⟨[], (fun _ hb => nomatch hb), by rw [PyData.shownAll]; exact .nil⟩⟩
theorem most_join {n m k : Nat} {b c : List Addr} (h1 : ReadAtMost h n b) (h2 : ReadAtMost h m c) (hn : n ≤ k) (hm : m ≤ k) : ReadAtMost h k (b ++ c) := (h1.mono hn).append (h2.mono hm)
theorem ShL.cons {u : Value} {x : PyData} {us : List Value} {xs : List PyData} (h1 : Sh1 P w h u x) (h2 : ShL P w h us xs) : ShL P w h (u :: us) (x :: xs) := by
  obtain ⟨⟨as, r1⟩, s1⟩ := h1
  obtain ⟨⟨bs, r2⟩, s2⟩ := h2
  refine ⟨⟨_, .cons r1 r2⟩, fun hs hz => ?_⟩
  rw [PyData.showableAll, Bool.and_eq_true] at hs
  rw [PyData.shownAll] at hz ⊢
  rw [PyData.depthAll]
  obtain ⟨c1, m1, k1⟩ := s1 hs.1 (hz _ (List.mem_cons_self ..))
  obtain ⟨c2, m2, k2⟩ := s2 hs.2 fun t ht => hz t (List.mem_cons_of_mem _ ht)
  refine ⟨c1 ++ c2, most_join m1 m2 (Nat.le_max_left _ _) (Nat.le_max_right _ _), ?_⟩
  exact .cons ((k1.more fun _ => List.mem_append_left _).level_le (Nat.le_max_left _ _)) (k2.more_le (fun _ => List.mem_append_right _) (Nat.le_max_right _ _))
theorem ShK.nil : ShK P w h [] [] := ⟨⟨⟨_, .nil⟩, ⟨_, .nil⟩⟩, fun _ _ => ⟨[], (fun _ hb => nomatch hb), by rw [PyData.shownKv]; exact .nil⟩⟩
theorem ReprEntriesK.wider {as bs : List Addr} {d d' : Nat} (hs : ∀ b ∈ as, b ∈ bs) (hd : d ≤ d') : ∀ {es : List DictEntry} {ps : List Str}, ReprEntriesK P w as h d es ps → ReprEntriesK P w bs h d' es ps
  | _, _, .nil => .nil
  | _, _, .cons a b r => .cons ((a.more hs).level_le hd) ((b.more hs).level_le hd) (ReprEntriesK.wider hs hd r)
theorem ShK.cons {e : DictEntry} {k v : PyData} {es : List DictEntry} {kvs : List (PyData × PyData)} (hk : Sh1 P w h e.key k) (hv : Sh1 P w h e.val v) (hr : ShK P w h es kvs) : ShK P w h (e :: es) ((k, v) :: kvs) := by
  obtain ⟨⟨_, r1⟩, s1⟩ := hk
  obtain ⟨⟨_, r2⟩, s2⟩ := hv
  obtain ⟨⟨⟨_, r3⟩, ⟨_, r4⟩⟩, s3⟩ := hr
  refine ⟨⟨⟨_, .cons r1 r3⟩, ⟨_, .cons r2 r4⟩⟩, fun hs hz => ?_⟩
  rw [PyData.showableKv, Bool.and_eq_true, Bool.and_eq_true] at hs
  rw [PyData.shownKv] at hz ⊢
  rw [PyData.depthKv]
  have z1 := hz _ (List.mem_cons_self ..)
  rw [strLen_append, strLen_append] at z1
  obtain ⟨c1, m1, k1⟩ := s1 hs.1.1 (by omega)
  obtain ⟨c2, m2, k2⟩ := s2 hs.1.2 (by omega)
  obtain ⟨c3, m3, k3⟩ := s3 hs.2 fun t ht => hz t (List.mem_cons_of_mem _ ht)
  refine ⟨(c1 ++ c2) ++ c3, most_join (most_join m1 m2 (Nat.le_max_left _ _) (Nat.le_max_right _ _)) m3 (Nat.le_max_left _ _) (Nat.le_max_right _ _), ?_⟩
  refine .cons ((k1.more fun b hb => ?_).level_le ?_) ((k2.more fun b hb => ?_).level_le ?_) (ReprEntriesK.wider (fun b hb => ?_) ?_ k3)
  · simp [hb]
  · omega
  · simp [hb]
  · omega
  · simp [hb]
  · omega
section
variable {a : Addr} {o : Obj} {us : List Value} {n : Nat} {xs : List PyData}
theorem ShL.list (h1 : h.get? a = some o) (h2 : o.cls = .type "list") (h3 : o.data = .seq us.toArray n) (r : ShL P w h us xs) : Sh1 P w h (.ref a) (.list xs) := by
  obtain ⟨⟨as, rd⟩, sh⟩ := r
  have R : Reads h (.ref a) (.list xs) (a :: as) := .list h1 h2 h3 rd
  refine ⟨⟨_, R⟩, fun hs hz => ?_⟩
  rw [PyData.showable] at hs
  rw [PyData.shown] at hz ⊢
  obtain ⟨bs, hb, hk⟩ := sh hs fun t ht => Nat.le_trans (listText_mem_le ht) hz
  have top : a ∉ bs := not_mem_of_deeper R (by rw [PyData.depth]; exact Nat.lt_succ_self _) hb
  refine ⟨a :: bs, ReadAtMost.cons R (by rw [PyData.depth]; exact Nat.le_succ _) hb, ?_⟩
  rw [PyData.depth]
  cases us with
  | nil =>
    cases rd
    rw [PyData.shownAll, listText_nil]
    exact .listEmpty h1 h2 h3
  | cons u us => exact .list h1 h2 h3 top (by rw [hk.length_eq]; simp) fun i y e => hk.item i y (by rw [← e]; simp)
theorem ShL.tuple (h1 : h.get? a = some o) (h2 : o.cls = .type "tuple") (h3 : o.data = .seq us.toArray n) (r : ShL P w h us xs) : Sh1 P w h (.ref a) (.tuple xs) := by
  obtain ⟨⟨as, rd⟩, sh⟩ := r
  have R : Reads h (.ref a) (.tuple xs) as := .tuple h1 h2 h3 rd
  refine ⟨⟨_, R⟩, fun hs hz => ?_⟩
  rw [PyData.showable] at hs
  rw [PyData.shown] at hz ⊢
  obtain ⟨bs, hb, hk⟩ := sh hs fun t ht => Nat.le_trans (tupleText_mem_le ht) hz
  have top : a ∉ bs := not_mem_of_deeper R (by rw [PyData.depth]; exact Nat.lt_succ_self _) hb
  refine ⟨a :: bs, ReadAtMost.cons R (by rw [PyData.depth]; exact Nat.le_succ _) hb, ?_⟩
  rw [PyData.depth]
  exact .tuple h1 h2 h3 top hk
theorem ShK.dict {es : Array DictEntry} {kvs : List (PyData × PyData)} (h1 : h.get? a = some o) (h2 : o.cls = .type "dict") (h3 : o.data = .dict es n) (far : (a == sysModules) = false) (r : ShK P w h es.toList kvs) : Sh1 P w h (.ref a) (.dict kvs) := by
  obtain ⟨⟨⟨as, ra⟩, ⟨cs, rc⟩⟩, sh⟩ := r
  have R : Reads h (.ref a) (.dict kvs) (a :: as ++ cs) := .dict h1 h2 h3 ra rc
  refine ⟨⟨_, R⟩, fun hs hz => ?_⟩
  rw [PyData.showable] at hs
  rw [PyData.shown] at hz ⊢
  obtain ⟨bs, hb, hk⟩ := sh hs fun t ht => Nat.le_trans (dictText_mem_le ht) hz
  have top : a ∉ bs := not_mem_of_deeper R (by rw [PyData.depth]; exact Nat.lt_succ_self _) hb
  refine ⟨a :: bs, ReadAtMost.cons R (by rw [PyData.depth]; exact Nat.le_succ _) hb, ?_⟩
  rw [PyData.depth]
  exact .dict h1 h2 h3 far top hk
end
end
mutual
/-- no exception within -/
def noExc : D → Bool
  | .non => true | .bl _ => true | .int _ => true | .str _ => true
  | .tup ds => noExcL ds
  | .lst ds => noExcL ds
  | .flst ds => noExcL ds
  | .dic kvs => noExcK kvs
  | .fdic kvs => noExcK kvs
  | .exc _ _ _ _ => false
def noExcL : List D → Bool
  | [] => true
  | d :: ds => noExc d && noExcL ds
def noExcK : List (Key × D) → Bool
  | [] => true
  | (_, d) :: r => noExc d && noExcK r
end
end DL
/-! repr of things that hold dicts, as a call; dict(..) of pairs. -/
namespace DL
open PySem PySem.Spec L2
/-! ### dict(..) of pairs -/
end DL
namespace DL
open PySem PySem.Spec L2
/-- a number that the top names -/
theorem de_glob {X : Cx} {x : Str} {i : Int} {p : Pos} (hm : ∃ t, X.mg x = some (.int i t)) (hg : Gl X x) (hdb : (x == ("__debug__" : Str)) = false := by decide) : DE X (.Name x p) (fC (.int i)) := by
  obtain ⟨t, e⟩ := hm
  exact de_c (pe_glob hg e (v := .int i) ⟨t, rfl⟩ hdb) fun _ _ => ⟨rfl, rfl⟩
end DL
/-! Exceptions of the program: expressions and statements that may end with one. -/
namespace DL
open PySem PySem.Spec L2
/-- an exception: its class's name, its fields -/
structure XD where
  cls : Str
  fs : List (Key × D)
/-- the exception of this class, whose dict stands at d, is x -/
def XRep (K : PySem.W.Frag) (mg : Str → Option Value) (H : Hp) (x : XD) (cls : Value) (d : Option Addr) : Prop :=
  ∃ (C dd : Addr) (ws : List (Key × V)), mg x.cls = some (.ref C) ∧ cls = .ref C ∧ d = some dd ∧ H dd = some (.xd (xdOf ws)) ∧ RepK K H x.fs ws [] ∧ immK x.fs = true
theorem XRep.keep {K : PySem.W.Frag} {mg : Str → Option Value} {H H' : Hp} {x : XD} {cls : Value} {d : Option Addr} {f : List Addr} (h : XRep K mg H x cls d) (k : Keep H f H') : XRep K mg H' x cls d := by
  obtain ⟨C, dd, ws, a, b, c, e, r, i⟩ := h
  exact ⟨C, dd, ws, a, b, c, k dd _ e (.inl (by rw [e]; exact id)), RepK.keep _ _ _ r (k.sub fun a ha => by cases ha), i⟩
/-- a plain end, or an exception -/
inductive RX where
  | ok (r : R) | up (x : XD)
inductive AX where
  | ok (rs : List R) | up (x : XD)
inductive FlX where
  | go (o : Fl) | up (x : XD)
abbrev FEX := Fm → Option (RX × Fm)
abbrev FAX := Fm → Option (AX × Fm)
abbrev FSX := Fm → Option (FlX × Fm)
/-- what is to be shown where an exception flies -/
def UpP (K : PySem.W.Frag) (mg : Str → Option Value) (Wx : WX) (σ : L2.St) (H : Hp) (F : List Addr) (x : XD) (ρ' : Fm) : Prop := ∀ cls d H' F', XRep K mg H' x cls d → EnvR K H' ρ' σ F' → F'.Nodup → Step H F H' F' → Wx cls d σ H'
theorem UpP.step {K : PySem.W.Frag} {mg : Str → Option Value} {Wx : WX} {σ : L2.St} {H H1 : Hp} {F F1 : List Addr} {x : XD} {ρ' : Fm} (h : UpP K mg Wx σ H F x ρ') (S : Step H F H1 F1) : UpP K mg Wx σ H1 F1 x ρ' := fun cls d H' F' a b c e => h cls d H' F' a b c (S.trans e)
/-- what is to be shown at a statement's end -/
def PostX (K : PySem.W.Frag) (mg : Str → Option Value) (Wx : WX) (W : List Nat) (Dn : Ends) (σ : L2.St) (H : Hp) (F : List Addr) (o : FlX) (ρ' : Fm) : Prop := match o with
  | .go o => Post K W Dn σ H F o ρ'
  | .up x => ∀ σ', (∀ j, j ∉ W → σ'[j]? = σ[j]?) → UpP K mg Wx σ' H F x ρ'
theorem PostX.mono {K : PySem.W.Frag} {mg : Str → Option Value} {Wx : WX} {W W' : List Nat} {Dn : Ends} {σ : L2.St} {H : Hp} {F : List Addr} {o : FlX} {ρ' : Fm} (h : PostX K mg Wx W' Dn σ H F o ρ') (hs : ∀ j, j ∈ W → j ∈ W') : PostX K mg Wx W Dn σ H F o ρ' := by
  cases o with
  | go o => exact Post.mono h hs
  | up x => exact fun σ' w => h σ' fun j hj => w j fun z => hj (hs j z)
theorem PostX.after {K : PySem.W.Frag} {mg : Str → Option Value} {Wx : WX} {W1 W2 : List Nat} {Dn : Ends} {σ σ1 : L2.St} {H H1 : Hp} {F F1 : List Addr} {o : FlX} {ρ' : Fm} (h : PostX K mg Wx (W1 ++ W2) Dn σ H F o ρ') (S : Step H F H1 F1) (hw : ∀ j, j ∉ W1 → σ1[j]? = σ[j]?) : PostX K mg Wx W2 Dn σ1 H1 F1 o ρ' := by
  cases o with
  | go o => exact Post.after h S hw
  | up x =>
    refine fun σ' w => (h σ' fun j hj => ?_).step S
    rw [List.mem_append, not_or] at hj
    rw [w j hj.2, hw j hj.1]
theorem PostX.step {K : PySem.W.Frag} {mg : Str → Option Value} {Wx : WX} {W : List Nat} {Dn : Ends} {σ : L2.St} {H H1 : Hp} {F F1 : List Addr} {o : FlX} {ρ' : Fm} (h : PostX K mg Wx W Dn σ H F o ρ') (S : Step H F H1 F1) : PostX K mg Wx W Dn σ H1 F1 o ρ' :=
  PostX.after (W1 := []) h S fun _ _ => rfl
/-! ### plain ones -/
section
variable {X : Cx} {Wx : WX} {e a b c : Expr} {es : List Expr} {st : Stmt} {rest : List Stmt} {fe : FE} {fr : FA} {ft : FT} {f g : FSX} {fx gx : FEX} {ax : FAX} {W W1 W2 : List Nat} {pos : Pos}
/-! ### one after another; if -/
/-! ### arguments, displays -/
def xCons (f : FEX) (fr : FAX) : FAX := fun ρ => (f ρ).bind fun (x, ρ1) => match x with
  | .ok r => (fr ρ1).map fun (rs, ρ2) => match rs with
    | .ok rs => (.ok (r :: rs), ρ2)
    | .up x => (.up x, ρ2)
  | .up x => some (.up x, ρ1)
def xTup (fr : FAX) : FEX := fun ρ => (fr ρ).bind fun (rs, ρ1) => match rs with
  | .ok rs => (takes ρ1 rs).bind fun (ds, ρ2) => if ds.length ≤ sizeLine then some (.ok (.val (.tup ds)), ρ2) else none
  | .up x => some (.up x, ρ1)
/-! ### statements of one expression -/
def xDrop (fe : FEX) : FSX := fun ρ => (fe ρ).map fun (r, ρ1) => match r with
  | .ok _ => (.go .nx, ρ1)
  | .up x => (.up x, ρ1)
theorem UpP.here {K : PySem.W.Frag} {mg : Str → Option Value} {Wx : WX} {W : List Nat} {Dn : Ends} {σ : L2.St} {H : Hp} {F : List Addr} {x : XD} {ρ' : Fm} (h : PostX K mg Wx W Dn σ H F (.up x) ρ') : UpP K mg Wx σ H F x ρ' := h σ fun _ _ => rfl
def xRet (fe : FEX) : FSX := fun ρ => (fe ρ).bind fun (r, ρ1) => match r with
  | .ok r => (take1 ρ1 r).map fun (d, ρ2) => (.go (.ret d), ρ2)
  | .up x => some (.up x, ρ1)
def xAsg (fe : FEX) (fg : FG) : FSX := fun ρ => (fe ρ).bind fun (r, ρ1) => match r with
  | .ok r => (take1 ρ1 r).bind fun (d, ρ2) => (fg d ρ2).map fun ρ3 => (.go .nx, ρ3)
  | .up x => some (.up x, ρ1)
end
end DL
/-! Defs that may end with an exception; their calls. -/
namespace DL
open PySem PySem.Spec L2
open PyProof.Rows (envOfC AllBare)
inductive OX where
  | val (d : D) | up (x : XD)
/-- data in; what is told out, or the exception, and what the arguments are then -/
abbrev DenX := List D → Option (OX × Fm)
/-! ### calls -/
def xCall (den : DenX) (fr : FAX) : FEX := fun ρ => (fr ρ).bind fun (rs, ρ1) => match rs with
  | .up x => some (.up x, ρ1)
  | .ok rs => (takes ρ1 rs).bind fun (ds, ρ2) => (den ds).map fun (r, ρp) => match r with
    | .val r => (.ok (.val r), giveBack rs ds ρp ρ2)
    | .up x => (.up x, giveBack rs ds ρp ρ2)
section
variable {X : Cx} {Wx : WX} {j k : Nat} {f : Addr} {fd : FuncData} {ps : List Str} {den : DenX} {x : Str} {p pos : Pos} {e : Expr} {es : List Expr} {fr : FAX}
theorem RepRs.len {K : PySem.W.Frag} {H : Hp} {σ : L2.St} : ∀ {rs : List R} {vs : List V} {g : List Addr}, RepRs K H σ rs vs g → vs.length = rs.length
  | [], vs, g, h => by rw [h.1]; rfl
  | x :: rs, vs, g, h => by
    obtain ⟨v, vs', _, _, rfl, _, _, h⟩ := h
    simp [RepRs.len h]
end
end DL
/-! The program's exception classes: their making; raise. -/
namespace DL
open PySem PySem.Spec L2
open PyProof.Rows (envOfC AllBare)
/-! ### C.__init__, of one field, of two -/
/-! ### C(..) -/
section
variable {X : Cx} {x : Str} {fs : List Str} {e : Expr} {es : List Expr} {ta : TA} {p pos : Pos} {k : Nat}
/-! ### raise -/
def xRaise (x : Str) (fs : List Str) (fr : FA) : FSX := fun ρ => (fr ρ).bind fun (rs, ρ1) => (takes ρ1 rs).bind fun (ds, ρ2) => if immL ds = true ∧ ds.length = fs.length then some (.up ⟨x, ((fs.map fun f => (.inr f : Key)).zip ds).reverse⟩, ρ2) else none
end
end DL
/-! try .. except, in defs that end plainly. -/
namespace DL
open PySem PySem.Spec L2
/-- try: body; except X: suite -/
def fTry (fb : FSX) (ys : List Str) (fs : FS) : FS := fun ρ => (fb ρ).bind fun (o, ρ1) => match o with
  | .go o => some (o, ρ1)
  | .up x => if x.cls ∈ ys then fs ρ1 else none
/-! ### except X as e -/
end DL
/-! A caught exception's field; exception classes of one field, of two, from the text. -/
namespace DL
open PySem PySem.Spec L2
/-- the exception in slot i: its field -/
def fFld (a dd : Addr) (i : Nat) (f : Str) : FE := fun ρ => match slot ρ i with
  | some (.exc a' _ dd' kvs) => if a' = a ∧ dd' = dd ∧ (kvs.all fun kv => kv.1.isRight) = true then (kvGet kvs (.inr f)).bind fun d => if imm d = true then some (.val d, ρ) else none else none
  | _ => none
end DL
/-! x not in a tuple of data; a def that may raise, where it does not. -/
namespace DL
open PySem PySem.Spec L2
/-! ### a call that does not raise -/
end DL
/-! A caught exception that is handed to a def; isinstance of it. -/
namespace DL
open PySem PySem.Spec L2
open PyProof.Rows (envOfC AllBare)
/-- isinstance(e, ..), e the exception in slot i: as it is told of its class -/
def fIsE (a : Addr) (c : Str) (dd : Addr) (told : Option Bool) (i : Nat) : FE := fun ρ => match slot ρ i with
  | some (.exc a' _ dd' _) => if a' = a ∧ dd' = dd then told.map fun b => (.val (.bl b), ρ) else none
  | _ => none
end DL
/-! Defs that are called in an except suite. -/
namespace DL
open PySem PySem.Spec L2
open L2H (RoomH PinOk inv_startH cxH)
open PyProof.Rows (envOfC AllBare)
end DL
/-! A list of truths: how often a truth is in it. -/
namespace DL
open PySem PySem.Spec L2 PyProof.Rows
def dCntB : D → List D → Option D
  | x, [.bl k] => (lstOf x).bind fun ds => (blsOf ds).map fun bs => .int (bs.count k : Nat)
  | _, _ => none
def fCountB (fo : FE) (fr : FA) : FE := fun ρ => ((fo ρ).bind fun (x, ρ1) => (cont ρ1 x).bind lstOf).bind fun _ => fMethR dCntB fo fr ρ
end DL
/-! Truths among numbers: sums, differences, texts. -/
namespace DL
open PySem PySem.Spec L2 PyProof.Rows
end DL
/-! A tuple of any things != (). -/
namespace DL
open PySem PySem.Spec L2 PyProof.Rows
end DL
/-! The void tuple times a whole number. -/
namespace DL
open PySem PySem.Spec L2 PyProof.Rows
end DL
/-! A loop over things whose body may end with an exception. -/
namespace DL
open PySem PySem.Spec L2
end DL
/-! sum of a tuple of whole numbers. -/
namespace DL
open PySem PySem.Spec L2 PyProof PyProof.Rows
theorem pre_take : ∀ (ns : List Int) (k : Nat), preSum (fun i => (ns[i]?).getD 0) k = (ns.take k).sum
  | ns, 0 => by simp [preSum]
  | ns, k + 1 => by
    show preSum (fun i => (ns[i]?).getD 0) k + (ns[k]?).getD 0 = _
    rw [pre_take ns k, List.take_add_one, List.sum_append]
    cases ns[k]? <;> simp
theorem ints_at : ∀ {vs : List Value} {ns : List Int}, IntsAre vs ns → ∀ {i : Nat} {v : Value}, vs[i]? = some v → ∃ t, v = .int ((ns[i]?).getD 0) t
  | _, _, .nil, _, _, h => by cases h
  | _, _, .cons n t _, 0, _, h => by cases h; exact ⟨t, rfl⟩
  | _, _, .cons n t r, i + 1, v, h => ints_at r (i := i) h
theorem ints_many : ∀ {vs : List Value} {ns : List Int}, IntsAre vs ns → vs.length = ns.length
  | _, _, .nil => rfl
  | _, _, .cons _ _ r => congrArg (· + 1) (ints_many r)
/-- the iterator that a tuple's walk begins with -/
abbrev begIt (a : Addr) : Obj := { cls := .type "tuple_iterator", data := .fields #[.ref a, .int 0 0] }
def rSumT (K : PySem.W.Frag) : List V → Hp → VK → Prop := fun vs H Q => ∃ (a : Addr) (ns : List Int), vs = [V.ref a] ∧ SqT K H a (ns.map V.int) ∧ Q (.int ns.sum) H
theorem cr_sumT {X : Cx} (calm : X.calm = true) : CallR X (.builtin "sum") (rSumT X.K) :=
  fun pins st σ H vs us Q inv vals ⟨a, ns, given, tup, fin⟩ => by
    subst given
    have given := Vals.ref1 vals
    subst given
    have ⟨items, nums, ⟨o, found, cls, many, data⟩, _⟩ := inv.tuple tup
    have told := nums.ints
    have apart : a ≠ st.heap.objs.size := fun same => Nat.lt_irrefl _ (same ▸ Heap.lt_size found)
    have stays : (st.heap.push (begIt a)).get? a = some o := Heap.get?_push_of_some _ found
    have begun : (st.heap.push (begIt a)).get? st.heap.objs.size = some (begIt a) := Heap.get?_push_size _ rfl
    have within : ∀ b, b ∈ [st.heap.objs.size, a] → b < (st.heap.push (begIt a)).objs.size := fun b hb => by
      rcases List.mem_cons.mp hb with e | e
      · rw [e]; exact Heap.lt_size begun
      · rw [List.mem_singleton.mp e]; exact Heap.lt_size stays
    have total : preSum (fun i => (ns[i]?).getD 0) items.toArray.size = ns.sum := by
      rw [pre_take, List.size_toArray, ints_many told, List.take_length]
    have walk := Walks.tuple (prog := X.prog) (w := X.w) (A := X.A.in1) (inv.ok.hd calm) st.heap.objs.size a apart items.toArray
    have each : ∀ (i : Nat) (v : Value), items.toArray[i]? = some v → ∃ t, v = Value.int ((ns[i]?).getD 0) t := fun i v at_ => ints_at told (by simpa using at_)
    refine call_sum_walkG (wpAny_pyIter_tuple ⟨o, found, cls, many, data⟩ ?_)
    refine ⟨_, _, _, _, _, _, fun i => (ns[i]?).getD 0, rfl, walk, ⟨⟨_, begun, rfl, rfl⟩, o, stays, cls, many, data⟩, within, each, fun h' tk t' same => ?_⟩
    have keeps : ∀ b ob, st.heap.get? b = some ob → h'.get? b = some ob := fun b ob there => same b ob (fun z => by
      rw [List.mem_singleton.mp z] at there
      exact Nat.lt_irrefl _ (Heap.lt_size there)) (Heap.get?_push_of_some _ there)
    rw [total]
    exact ⟨.int ns.sum, H, inv.kept keeps, ⟨t', rfl⟩, fin⟩
def dSumT : List D → Option D
  | [.tup ds] => (intsOf ds).map fun ns => .int ns.sum
  | _ => none
theorem cs_sumT {K : PySem.W.Frag} : CallS K (rSumT K) dSumT := by
  intro H ds vs z Q a e k
  unfold dSumT at e
  split at e
  · obtain ⟨v, p, rfl, r⟩ := a.one
    obtain ⟨ns, e2, rfl⟩ := Option.map_eq_some_iff.mp e
    obtain ⟨b, ws, rfl, tup, rl⟩ := r
    obtain ⟨rfl, _⟩ := rl.ints e2
    exact ⟨b, ns, rfl, tup.sq, k.flat ⟨rfl, rfl⟩⟩
  · cases e
end DL
/-! A list made longer by the items of a tuple. -/
namespace DL
open PySem PySem.Spec L2 PyProof.Rows
section
open PySem.AutoSeq1
theorem ext_walk (l b : Addr) (xs zs : Array Value) (n m : Nat) (dd : Option Addr) (sl : Array (Option Value)) (small : xs.size + zs.size ≤ sizeLine) :
    Meets (Builtin.«list.extend» ⟨[.ref l, .ref b], []⟩) (fun _ R s => (s.heap.get? b = some { cls := .type "tuple", dict := dd, data := .seq zs m, slots := sl } ∧ s.heap.get? l = some { cls := .type "list", data := .seq xs n }) ∧ R (.ok (.ret Value.none)) { s with heap := s.heap.update l (Obj.mapSeq (· ++ zs)) }) := by
  refine .of_wp fun prog w A R s ⟨⟨atB, atL⟩, rest⟩ => ?_
  obtain ⟨hp, gs, dr, tk, os⟩ := s
  have x1 := AutoSeq1.sub_tuple_list
  have x2 := AutoSeq1.sub_tuple_tuple
  have x3 := AutoSeq1.sub_list_list
  have x4 := AutoSeq1.sub_list_tuple
  have fits : Builtin.List.listTooLong (xs.size + zs.size) = false := decide_eq_false (by omega)
  have c1 : ¬ (!xs.isEmpty && Builtin.List.listTooLong (xs.size + zs.size)) = true := by rw [fits]; simp
  have few : xs.size ≤ sizeLine := by omega
  have more : (xs ++ zs).size ≤ sizeLine + 1 := by rw [Array.size_append]; omega
  wp_walk using (wpAny_updateSeq atL rfl (hz := few) (_hz' := more)), wpAny_loadPart' atL, wpAny_loadPart' atB
  exact ⟨_, rfl, rest⟩
end
def rExtT (K : PySem.W.Frag) : V → List V → Hp → VK → Prop := fun x vs H Q => ∃ l b xs zs, x = .ref l ∧ vs = [.ref b] ∧ H l = some (.lst xs) ∧ SqT K H b zs ∧ xs.length + zs.length ≤ sizeLine ∧ Q .non (upd H l (.lst (xs ++ zs)))
theorem mt_extT {X : Cx} : MtM X "list.extend" (rExtT X.K) := by
  intro pins s σ H x ys v us Q I rx ry ⟨l, b, xs, zs, ex, ey, hl, hb, fit, q⟩
  subst ex ey
  cases rx
  obtain ⟨_, as, n, ra, ha⟩ := I.hok l _ hl
  obtain ⟨bs, rb, ⟨⟨c, dd, dt, sl⟩, found, hc, m, hd⟩, _⟩ := I.tuple hb
  cases hc
  cases hd
  have e1 := ra.length
  have e2 := rb.length
  have ev := Vals.ref1 ry
  subst ev
  have low : (xs ++ zs).length ≤ sizeLine := by rw [List.length_append]; exact fit
  refine call_meets F.slot_list_extend ⟨_, ha, rfl⟩ F.entry_list_extend (F.args_list_extend_2 _ _) (ext_walk l b as.toArray bs.toArray n m dd sl (by simp; omega)) ⟨⟨found, ha⟩, .non, _, ?_, rfl, q⟩
  have now := Heap.get?_update_self (Obj.mapSeq (· ++ bs.toArray)) ha rfl
  exact I.write (t' := s.toks) (by rw [hl]; trivial) (.inl rfl) (fun a u ne e => (Heap.get?_update_ne _ _ _ _ ne).trans e) ⟨_, now⟩ ⟨low, as ++ bs, _, ra.append rb, by rw [now]; simp [Obj.mapSeq]; rfl⟩
def mExtT : D → List D → Option (D × D)
  | .lst ds, [.tup es] => if immL es = true ∧ ds.length + es.length ≤ sizeLine then some (.lst (ds ++ es), .non) else none
  | _, _ => none
theorem mu_extT {K : PySem.W.Frag} : MutS K (rExtT K) mExtT := by
  intro H d v f ds vs p d' z Q rd ra nd e k
  unfold mExtT at e
  split at e
  case h_2 => cases e
  rename_i xs es
  obtain ⟨⟨im, fit⟩, e⟩ := if_some e
  cases e
  obtain ⟨w, rfl, rw'⟩ := ra.one
  obtain ⟨b, us, rfl, tb, rb⟩ := rw'
  obtain ⟨a, ws, g, rfl, ha, rfl, rl⟩ := rd
  have lone := (List.nodup_cons.mp nd).1
  have bare := rb.nil_of im
  have mu : MutO (H a) := by rw [ha]; trivial
  have both := rl.append bare
  rw [List.append_nil] at both
  exact ⟨a, b, ws, us, rfl, rfl, ha, tb.sq, by rw [rl.length, rb.length]; exact fit,
    k .non _ (a :: g) [] ⟨a, _, g, rfl, upd_same, rfl, RepL.keep _ _ _ both (keep_upd mu fun z => lone (List.mem_append_left _ z))⟩ ⟨rfl, rfl⟩ (by simpa using (List.nodup_append.mp nd).1) (fun x hx => .inl (List.mem_append_left _ (by simpa using hx))) upd_other⟩
end DL
/-! A dict with the entries of another one put into it. -/
namespace DL
open PySem PySem.Spec L2 PyProof.Rows
end DL
/-! sorted of a dict whose keys are whole numbers. -/
namespace DL
open PySem PySem.Spec L2 PyProof.Rows
end DL
/-! How often a whole number is in a tuple. -/
namespace DL
open PySem PySem.Spec L2 PyProof.Rows
end DL
/-! An item, a length of what may end with an exception. -/
namespace DL
open PySem PySem.Spec L2 PyProof.Rows
end DL
/-! a, b, .. = a tuple or a list of so many. -/
namespace DL
open PySem PySem.Spec L2
section
variable {X : Cx} {W : List Nat} {pos : Pos}
def fgSq (n : Nat) (fs : FGs) : FG := fun d ρ => match d with
  | .tup _ => fgTup n fs d ρ
  | .lst _ => fgLst n fs d ρ
  | .flst ds => if ds.length = n then fs ds ρ else none
  | _ => none
@[simp] theorem ap_gSqT {n : Nat} {fgs : FGs} {ρ : Fm} {ds : List D} : fgSq n fgs (.tup ds) ρ = if ds.length = n then fgs ds ρ else none := rfl
@[simp] theorem ap_gSqF {n : Nat} {fgs : FGs} {ρ : Fm} {ds : List D} : fgSq n fgs (.flst ds) ρ = if ds.length = n then fgs ds ρ else none := rfl
end
end DL
/-! Plain laws: reading a meaning step by step; the feed of draws. -/
namespace DL
open PySem PySem.Spec L2
/-- it is told, and what is told is such -/
def Ok {α : Type} (x : Option α) (P : α → Prop) : Prop := ∃ a, x = some a ∧ P a
theorem ok_some {α : Type} {a : α} {P : α → Prop} : Ok (some a) P ↔ P a := ⟨fun ⟨b, e, h⟩ => by cases e; exact h, fun h => ⟨a, rfl, h⟩⟩
theorem ok_bind {α β : Type} {x : Option α} {f : α → Option β} {P : β → Prop} : Ok (x.bind f) P ↔ Ok x fun a => Ok (f a) P := by
  cases x with
  | none => exact ⟨fun ⟨b, e, h⟩ => (nomatch e), fun ⟨b, e, h⟩ => (nomatch e)⟩
  | some a => exact ⟨fun ⟨b, e, h⟩ => ⟨a, rfl, b, e, h⟩, fun ⟨a', e, b, e', h⟩ => by cases e; exact ⟨b, e', h⟩⟩
theorem ok_mono {α : Type} {x : Option α} {P Q : α → Prop} (h : Ok x P) (k : ∀ a, P a → Q a) : Ok x Q := let ⟨a, e, p⟩ := h; ⟨a, e, k a p⟩
theorem slot0 (d : Option D) (ρ : Fm) : slot (d :: ρ) 0 = d := by cases d <;> rfl
theorem slotS (d : Option D) (ρ : Fm) (i : Nat) : slot (d :: ρ) (i + 1) = slot ρ i := by simp [slot]
/-! ### ints in lists -/
theorem immL_ints (ns : List Int) : immL (ns.map D.int) = true := by
  induction ns with
  | nil => rfl
  | cons n ns ih => simp [immL, imm, ih]
theorem immL_mem {ds : List D} : immL ds = true ↔ ∀ d ∈ ds, imm d = true := by
  induction ds with
  | nil => simp [immL]
  | cons n ns ih => simp [immL, ih]
theorem intsOf_ints (ns : List Int) : intsOf (ns.map D.int) = some ns := by
  induction ns with
  | nil => rfl
  | cons n ns ih => simp [intsOf, ih]
theorem toPL_map (ds : List D) : toPL ds = ds.map toP := by
  induction ds with
  | nil => rfl
  | cons n ns ih => simp [toPL, ih]
theorem ixN_int {n : Nat} {i : Int} (h0 : 0 ≤ i) (h : i < n) : ixN n i = some i.toNat := by
  unfold ixN; rw [if_pos h0, if_pos h]
theorem dSubs_seq {x : D} {ds : List D} {i : Int} {d : D} (hs : seqOf x = some ds) (h0 : 0 ≤ i) (h1 : ds[i.toNat]? = some d) (hi : imm d = true) : dSubs x (.int i) = some d := by
  have h2 : i.toNat < ds.length := (List.getElem?_eq_some_iff.mp h1).1
  have e : dIxQ x (.int i) = some d := by
    show (seqOf x).bind _ = _
    rw [hs]
    show ((atI ds i).bind _) = _
    have : atI ds i = some d := by
      unfold atI
      rw [ixN_int h0 (by omega)]
      exact h1
    rw [this]
    show (if imm d = true then some d else none) = _
    rw [if_pos hi]
  unfold dSubs dIx
  cases x <;> simp [seqOf] at hs <;> (simp [dIxS, e])
/-! ### the feed -/
def feedD (cs : List Int) (a l t : Int) : D := .dic [(.inr "cells", .flst (cs.map .int)), (.inr "at", .int a), (.inr "left", .int l), (.inr "turn", .int t)]
def IsFeed (d : D) : Prop := ∃ cs a l t, d = feedD cs a l t
@[simp] theorem feed_imm (cs : List Int) (a l t : Int) : imm (feedD cs a l t) = false := rfl
@[simp] theorem feed_turn (cs : List Int) (a l t : Int) : dSubs (feedD cs a l t) (.str "turn") = some (.int t) := rfl
@[simp] theorem feed_left (cs : List Int) (a l t : Int) : dSubs (feedD cs a l t) (.str "left") = some (.int l) := rfl
@[simp] theorem feed_at (cs : List Int) (a l t : Int) : dSubs (feedD cs a l t) (.str "at") = some (.int a) := rfl
@[simp] theorem feed_cells (cs : List Int) (a l t : Int) : dSubs (feedD cs a l t) (.str "cells") = some (.flst (cs.map .int)) := by
  show (if immL (cs.map .int) = true then some (D.flst (cs.map .int)) else none) = _
  rw [if_pos (immL_ints _)]
@[simp] theorem put_turn (cs : List Int) (a l t u : Int) : dStore (feedD cs a l t) (.str "turn") (.int u) = some (feedD cs a l u) := rfl
@[simp] theorem put_left (cs : List Int) (a l t u : Int) : dStore (feedD cs a l t) (.str "left") (.int u) = some (feedD cs a u t) := rfl
@[simp] theorem put_at (cs : List Int) (a l t u : Int) : dStore (feedD cs a l t) (.str "at") (.int u) = some (feedD cs u l t) := rfl
theorem mulOk_l {i j : Int} (h0 : -(2 ^ 64) < i) (h1 : i < 2 ^ 64) : mulOk i j = true := by
  unfold mulOk
  rw [decide_eq_true (by omega)]
  rfl
theorem mulOk_r {i j : Int} (h0 : -(2 ^ 64) < j) (h1 : j < 2 ^ 64) : mulOk i j = true := by
  unfold mulOk
  rw [Bool.or_eq_true]
  exact .inr (decide_eq_true (by omega))
end DL
/-! Meanings applied: what simp reads. -/
namespace DL
open PySem PySem.Spec L2
section
variable {ρ : Fm} {f g : FS} {fe fa fb fc : FE} {ft fu : FT} {fr : FA} {fp : FP} {fi : FI} {fg : FG} {fgs : FGs} {d d' : D} {i j : Nat} {op : D → D → Option D} {cl : List D → Option D}
@[simp] theorem ap_seq : fSeq f g ρ = (f ρ).bind fun x => match x.1 with | .nx => g x.2 | o => some (o, x.2) := rfl
@[simp] theorem ap_skip : fSkip ρ = some (.nx, ρ) := rfl
@[simp] theorem ap_drop : fDrop fe ρ = (fe ρ).map fun x => (.nx, x.2) := rfl
@[simp] theorem ap_ret : fRet fe ρ = (fe ρ).bind fun x => (take1 x.2 x.1).map fun y => (.ret y.1, y.2) := rfl
@[simp] theorem ap_retN : fRetN ρ = some (.ret .non, ρ) := rfl
@[simp] theorem ap_ifS : fIfS ft f g ρ = (ft ρ).bind fun x => if x.1 then f x.2 else g x.2 := rfl
@[simp] theorem ap_gName : fgName i d ρ = if i < ρ.length then some (ρ.set i (some d)) else none := rfl
@[simp] theorem ap_gTup {n : Nat} {ds : List D} : fgTup n fgs (.tup ds) ρ = if ds.length = n then fgs ds ρ else none := rfl
@[simp] theorem ap_gNil : fgNil [] ρ = some ρ := rfl
@[simp] theorem ap_gCons {ds : List D} : fgCons fg fgs (d :: ds) ρ = (fg d ρ).bind fun ρ1 => fgs ds ρ1 := rfl
@[simp] theorem ap_asg : fAsg fe fg ρ = (fe ρ).bind fun x => (take1 x.2 x.1).bind fun y => (fg y.1 y.2).map fun ρ3 => (.nx, ρ3) := rfl
@[simp] theorem ap_par : fPar i j fr ρ = (fr ρ).bind fun x => (takes x.2 x.1).bind fun y => match y.1 with
  | [d, e] => if i < y.2.length ∧ j < y.2.length then some (.nx, (y.2.set i (some d)).set j (some e)) else none
  | _ => none := rfl
@[simp] theorem ap_store : fStore fe fp fa ρ = (fe ρ).bind fun x => (fp x.2).bind fun p => (getP p.2 p.1).bind fun c0 => (fa (hide p.2 p.1)).bind fun y => (cont y.2 y.1).bind fun key =>
  (take1 y.2 x.1).bind fun v => (getP (unhide p.2 v.2 p.1) p.1).bind fun c => (dStore c key v.1).map fun c' => (.nx, setP (unhide p.2 v.2 p.1) c' p.1) := rfl
@[simp] theorem ap_for : fFor fi fg f ρ = (fi ρ).bind fun x => forD fg f x.1 x.2 := rfl
@[simp] theorem ap_C : fC d ρ = some (.val d, ρ) := rfl
@[simp] theorem ap_var' : fVar i ρ = (slot ρ i).map fun _ => (.var i, ρ) := by unfold fVar; cases slot ρ i <;> rfl
@[simp] theorem ap_op : fOp op fa fb ρ = (fa ρ).bind fun x => (fb x.2).bind fun y => (cont y.2 x.1).bind fun dx => (cont y.2 y.1).bind fun dy => (op dx dy).map fun z => (.val z, y.2) := rfl
@[simp] theorem ap_test : fTest fe ρ = (fe ρ).bind fun x => (cont x.2 x.1).bind fun d => match d with
  | .bl k => some (k, x.2)
  | _ => none := rfl
@[simp] theorem ap_and : fAnd ft fu ρ = (ft ρ).bind fun x => if x.1 then fu x.2 else some (false, x.2) := rfl
@[simp] theorem ap_or : fOr ft fu ρ = (ft ρ).bind fun x => if x.1 then some (true, x.2) else fu x.2 := rfl
@[simp] theorem ap_not : fNot ft ρ = (ft ρ).map fun x => (!x.1, x.2) := rfl
@[simp] theorem ap_bl : fBl ft ρ = (ft ρ).map fun x => (.val (.bl x.1), x.2) := rfl
@[simp] theorem ap_if : fIf ft fa fb ρ = (ft ρ).bind fun x => if x.1 then fa x.2 else fb x.2 := rfl
@[simp] theorem ap_nil : fNil ρ = some ([], ρ) := rfl
@[simp] theorem ap_cons : fCons fe fr ρ = (fe ρ).bind fun x => (fr x.2).map fun y => (x.1 :: y.1, y.2) := rfl
@[simp] theorem ap_tup : fTup fr ρ = (fr ρ).bind fun x => (takes x.2 x.1).bind fun y => if y.1.length ≤ sizeLine then some (.val (.tup y.1), y.2) else none := rfl
@[simp] theorem ap_lst : fLst fr ρ = (fr ρ).bind fun x => (takes x.2 x.1).bind fun y => if y.1.length ≤ sizeLine then some (.val (.lst y.1), y.2) else none := rfl
@[simp] theorem ap_dic : fDic fr ρ = (fr ρ).bind fun x => (takes x.2 x.1).bind fun y => (pairUp y.1).bind fun kvs => if (kvs.map (·.1)).Nodup ∧ kvs.length ≤ 15 then some (.val (.dic kvs), y.2) else none := rfl
@[simp] theorem ap_dic0 : fDic0 ρ = some (.val (.dic []), ρ) := rfl
@[simp] theorem ap_call : fCall cl fr ρ = (fr ρ).bind fun x => (conts x.2 x.1).bind fun ds => (cl ds).map fun z => (.val z, x.2) := rfl
@[simp] theorem ap_callD {den : Den} : fCallD den fr ρ = (fr ρ).bind fun x => (takes x.2 x.1).bind fun y => (den y.1).map fun z => (.val z.1, giveBack x.1 y.1 z.2 y.2) := rfl
@[simp] theorem ap_pVar : fpVar i ρ = (slot ρ i).map fun _ => (.sl i, ρ) := rfl
@[simp] theorem ap_mut {ok : D → Bool} {m : D → List D → Option (D × D)} : fMut ok m fp fr ρ = (fp ρ).bind fun p => (getP p.2 p.1).bind fun d0 => if ok d0 then (fr (hide p.2 p.1)).bind fun x => (takes x.2 x.1).bind fun y =>
    (getP (unhide p.2 y.2 p.1) p.1).bind fun d => (m d y.1).map fun z => (.val z.2, setP (unhide p.2 y.2 p.1) z.1 p.1) else none := rfl
@[simp] theorem ap_frz : fFrz fe ρ = (fe ρ).bind fun x => (cont x.2 x.1).bind fun d => (frzD d).map fun d' => (.val d', match x.1 with | .var i => x.2.set i (some d') | .val _ => x.2) := rfl
@[simp] theorem ap_seqI : fSeqI fe ρ = (fe ρ).bind fun x => (cont x.2 x.1).bind fun d => match d with
  | .tup ds => if immL ds = true then some (ds, x.2) else none
  | .flst ds => if immL ds = true then some (ds, x.2) else none
  | _ => none := rfl
@[simp] theorem ap_rng1 : fRng1 fr ρ = (fr ρ).bind fun x => (conts x.2 x.1).bind fun ds => match ds with
  | [.int j] => if okR j = true then some (iota 0 j.toNat, x.2) else none
  | _ => none := rfl
@[simp] theorem ap_rng2 : fRng2 fr ρ = (fr ρ).bind fun x => (conts x.2 x.1).bind fun ds => match ds with
  | [.int i, .int j] => if okR i = true ∧ okR j = true then some (iota i (j - i).toNat, x.2) else none
  | _ => none := rfl
@[simp] theorem ap_lstRg1 : fLstRg1 fa ρ = (fa ρ).bind fun x => (cont x.2 x.1).bind fun d => match d with
  | .int j => if okR j = true ∧ j.toNat ≤ 2 ^ 24 then some (.val (.lst (iota 0 j.toNat)), x.2) else none
  | _ => none := rfl
@[simp] theorem ap_yes : fYes ρ = some (true, ρ) := rfl
@[simp] theorem ap_lc {vs : List Nat} : fLc vs fi fg ft fe ρ = (fi ρ).bind fun x => (lcD vs fg ft fe x.1 (wipeF x.2 vs)).bind fun z => if z.1.length ≤ sizeLine then some (.val (.lst z.1), z.2) else none := rfl
@[simp] theorem ap_oNone : foNone ρ = some (none, ρ) := rfl
@[simp] theorem ap_oSome : foSome fe ρ = (fe ρ).bind fun x => (cont x.2 x.1).bind fun d => match d with
  | .int i => some (some i, x.2)
  | _ => none := rfl
@[simp] theorem ap_cut {fl fh : Fm → Option (Option Int × Fm)} : fCut fe fl fh ρ = (fe ρ).bind fun x => (fl x.2).bind fun l => (fh l.2).bind fun h => (cont h.2 x.1).bind fun d => (dCut d l.1 h.1).map fun z => (.val z, h.2) := rfl
@[simp] theorem ap_neg : fNeg fa ρ = (fa ρ).bind fun x => (cont x.2 x.1).bind fun d => match d with
  | .int i => some (.val (.int (-i)), x.2)
  | _ => none := rfl
end
@[simp] theorem cont_val {ρ : Fm} {d : D} : cont ρ (.val d) = some d := rfl
@[simp] theorem cont_var {ρ : Fm} {i : Nat} : cont ρ (.var i) = slot ρ i := rfl
@[simp] theorem take_val {ρ : Fm} {d : D} : take1 ρ (.val d) = some (d, ρ) := rfl
@[simp] theorem take_var {ρ : Fm} {i : Nat} : take1 ρ (.var i) = (slot ρ i).map fun d => (d, if imm d then ρ else ρ.set i none) := rfl
@[simp] theorem takes_nil {ρ : Fm} : takes ρ [] = some ([], ρ) := rfl
@[simp] theorem takes_cons {ρ : Fm} {r : R} {rs : List R} : takes ρ (r :: rs) = (take1 ρ r).bind fun x => (takes x.2 rs).map fun y => (x.1 :: y.1, y.2) := rfl
@[simp] theorem conts_nil {ρ : Fm} : conts ρ [] = some [] := rfl
@[simp] theorem conts_cons {ρ : Fm} {r : R} {rs : List R} : conts ρ (r :: rs) = (cont ρ r).bind fun d => (conts ρ rs).map fun ds => d :: ds := rfl
@[simp] theorem slot0' (d : Option D) (ρ : Fm) : slot (d :: ρ) 0 = d := slot0 d ρ
@[simp] theorem slotS' (d : Option D) (ρ : Fm) (i : Nat) : slot (d :: ρ) (i + 1) = slot ρ i := slotS d ρ i
@[simp] theorem getP_sl {ρ : Fm} {i : Nat} : getP ρ (.sl i) = slot ρ i := rfl
@[simp] theorem hide_sl {ρ : Fm} {i : Nat} : hide ρ (.sl i) = ρ := rfl
@[simp] theorem unhide_sl {ρ ρ' : Fm} {i : Nat} : unhide ρ ρ' (.sl i) = ρ' := rfl
@[simp] theorem setP_sl {ρ : Fm} {i : Nat} {d : D} : setP ρ d (.sl i) = ρ.set i (some d) := rfl
@[simp] theorem gb_nil {ds : List D} {os ρ : Fm} : giveBack [] ds os ρ = ρ := by unfold giveBack; rfl
@[simp] theorem gb_val {d0 d : D} {rs : List R} {ds : List D} {o : Option D} {os ρ : Fm} : giveBack (.val d0 :: rs) (d :: ds) (o :: os) ρ = giveBack rs ds os ρ := by rw [giveBack]
@[simp] theorem gb_var {i : Nat} {d : D} {rs : List R} {ds : List D} {o : Option D} {os ρ : Fm} : giveBack (.var i :: rs) (d :: ds) (o :: os) ρ = giveBack rs ds os (if imm d then ρ else ρ.set i o) := by rw [giveBack]
@[simp] theorem imm_non : imm .non = true := rfl
@[simp] theorem imm_bl {b : Bool} : imm (.bl b) = true := rfl
@[simp] theorem imm_int {i : Int} : imm (.int i) = true := rfl
@[simp] theorem imm_str {x : Str} : imm (.str x) = true := rfl
@[simp] theorem imm_tup {ds : List D} : imm (.tup ds) = immL ds := rfl
@[simp] theorem imm_lst {ds : List D} : imm (.lst ds) = false := rfl
@[simp] theorem imm_flst {ds : List D} : imm (.flst ds) = immL ds := rfl
@[simp] theorem imm_dic {ds : List (Key × D)} : imm (.dic ds) = false := rfl
@[simp] theorem immL_nil : immL [] = true := rfl
@[simp] theorem immL_cons {d : D} {ds : List D} : immL (d :: ds) = (imm d && immL ds) := rfl
@[simp] theorem add_int {i j : Int} : dAdd (.int i) (.int j) = some (.int (i + j)) := rfl
@[simp] theorem sub_int {i j : Int} : dSub (.int i) (.int j) = some (.int (i - j)) := rfl
theorem mul_int {i j : Int} (h : mulOk i j = true) : dMul (.int i) (.int j) = some (.int (i * j)) := by simp [dMul, dMulI, h]
theorem mul_l {i j : Int} (h0 : -(2 ^ 64) < i) (h1 : i < 2 ^ 64) : dMul (.int i) (.int j) = some (.int (i * j)) := mul_int (mulOk_l h0 h1)
theorem mul_r {i j : Int} (h0 : -(2 ^ 64) < j) (h1 : j < 2 ^ 64) : dMul (.int i) (.int j) = some (.int (i * j)) := mul_int (mulOk_r h0 h1)
@[simp] theorem div_int {i j : Int} (h0 : j ≠ 0) (h1 : j.natAbs < 1073741824) : dDiv (.int i) (.int j) = some (.int (i.fdiv j)) := if_pos ⟨h0, h1⟩
@[simp] theorem mod_int {i j : Int} (h : j ≠ 0) : dMod (.int i) (.int j) = some (.int (i.fmod j)) := if_pos h
theorem pow_int {i j : Int} (h : 0 ≤ j ∧ j ≤ 1000000 ∧ i.natAbs < 2 ^ 64) : dPow (.int i) (.int j) = some (.int (i ^ j.toNat)) := if_pos h
@[simp] theorem cmp_int {p : Int → Int → Bool} {i j : Int} : dCmp p (.int i) (.int j) = some (.bl (p i j)) := rfl
@[simp] theorem eq_int {i j : Int} : dEq (.int i) (.int j) = some (.bl (decide (i = j))) := by
  show some (D.bl (decide (V.int i = V.int j))) = _
  simp
@[simp] theorem ne_int {i j : Int} : dNe (.int i) (.int j) = some (.bl (!decide (i = j))) := by
  show some (D.bl (!decide (V.int i = V.int j))) = _
  simp
@[simp] theorem ne_str {i j : Str} : dNe (.str i) (.str j) = some (.bl (!decide (i = j))) := by
  show some (D.bl (!decide (V.str i = V.str j))) = _
  simp
@[simp] theorem len_lst {ds : List D} : dLen [.lst ds] = some (.int ds.length) := rfl
@[simp] theorem len_flst {ds : List D} : dLen [.flst ds] = some (.int ds.length) := rfl
@[simp] theorem len_tup {ds : List D} : dLen [.tup ds] = some (.int ds.length) := rfl
@[simp] theorem len_dic {ds : List (Key × D)} : dLen [.dic ds] = some (.int ds.length) := rfl
@[simp] theorem frz_lst {ds : List D} : frzD (.lst ds) = (frzL ds).map .flst := rfl
@[simp] theorem frz_flst {ds : List D} : frzD (.flst ds) = (frzL ds).map .flst := rfl
@[simp] theorem frz_tup {ds : List D} : frzD (.tup ds) = (frzL ds).map .tup := rfl
@[simp] theorem frz_int {i : Int} : frzD (.int i) = some (.int i) := rfl
@[simp] theorem frz_bl {i : Bool} : frzD (.bl i) = some (.bl i) := rfl
@[simp] theorem frz_non : frzD .non = some .non := rfl
@[simp] theorem frz_str {i : Str} : frzD (.str i) = some (.str i) := rfl
@[simp] theorem frzL_nil : frzL [] = some [] := rfl
@[simp] theorem frzL_cons {d : D} {ds : List D} : frzL (d :: ds) = (frzD d).bind fun d' => (frzL ds).map fun ds' => d' :: ds' := rfl
@[simp] theorem immL_map_int {ns : List Int} : immL (ns.map D.int) = true := immL_ints ns
@[simp] theorem frzL_ints {ns : List Int} : frzL (ns.map D.int) = some (ns.map D.int) := frzL_id _ (immL_ints ns)
/-! ### loops -/
theorem ok_for {fg : FG} {fb : FS} {P : Fl × Fm → Prop} (I : List D → Fm → Prop) (step : ∀ d r ρ, I (d :: r) ρ → Ok (fg d ρ) fun ρ1 => Ok (fb ρ1) fun x => match x.1 with
    | .nx => I r x.2
    | .ct => I r x.2
    | .bk => P (.nx, x.2)
    | .ret v => P (.ret v, x.2)) (done : ∀ ρ, I [] ρ → P (.nx, ρ)) : ∀ {ds : List D} {ρ : Fm}, I ds ρ → Ok (forD fg fb ds ρ) P
  | [], ρ, h => ok_some.mpr (done ρ h)
  | d :: ds, ρ, h => by
    refine ok_bind.mpr (ok_mono (step d ds ρ h) fun ρ1 h1 => ok_bind.mpr (ok_mono h1 fun x h2 => ?_))
    obtain ⟨o, ρ2⟩ := x
    cases o with
    | nx => exact ok_for I step done h2
    | ct => exact ok_for I step done h2
    | bk => exact ok_some.mpr h2
    | ret v => exact ok_some.mpr h2
end DL
/-! Small data: texts of it, likeness, rows and webs. -/
namespace DL
open PySem PySem.Spec L2
/-! data of small whole numbers, truths and None; so deep at most, of such a weight at most -/
mutual
def small : D → Bool
  | .non => true | .bl _ => true
  | .int i => decide (i.natAbs < 10 ^ 12)
  | .str x => decide (PyData.canLay0 (.str x) = true)
  | .tup ds => smallL ds
  | .lst ds => smallL ds
  | .flst ds => smallL ds
  | .dic _ => false
  | .fdic _ => false
  | .exc _ _ _ _ => false
def smallL : List D → Bool
  | [] => true
  | d :: ds => small d && smallL ds
end
theorem smallL_mem : ∀ {ds : List D}, smallL ds = true ↔ ∀ d ∈ ds, small d = true := by
  intro ds
  induction ds with
  | nil => simp [smallL]
  | cons n ns ih => simp [smallL, ih]
mutual
theorem small_all : ∀ (d : D), small d = true → noDic d = true ∧ (toP d).canLay0 = true ∧ (toP d).showable = true ∧ (toP d).hasDict = false ∧ (toP d).intsShort 13 = true
  | .non, _ => ⟨rfl, rfl, rfl, rfl, rfl⟩
  | .bl _, _ => ⟨rfl, rfl, rfl, rfl, rfl⟩
  | .int i, h => by
    have h' : i.natAbs < 10 ^ 12 := of_decide_eq_true h
    refine ⟨rfl, rfl, ?_, rfl, ?_⟩
    · show decide (i.natAbs.log2 < 1920) = true
      rw [decide_eq_true_iff]
      by_cases h0 : i.natAbs = 0
      · rw [h0]; decide
      · exact (Nat.log2_lt h0).mpr (Nat.lt_trans h' (Nat.lt_of_lt_of_le (by decide : 10 ^ 12 < 2 ^ 40) (Nat.pow_le_pow_right (by decide) (by decide))))
    · have := PyData.intsShortAll_ints [i] fun n hn => by simp at hn; rw [hn]; exact h'
      simpa [PyData.intsShortAll, toP] using this
  | .str x, h => ⟨rfl, of_decide_eq_true h, rfl, rfl, by have := PyData.intsShortAll_strs 13 [x]; simpa [PyData.intsShortAll, toP] using this⟩
  | .tup ds, h => by
    obtain ⟨a, b, c, d, e⟩ := small_allL ds h
    exact ⟨a, by simpa [toP, PyData.canLay0] using b, by simpa [toP, PyData.showable] using c, by simpa [toP, PyData.hasDict] using d, by simpa [toP, PyData.intsShort] using e⟩
  | .lst ds, h => by
    obtain ⟨a, b, c, d, e⟩ := small_allL ds h
    exact ⟨a, by simpa [toP, PyData.canLay0] using b, by simpa [toP, PyData.showable] using c, by simpa [toP, PyData.hasDict] using d, by simpa [toP, PyData.intsShort] using e⟩
  | .flst ds, h => by
    obtain ⟨a, b, c, d, e⟩ := small_allL ds h
    exact ⟨a, by simpa [toP, PyData.canLay0] using b, by simpa [toP, PyData.showable] using c, by simpa [toP, PyData.hasDict] using d, by simpa [toP, PyData.intsShort] using e⟩
  | .dic _, h => by cases h
  | .fdic _, h => by cases h
  | .exc _ _ _ _, h => by cases h
theorem small_allL : ∀ (ds : List D), smallL ds = true → noDicL ds = true ∧ PyData.canLayAll0 (toPL ds) = true ∧ PyData.showableAll (toPL ds) = true ∧ PyData.hasDictAll (toPL ds) = false ∧ PyData.intsShortAll 13 (toPL ds) = true
  | [], _ => ⟨rfl, rfl, rfl, rfl, rfl⟩
  | d :: ds, h => by
    have h' : small d = true ∧ smallL ds = true := by simpa [smallL] using h
    obtain ⟨a, b, c, e, f⟩ := small_all d h'.1
    obtain ⟨a', b', c', e', f'⟩ := small_allL ds h'.2
    exact ⟨by simp [noDicL, a, a'], by simp [toPL, PyData.canLayAll0, b, b'], by simp [toPL, PyData.showableAll, c, c'], by simp [toPL, PyData.hasDictAll, e, e'], by simp [toPL, PyData.intsShortAll, f, f']⟩
end
structure Nice (k w : Nat) (d : D) : Prop where
  small : small d = true
  depth : (toP d).depth ≤ k
  weight : (toP d).weight ≤ w
theorem Nice.mono {k k' w w' : Nat} {d : D} (h : Nice k w d) (hk : k ≤ k') (hw : w ≤ w') : Nice k' w' d := ⟨h.small, Nat.le_trans h.depth hk, Nat.le_trans h.weight hw⟩
theorem nice_int {i : Int} (h : i.natAbs < 10 ^ 12) : Nice 0 40 (.int i) := ⟨decide_eq_true h, Nat.le_refl _, by
  show (PyData.int i).weight ≤ 40
  simp only [PyData.weight]
  split
  · exact Nat.zero_le _
  · rename_i h0
    have h0' : i.natAbs ≠ 0 := by simpa using h0
    exact (Nat.log2_lt h0').mpr (Nat.lt_trans h (by decide))⟩
theorem depthAll_le {k : Nat} : ∀ {ds : List D}, (∀ d ∈ ds, (toP d).depth ≤ k) → PyData.depthAll (toPL ds) ≤ k
  | [], _ => by simp [toPL, PyData.depthAll]
  | d :: ds, h => by
    simp only [toPL, PyData.depthAll]
    exact Nat.max_le.mpr ⟨h d List.mem_cons_self, depthAll_le fun x hx => h x (List.mem_cons_of_mem _ hx)⟩
theorem weightAll_le {w : Nat} : ∀ {ds : List D}, (∀ d ∈ ds, (toP d).weight ≤ w) → PyData.weightAll (toPL ds) ≤ ds.length * (w + 1)
  | [], _ => by simp [toPL, PyData.weightAll]
  | d :: ds, h => by
    simp only [toPL, PyData.weightAll, List.length_cons, Nat.add_mul]
    have := weightAll_le (w := w) fun x hx => h x (List.mem_cons_of_mem _ hx)
    have := h d List.mem_cons_self
    omega
theorem nice_tup {k w : Nat} {ds : List D} (h : ∀ d ∈ ds, Nice k w d) : Nice (k + 1) (ds.length * (w + 1)) (.tup ds) :=
  ⟨smallL_mem.mpr fun d hd => (h d hd).small, by simp only [toP, PyData.depth]; exact Nat.succ_le_succ (depthAll_le fun d hd => (h d hd).depth), by simp only [toP, PyData.weight]; exact weightAll_le fun d hd => (h d hd).weight⟩
theorem Nice.shaped {k w : Nat} {d : D} (h : Nice k w d) (hk : k ≤ 64) : SeqAt.shaped (toP d) = true := by
  unfold SeqAt.shaped
  rw [(small_all d h.small).2.1, decide_eq_true (Nat.le_trans h.depth hk)]
  rfl
/-! ### likeness of whole numbers, lists of such -/
theorem eqvAll_ints : ∀ (a b : List Int), PyData.eqvAll (toPL (a.map D.int)) (toPL (b.map D.int)) = decide (a = b)
  | [], [] => by simp [toPL, PyData.eqvAll]
  | [], _ :: _ => by simp [toPL, PyData.eqvAll]
  | _ :: _, [] => by simp [toPL, PyData.eqvAll]
  | i :: a, j :: b => by
    simp only [List.map_cons, toPL, PyData.eqvAll, toP, PyData.eqv, eqvAll_ints a b, List.cons.injEq]
    by_cases h : i = j <;> simp [h]
theorem shaped_ints (ns : List Int) : SeqAt.shaped (.list (toPL (ns.map D.int))) = true := by
  have h1 : PyData.canLayAll0 (toPL (ns.map D.int)) = true := by
    induction ns with
    | nil => rfl
    | cons n ns ih => simp [toPL, PyData.canLayAll0, toP, PyData.canLay0, ih]
  have h2 : PyData.depthAll (toPL (ns.map D.int)) ≤ 0 := by
    induction ns with
    | nil => simp [toPL, PyData.depthAll]
    | cons n ns ih => simpa [toPL, PyData.depthAll, toP, PyData.depth] using ih (by
        simpa [toPL, PyData.canLayAll0, toP, PyData.canLay0] using h1)
  unfold SeqAt.shaped
  have h3 : (PyData.list (toPL (ns.map D.int))).depth ≤ 64 := by
    rw [PyData.depth]
    exact Nat.le_trans (Nat.succ_le_succ h2) (by decide : 0 + 1 ≤ 64)
  rw [PyData.canLay0, h1, decide_eq_true h3]
  rfl
theorem noDic_ints (ns : List Int) : noDicL (ns.map D.int) = true := by
  induction ns with
  | nil => rfl
  | cons n ns ih => simp [noDicL, noDic, ih]
/-- an int list: frozen or not -/
def isInts (x : D) (ns : List Int) : Prop := x = .lst (ns.map D.int) ∨ x = .flst (ns.map D.int)
theorem eqB_ints {x y : D} {a b : List Int} (hx : isInts x a) (hy : isInts y b) : dEqB x y = some (decide (a = b)) := by
  have key : dEqD x y = some (decide (a = b)) := by
    rcases hx with rfl | rfl <;> rcases hy with rfl | rfl <;>
      (show (if _ then some (PyData.eqv (.list (toPL (a.map D.int))) (.list (toPL (b.map D.int)))) else none) = _
       rw [if_pos ⟨noDic_ints a, noDic_ints b, shaped_ints a, shaped_ints b⟩]
       simp only [PyData.eqv, eqvAll_ints])
  rcases hx with rfl | rfl <;> rcases hy with rfl | rfl <;> exact key
theorem ne_ints {x y : D} {a b : List Int} (hx : isInts x a) (hy : isInts y b) : dNe x y = some (.bl (!decide (a = b))) := by
  unfold dNe; rw [eqB_ints hx hy]; rfl
theorem eq_ints {x y : D} {a b : List Int} (hx : isInts x a) (hy : isInts y b) : dEq x y = some (.bl (decide (a = b))) := by
  unfold dEq; rw [eqB_ints hx hy]; rfl
@[simp] theorem ne_void (a : List Int) : dNe (.lst (a.map D.int)) (.lst []) = some (.bl (!decide (a = []))) := ne_ints (b := []) (.inl rfl) (.inl rfl)
@[simp] theorem ne_voidf (a : List Int) : dNe (.flst (a.map D.int)) (.lst []) = some (.bl (!decide (a = []))) := ne_ints (b := []) (.inr rfl) (.inl rfl)
@[simp] theorem eq_void (a : List Int) : dEq (.lst (a.map D.int)) (.lst []) = some (.bl (decide (a = []))) := eq_ints (b := []) (.inl rfl) (.inl rfl)
@[simp] theorem eq_voidf (a : List Int) : dEq (.flst (a.map D.int)) (.lst []) = some (.bl (decide (a = []))) := eq_ints (b := []) (.inr rfl) (.inl rfl)
end DL
/-! More that simp reads. -/
namespace DL
open PySem PySem.Spec L2
section
variable {W : List Nat} {ρ : Fm}
@[simp] theorem par1 : params W 1 ρ = [if 0 ∈ W then none else slot ρ 0] := rfl
@[simp] theorem par2 : params W 2 ρ = [if 0 ∈ W then none else slot ρ 0, if 1 ∈ W then none else slot ρ 1] := rfl
@[simp] theorem par3 : params W 3 ρ = [if 0 ∈ W then none else slot ρ 0, if 1 ∈ W then none else slot ρ 1, if 2 ∈ W then none else slot ρ 2] := rfl
@[simp] theorem par4 : params W 4 ρ = [if 0 ∈ W then none else slot ρ 0, if 1 ∈ W then none else slot ρ 1, if 2 ∈ W then none else slot ρ 2, if 3 ∈ W then none else slot ρ 3] := rfl
@[simp] theorem par5 : params W 5 ρ = [if 0 ∈ W then none else slot ρ 0, if 1 ∈ W then none else slot ρ 1, if 2 ∈ W then none else slot ρ 2, if 3 ∈ W then none else slot ρ 3, if 4 ∈ W then none else slot ρ 4] := rfl
end
@[simp] theorem isLst_l {ds : List D} : isLst (.lst ds) = true := rfl
@[simp] theorem cut_t {ds : List D} {l h : Option Int} : dCut (.tup ds) l h = if immL ds = true then some (.tup (cut ds l h)) else none := rfl
@[simp] theorem cut_l {ds : List D} {l h : Option Int} : dCut (.lst ds) l h = if immL ds = true then some (.lst (cut ds l h)) else none := rfl
@[simp] theorem cut_f {ds : List D} {l h : Option Int} : dCut (.flst ds) l h = if immL ds = true then some (.lst (cut ds l h)) else none := rfl
@[simp] theorem ok_some' {α : Type} {a : α} {P : α → Prop} : Ok (some a) P ↔ P a := ok_some
@[simp] theorem ne_vv : dNe (.lst []) (.lst []) = some (.bl false) := ne_void []
@[simp] theorem ne_vvf : dNe (.flst []) (.lst []) = some (.bl false) := ne_voidf []
@[simp] theorem pow_1018 : dPow (.int 10) (.int 18) = some (.int 1000000000000000000) := rfl
@[simp] theorem mul_ls {i j : Int} (h0 : -(2 ^ 64) < i) (h1 : i < 2 ^ 64) : dMul (.int i) (.int j) = some (.int (i * j)) := mul_l h0 h1
@[simp] theorem mul_rs {i j : Int} (h0 : -(2 ^ 64) < j) (h1 : j < 2 ^ 64) : dMul (.int i) (.int j) = some (.int (i * j)) := mul_r h0 h1
theorem fmod_in (x : Int) {m : Int} (h : 0 < m) : 0 ≤ x.fmod m ∧ x.fmod m < m := ⟨Int.fmod_nonneg_of_pos x h, Int.fmod_lt_of_pos x h⟩
@[simp] theorem mul_fm {x y : Int} : dMul (.int (x.fmod 1000000007 + 1)) (.int y) = some (.int ((x.fmod 1000000007 + 1) * y)) := by
  have := fmod_in x (m := 1000000007) (by decide)
  exact mul_l (by omega) (by omega)
@[simp] theorem pow_fm {x : Int} : dPow (.int (x.fmod 2147483647)) (.int 5) = some (.int ((x.fmod 2147483647) ^ 5)) := by
  have := fmod_in x (m := 2147483647) (by decide)
  exact pow_int ⟨by decide, by decide, by omega⟩
theorem cell_at {cs : List Int} (a : Int) (h : cs ≠ []) : ∃ c, dSubs (.flst (cs.map .int)) (.int (a.fmod cs.length)) = some (.int c) := by
  have hl : 0 < cs.length := List.length_pos_iff.mpr h
  have := fmod_in a (m := cs.length) (by omega)
  have hlt : (a.fmod cs.length).toNat < cs.length := by omega
  exact ⟨cs[(a.fmod cs.length).toNat], dSubs_seq rfl this.1 (by rw [List.getElem?_map, List.getElem?_eq_getElem hlt]; rfl) rfl⟩
theorem gb_none : ∀ {rs : List R} {ds : List D} {ρ : Fm}, giveBack rs ds [] ρ = ρ
  | [], _, _ => by unfold giveBack; rfl
  | .var _ :: _, [], _ => by unfold giveBack; rfl
  | .val _ :: _, [], _ => by unfold giveBack; rfl
  | .var _ :: _, _ :: _, _ => by unfold giveBack; rfl
  | .val _ :: _, _ :: _, _ => by unfold giveBack; rfl
@[simp] theorem gb_immc {i : Nat} {d : D} {rs : List R} {ds : List D} {os ρ : Fm} (h : imm d = true) : giveBack (.var i :: rs) (d :: ds) os ρ = giveBack rs ds os.tail ρ := by
  cases os with
  | nil => rw [gb_none, List.tail_nil, gb_none]
  | cons o os => rw [giveBack, if_pos h]; rfl
@[simp] theorem gb_valc {v d : D} {rs : List R} {ds : List D} {os ρ : Fm} : giveBack (.val v :: rs) (d :: ds) os ρ = giveBack rs ds os.tail ρ := by
  cases os with
  | nil => rw [gb_none, List.tail_nil, gb_none]
  | cons o os => rw [giveBack]; rfl
end DL
/-! Lists of whole numbers, rows, webs. -/
namespace DL
open PySem PySem.Spec L2
abbrev intsD (ns : List Int) : List D := ns.map D.int
/-- a row as a tuple; a web -/
def rowD (r : List Int) : D := .tup (intsD r)
abbrev webD (w : List (List Int)) : D := .tup (w.map rowD)
/-- the least of a list that isn't void -/
def least : List Int → Int
  | [] => 0
  | n :: ns => ns.foldl min n
theorem tuple_l {a : List D} (ha : immL a = true) : dTuple [.lst a] = some (.tup a) := if_pos ha
theorem append_l {ds : List D} {y : D} (h : ds.length < sizeLine) : mAppend (.lst ds) [y] = some (.lst (ds ++ [y]), .non) := if_pos h
theorem imm_rows (w : List (List Int)) : immL (w.map rowD) = true := immL_mem.mpr fun d hd => by
  obtain ⟨r, _, rfl⟩ := List.mem_map.mp hd
  exact immL_ints r
theorem alikeAll_ints : ∀ (a b : List Int), PySem.W.alikeAll (toPL (intsD a)) (toPL (intsD b)) = true
  | [], _ => by simp [toPL, PySem.W.alikeAll]
  | _ :: _, [] => by simp [toPL, PySem.W.alikeAll]
  | i :: a, j :: b => by
    have := alikeAll_ints a b
    simp only [intsD, List.map_cons, toPL, PySem.W.alikeAll, toP, PySem.W.alike, Bool.true_and]
    exact this
theorem depth_row (r : List Int) : (toP (rowD r)).depth ≤ 32 := by
  have := depthAll_le (k := 0) (ds := intsD r) fun d hd => by
    obtain ⟨i, _, rfl⟩ := List.mem_map.mp hd
    exact Nat.le_refl 0
  show (PyData.tuple (toPL (intsD r))).depth ≤ 32
  rw [PyData.depth]
  omega
/-- rows in rising order, as sorted puts them -/
def rowLe (a b : List Int) : Bool := PySem.W.dataLe false toP (rowD a) (rowD b)
def sortRows (w : List (List Int)) : List (List Int) := w.mergeSort rowLe
theorem sorted_rows {w : List (List Int)} (h : ∀ r ∈ w, r ≠ []) : dSorted [.lst (w.map rowD)] = some (.lst ((sortRows w).map rowD)) := by
  have h1 : noDicL (w.map rowD) = true := by
    induction w with
    | nil => rfl
    | cons r w ih =>
      show (noDicL (intsD r) && noDicL (w.map rowD)) = true
      rw [noDic_ints, ih fun x hx => h x (List.mem_cons_of_mem _ hx)]
      rfl
  have h2 : sortable ((w.map rowD).map toP) = true := by
    unfold sortable
    rw [Bool.or_eq_true]
    left
    rw [List.all_eq_true]
    intro d hd
    obtain ⟨e, he, rfl⟩ := List.mem_map.mp hd
    obtain ⟨r, hr, rfl⟩ := List.mem_map.mp he
    cases r with
    | nil => exact absurd rfl (h _ hr)
    | cons n r => rfl
  have h3 : allAlike ((w.map rowD).map toP) = true := by
    unfold allAlike
    rw [List.all_eq_true]
    intro d hd
    rw [List.all_eq_true]
    intro e he
    obtain ⟨d', hd', rfl⟩ := List.mem_map.mp hd
    obtain ⟨r, _, rfl⟩ := List.mem_map.mp hd'
    obtain ⟨e', he', rfl⟩ := List.mem_map.mp he
    obtain ⟨q, _, rfl⟩ := List.mem_map.mp he'
    exact alikeAll_ints r q
  show (if _ then some (D.lst ((w.map rowD).mergeSort (PySem.W.dataLe false toP))) else none) = _
  rw [if_pos ⟨h1, imm_rows w, h2, h3, fun d hd => by obtain ⟨r, _, rfl⟩ := List.mem_map.mp hd; exact depth_row r⟩]
  congr 2
  exact (List.map_mergeSort (f := rowD) (r := rowLe) (s := PySem.W.dataLe false toP) fun a _ b _ => rfl).symm
theorem sortRows_perm (w : List (List Int)) : (sortRows w).Perm w := List.mergeSort_perm _ _
theorem big_ok {n : Nat} (h : n ≤ 100000) : n ≤ sizeLine := Nat.le_trans h (by decide)
theorem big_lt {n : Nat} (h : n ≤ 100000) : n < sizeLine := Nat.lt_of_le_of_lt h (by decide)
theorem IsFeed.imm {d : D} (h : IsFeed d) : imm d = false := by obtain ⟨_, _, _, _, rfl⟩ := h; rfl
/-- 0, 1, …, k - 1 -/
def up (k : Nat) : List Int := (List.range k).map fun (i : Nat) => (i : Int)
theorem iota_up (k : Nat) : iota 0 k = intsD (up k) := by simp [iota, up, intsD]
theorem up_length (k : Nat) : (up k).length = k := by simp [up]
theorem up_mem {k : Nat} {i : Int} : i ∈ up k ↔ 0 ≤ i ∧ i < k := by
  unfold up
  rw [List.mem_map]
  constructor
  · rintro ⟨j, hj, rfl⟩
    have := List.mem_range.mp hj
    omega
  · rintro ⟨h0, h1⟩
    exact ⟨i.toNat, List.mem_range.mpr (by omega), by omega⟩
theorem up_nodup (k : Nat) : (up k).Nodup := by
  unfold up
  refine List.pairwise_map.mpr (List.Pairwise.imp (fun {a b} h => ?_) List.nodup_range)
  omega
theorem okR_of' {j : Int} (h0 : -4611686018427387904 < j) (h1 : j < 4611686018427387904) : okR j = true := decide_eq_true (by omega)
theorem map_erase {α β : Type} (f : α → β) : ∀ (l : List α) (i : Nat), (l.map f).eraseIdx i = (l.eraseIdx i).map f
  | [], i => by simp
  | a :: l, 0 => rfl
  | a :: l, i + 1 => by simp [map_erase f l i]
theorem pop_ints {ns : List Int} {i : Int} (h0 : 0 ≤ i) (h1 : i < ns.length) (hl : ns.length ≤ 100000) : ∃ n, ns[i.toNat]? = some n ∧ mPopAt (.lst (intsD ns)) [.int i] = some (.lst (intsD (ns.eraseIdx i.toNat)), .int n) := by
  have hlt : i.toNat < ns.length := by omega
  refine ⟨ns[i.toNat], List.getElem?_eq_getElem hlt, ?_⟩
  show (if i.natAbs < 2 ^ 63 then _ else _) = _
  rw [if_pos (by omega), ixN_int h0 (by simp; omega)]
  show Option.map _ ((ns.map D.int)[i.toNat]?) = _
  rw [List.getElem?_map, List.getElem?_eq_getElem hlt]
  simp [map_erase]
theorem erase_perm {ns : List Int} {i : Nat} {n : Int} (h : ns[i]? = some n) : (n :: ns.eraseIdx i).Perm ns := by
  induction ns generalizing i with
  | nil => simp at h
  | cons m ns ih =>
    cases i with
    | zero => simp at h; subst h; simp
    | succ i =>
      simp at h
      simp only [List.eraseIdx_cons_succ]
      exact (List.Perm.swap _ _ _).trans ((ih h).cons _)
@[simp] theorem hide_ix {ρ : Fm} {i j : Nat} : hide ρ (.ix i j) = ρ.set i none := rfl
@[simp] theorem unhide_ix {ρ1 ρ3 : Fm} {i j : Nat} : unhide ρ1 ρ3 (.ix i j) = (ρ3.set i none).set i (slot ρ1 i) := rfl
theorem rows_le : ∀ {w : List (List Int)}, (∀ r ∈ w, r ≠ []) → w.length ≤ w.flatten.length
  | [], _ => Nat.zero_le _
  | r :: w, h => by
    have := rows_le (w := w) fun x hx => h x (List.mem_cons_of_mem _ hx)
    have := List.length_pos_iff.mpr (h r List.mem_cons_self)
    simp only [List.length_cons, List.flatten_cons, List.length_append]
    omega
theorem row_le : ∀ {w : List (List Int)} {r : List Int}, r ∈ w → r.length ≤ w.flatten.length
  | q :: w, r, h => by
    simp only [List.flatten_cons, List.length_append]
    rcases List.mem_cons.mp h with rfl | h
    · omega
    · have := row_le h
      omega
end DL
/-! sorted of a list of tuples of which the first is void. -/
namespace DL
open PySem PySem.Spec L2
section
open PySem.W PySem.SeqAt PyProof.Rows PySem.Calls
variable {prog : Program} {w : World} {A : Around} {E : Value → Shared → Prop} {s : Shared}
/-- tuples by tuple's own order, as a sort of one class asks it -/
theorem tup_below {xs ys : List PyData} {a b : Value} {ia ib : List Addr} {G : Bool → Shared → Prop} (ra : Reads s.heap a (.tuple xs) ia) (rb : Reads s.heap b (.tuple ys) ib) (al : alikeAll xs ys = true)
    (deep : A.units + min (PyData.tuple xs).depth (PyData.tuple ys).depth < cLine) (told : G (dataLt (.tuple xs) (.tuple ys)) s) : wpAny (model prog w) A (oneLt' true a b) G E s := by
  cases ra with
  | @tuple p o us k _ ja g1 g2 g3 g4 =>
  cases rb with
  | @tuple p' o' us' k' _ jb f1 f2 f3 f4 =>
  have c1 : us.size = xs.length := by simpa using ReadsAll.length _ _ _ g4
  have c2 : us'.size = ys.length := by simpa using ReadsAll.length _ _ _ f4
  rw [dataLt_tuple, ← firstLt_toks xs ys al, ← c1, ← c2] at told
  have eqs : ∀ i (i1 : i < us.size) (i2 : i < us'.size), EqAt A.in1 s us[i] us'[i] (pairEq xs ys i) := fun i i1 i2 => by
    have z := eqAt_alikeAll xs ys A.in1 s us.toList us'.toList _ _ g4 f4 al (room_in deep) i (by simpa using i1) (by simpa using i2)
    simpa using z
  have lts : ∀ i (i1 : i < us.size) (i2 : i < us'.size), pairEq xs ys i = false → RcLt A.in1 s us[i] us'[i] (dataLt (xs.getD i .none) (ys.getD i .none)) := fun i i1 i2 e => by
    have z := rcLt_alikeAll xs ys A.in1 s us.toList us'.toList _ _ g4 f4 al (room_in deep) i (by simpa using i1) (by simpa using i2) e
    simpa using z
  rw [oneLt'_eq, if_pos rfl]
  refine wpAny_bind (wpAny_cRoomFor (room_here deep) (wpAny_bind (wpAny_callSpecialIfBound?_slot (T := "tuple") ⟨_, g1, g2⟩ F.slot_tuple_lt ?_)))
  obtain ⟨cl, di, da, sl⟩ := o
  obtain ⟨cl', di', da', sl'⟩ := o'
  simp only at g2 g3 f2 f3
  subst g2 g3 f2 f3
  exact call_meets F.slot_tuple_lt ⟨_, g1, rfl⟩ F.entry_tuple_lt (F.args_tuple_lt_2 _ _) (tuple_ltAt p p' us us' k k' di di' sl sl' (pairEq xs ys) fun i => dataLt (xs.getD i .none) (ys.getD i .none)) ⟨g1, f1, eqs, lts, wpAny_truthy_bool told⟩
/-- the first item of each -/
theorem firsts_void : ∀ {us : List Value} {ds : List PyData}, EachIs (fun v d => ∃ is, Reads s.heap v d is) us ds → (∀ d ∈ ds, ∃ xs, d = .tuple xs) →
    ∃ rs : List (Option Value), (∀ ds', ds = .tuple [] :: ds' → ∃ rs', rs = none :: rs') ∧ ∀ G : List (Option Value) → Shared → Prop, G rs s → wpAny (model prog w) A (us.mapM firstOfTuple') G E s
  | _, _, .nil, _ => ⟨[], ⟨fun _ e => (by cases e), fun G g => by rw [List.mapM_nil]; exact wpAny_pure g⟩⟩
  | _, _, .cons (a := v) (b := d) (as := us) ⟨is, r⟩ t, all => by
    obtain ⟨rs, _, run⟩ := firsts_void t fun d hd => all d (List.mem_cons_of_mem _ hd)
    obtain ⟨xs, rfl⟩ := all d List.mem_cons_self
    have ty := looks_reads (M := model prog w) r
    cases r with
    | @tuple p o vs k _ js g1 g2 g3 g4 =>
    refine ⟨vs[0]? :: rs, fun ds' e => ⟨rs, ?_⟩, fun G g => ?_⟩
    · obtain ⟨e1, _⟩ := List.cons.inj e
      cases e1
      have : vs.size = 0 := by simpa using ReadsAll.length _ _ _ g4
      rw [Array.getElem?_eq_none (by omega)]
    · rw [List.mapM_cons]
      refine wpAny_bind ?_
      rw [kas_first_eq]
      have ty : Looks (model prog w) s.heap (typeOf (.ref p)) (Value.type "tuple") := ty
      refine wpAny_bind (ty.here ?_)
      rw [if_neg (show ¬ (Value.type "tuple" != Value.type "tuple") = true by decide)]
      exact wpAny_bind (listItems_at g1 g3 (wpAny_pure (wpAny_bind (run _ (wpAny_pure g)))))
theorem kind_void {us : List Value} {ds : List PyData} (each : EachIs (fun v d => ∃ is, Reads s.heap v d is) us (.tuple [] :: ds)) (all : ∀ d ∈ ds, ∃ xs, d = .tuple xs) {G : SortKind → Shared → Prop} (g : G oneType' s) :
    wpAny (model prog w) A (keyKind' us.toArray) G E s := by
  have all' : ∀ d ∈ PyData.tuple [] :: ds, ∃ xs, d = .tuple xs := fun d hd => by
    obtain rfl | hd := List.mem_cons.mp hd
    · exact ⟨_, rfl⟩
    · exact all d hd
  obtain ⟨rs, hd, run⟩ := firsts_void (prog := prog) (w := w) (A := A) (E := E) each all'
  obtain ⟨rs, rfl⟩ := hd ds rfl
  have tys : ∀ v ∈ us, Looks (model prog w) s.heap (typeOf v) (.type "tuple") := fun v hv => by
    obtain ⟨d, hd, is, r⟩ := each.left v hv
    obtain ⟨xs, rfl⟩ := all' d hd
    exact looks_reads r
  have some_ : us ≠ [] := fun z => by rw [z] at each; cases each
  rw [kat_kind_eq]
  rw [List.mapM_toArray]
  rw [map_eq_pure_bind]
  refine wpAny_bind (wpAny_bind (run _ (wpAny_pure ?_)))
  have no1 : ¬ ((none :: rs : List (Option Value)).toArray.all fun x => x.isSome) = true := by simp
  have no2 : ¬ (((none :: rs : List (Option Value)).toArray[0]?).bind id).isSome = true := by simp
  rw [if_neg no1, if_neg no2, oneTypeOnly'_eq]
  rw [List.mapM_toArray]
  rw [map_eq_pure_bind]
  refine wpAny_bind (wpAny_bind (wpAny_bind (kas_mapM (r := Value.type "tuple") us (fun v hv G' g' => (tys v hv).here g') (wpAny_pure ?_))))
  obtain ⟨v, us', rfl⟩ := List.exists_cons_of_ne_nil some_
  have same : ((v :: us').map fun _ => Value.type "tuple").toArray.all (fun x => x == Value.type "tuple") = true := by
    rw [List.all_toArray, List.all_map, List.all_eq_true]
    exact fun _ _ => rfl
  have head : ((v :: us').map fun _ => Value.type "tuple").toArray[0]? = some (Value.type "tuple") := by simp
  rw [head]
  simp only [same, if_true]
  exact wpAny_pure (wpAny_pure g)
theorem sorts_void {us : List Value} {ds : List PyData} (each : EachIs (fun v d => ∃ is, Reads s.heap v d is) us (.tuple [] :: ds)) (all : ∀ d ∈ ds, ∃ xs, d = .tuple xs) (al : AllAlike (.tuple [] :: ds)) (deep : ∀ d ∈ PyData.tuple [] :: ds, A.units + d.depth < cLine) :
    SortsAt prog w A s (dataKind s.heap (.tuple [] :: ds)) us := by
  have all' : ∀ d ∈ PyData.tuple [] :: ds, ∃ xs, d = .tuple xs := fun d hd => by
    obtain rfl | hd := List.mem_cons.mp hd
    · exact ⟨_, rfl⟩
    · exact all d hd
  refine ⟨fun v hv => ?_, oneType', fun F x y p q G hp hq told => ?_, fun _ F G g => kind_void each all g⟩
  · obtain ⟨d, hd, is, r⟩ := each.left v hv
    exact ⟨_, dataKind_some al hd r⟩
  · obtain ⟨d, is, hd, r, rfl⟩ := dataKind_inv hp
    obtain ⟨d', is', hd', r', rfl⟩ := dataKind_inv hq
    have both := al d hd d' hd'
    have room := deep d hd
    obtain ⟨xs, rfl⟩ := all' d hd
    obtain ⟨ys, rfl⟩ := all' d' hd'
    have both : alikeAll xs ys = true := by simpa [PySem.W.alike] using both
    rw [keyLt'_oneType]
    exact tup_below r r' both (Nat.lt_of_le_of_lt (Nat.add_le_add_left (Nat.min_le_left _ _) _) room) told
end
def tupQ : D → Bool
  | .tup _ => true
  | _ => false
def voidFirst : List D → Bool
  | .tup [] :: ds => ds.all tupQ
  | _ => false
section
variable {X : Cx} {K : PySem.W.Frag}
def rSortV (K : PySem.W.Frag) : List V → Hp → VK → Prop := fun vs H Q => ∃ (a : Addr) (ds : List D) (ws : List V), vs = [.ref a] ∧ SqL K H a ws ∧ RepL K H ds ws [] ∧ noDicL ds = true ∧ immL ds = true ∧
  voidFirst ds = true ∧ allAlike (ds.map toP) = true ∧ (∀ d ∈ ds, (toP d).depth ≤ 32) ∧
  ∀ (p : Addr) (xs : List V), H p = none → RepL K H (ds.mergeSort (PySem.W.dataLe false toP)) xs [] → Q (.ref p) (upd H p (.lst xs))
theorem cx_sortV (hu : X.A.units + 40 < cLine) : CallR X (.builtin "sorted") (rSortV X.K) := fun pins st σ H _ us Q I r ⟨a, ds, ws, ex, at_, rl, flat, still, so, al, dp, q⟩ => by
  subst ex
  rw [Vals.ref1 r]
  have ⟨zs, rv, p, small⟩ := I.list at_
  have count : ws.length = ds.length := rl.length
  have ⟨reads, told⟩ := items_at I rl flat still rv
  have alike_ : PySem.W.AllAlike (ds.map toP) := fun x hx y hy => List.all_eq_true.mp (List.all_eq_true.mp al x hx) y hy
  have keep : PySem.W.EachIs (fun v b => ∃ is, PySem.Reads (PySem.W.sortingHeap (PySem.W.copyHeap st.heap zs) (st.heap.objs.size + 1) zs) v (toP b) is) zs ds := reads.mono fun _ _ ⟨is, h⟩ => ⟨is, PyProof.Rows.Reads.keeps (fun _ _ => PySem.W.sorting_copy_old) h⟩
  have keep' := PySem.W.each_map (R := fun v d => ∃ is, PySem.Reads (PySem.W.sortingHeap (PySem.W.copyHeap st.heap zs) (st.heap.objs.size + 1) zs) v d is) toP keep
  have sorts : PySem.W.SortsAt X.prog X.w X.A.in1.in1 { st with heap := PySem.W.sortingHeap (PySem.W.copyHeap st.heap zs) (st.heap.objs.size + 1) zs } (PySem.W.dataKind (PySem.W.sortingHeap (PySem.W.copyHeap st.heap zs) (st.heap.objs.size + 1) zs) (ds.map toP)) zs := by
    match ds, so, keep', alike_, dp with
    | .tup [] :: ds', so, keep', alike_, dp =>
      have z : toP (.tup []) = .tuple [] := rfl
      rw [List.map_cons, z] at keep' alike_ ⊢
      have so : ds'.all tupQ = true := so
      refine sorts_void (s := { st with heap := PySem.W.sortingHeap (PySem.W.copyHeap st.heap zs) (st.heap.objs.size + 1) zs }) keep' (fun d hd => ?_) alike_ fun d hd => ?_
      · obtain ⟨d0, h0, rfl⟩ := List.mem_map.mp hd
        have it := List.all_eq_true.mp so d0 h0
        cases d0 with
        | tup es => exact ⟨_, rfl⟩
        | _ => cases it
      · have b : d.depth ≤ 32 := by
          obtain rfl | hd := List.mem_cons.mp hd
          · exact dp _ List.mem_cons_self
          · obtain ⟨d0, h0, rfl⟩ := List.mem_map.mp hd
            exact dp d0 (List.mem_cons_of_mem _ h0)
        have : X.A.in1.in1.units = X.A.units + 2 := rfl
        omega
  refine PySem.W.sorted_vals p.isList sorts (by have := rv.length; omega) ?_
  have each := PySem.W.sortVals_data false told keep alike_
  have len : (PySem.W.sortVals (PySem.W.dataKind (PySem.W.sortingHeap (PySem.W.copyHeap st.heap zs) (st.heap.objs.size + 1) zs) (ds.map toP)) false zs zs).length = ds.length := by
    rw [each.length, List.length_mergeSort]
  generalize PySem.W.sortVals (PySem.W.dataKind (PySem.W.sortingHeap (PySem.W.copyHeap st.heap zs) (st.heap.objs.size + 1) zs) (ds.map toP)) false zs zs = out at *
  have ⟨xs, rx, rxl⟩ := of_each each
  have ⟨_, new⟩ := PyProof.Rows.sortedAll_at st.heap zs out.toArray
  have fits : xs.length ≤ sizeLine := by rw [rx.length, len, ← count]; exact small
  exact ⟨.ref _, _, I.laid (t' := st.toks) (o := .lst xs) (fun _ _ => PyProof.Rows.sortedAll_old) (Nat.le_succ _) ⟨fits, out, _, rx, new⟩, rfl, q _ xs (I.hok.fresh (Nat.le_succ _)) rxl⟩
def dSortV : List D → Option D
  | [x] => (lstOf x).bind fun ds => if noDicL ds = true ∧ immL ds = true ∧ voidFirst ds = true ∧ allAlike (ds.map toP) = true ∧ (∀ d ∈ ds, (toP d).depth ≤ 32) then some (.lst (ds.mergeSort (PySem.W.dataLe false toP))) else none
  | _ => none
theorem cs_sortV : CallS K (rSortV K) dSortV := by
  intro H ds vs z Q a e k
  unfold dSortV at e
  split at e
  · obtain ⟨v, p, rfl, r⟩ := a.one
    obtain ⟨ys, e1, e⟩ := Option.bind_eq_some_iff.mp e
    obtain ⟨⟨c1, c2, c3, c4, c5⟩, rfl⟩ := if_some e
    obtain ⟨b, ws, g, rfl, hs, rl, _⟩ := r.sqL e1
    exact ⟨b, ys, ws, rfl, hs, rl.nil_of c2, c1, c2, c3, c4, c5, fun p xs hp rx => k.list rx hp⟩
  · cases e
end
end DL
/-! sorted of a tuple of data. -/
namespace DL
open PySem PySem.Spec L2 PyProof.Rows
section
variable {X : Cx} {K : PySem.W.Frag}
def rSortU (K : PySem.W.Frag) : List V → Hp → VK → Prop := fun vs H Q => ∃ (a : Addr) (ds : List D) (ws : List V), vs = [.ref a] ∧ SqT K H a ws ∧ RepL K H ds ws [] ∧ noDicL ds = true ∧ immL ds = true ∧
  sortable (ds.map toP) = true ∧ allAlike (ds.map toP) = true ∧ (∀ d ∈ ds, (toP d).depth ≤ 32) ∧
  ∀ (p : Addr) (xs : List V), H p = none → RepL K H (ds.mergeSort (PySem.W.dataLe false toP)) xs [] → Q (.ref p) (upd H p (.lst xs))
theorem cx_sortU (hu : X.A.units + 40 < cLine) : CallR X (.builtin "sorted") (rSortU X.K) := by
  rintro pins s σ H _ us Q I r ⟨a, ds, ws, rfl, at_, rl, flat, still, so, al, dp, q⟩
  rw [Vals.ref1 r]
  obtain ⟨zs, rv, ⟨o, get, cls, m, dat⟩, small⟩ := I.tuple at_
  have many : zs.length ≤ sizeLine := by rw [← rv.length]; exact small
  apply Calls.call_function_entry (id := "sorted") kind_sorted plain_sorted entry_sorted (args_sorted1 (.ref a))
  unfold Builtin.«sorted»
  apply wpAny_bind (m := checkCount "sorted" 1 1 _)
  apply wpAny_pure
  refine wpAny_bind (wpAny_collect_seq a (.inr rfl) get cls dat (fun g keep => ?_) (by rw [List.size_toArray]; exact many))
  have I1 : L2.Inv X pins σ H { s with heap := g } := I.kept (t' := s.toks) keep
  rw [show zs.toArray.toList = zs by simp]
  refine wpAny_bind ?_
  refine wpAny_newList ?_
  have I2 := I1.lnew (t' := s.toks) rv small
  have here : (g.push (seqObj "list" zs.toArray 0)).get? g.objs.size = some (seqObj "list" zs.toArray 0) := Heap.get?_push_size _ rfl
  have ⟨reads, told⟩ := items_at I1 rl flat still rv
  have alike_ : PySem.W.AllAlike (ds.map toP) := fun x hx y hy => List.all_eq_true.mp (List.all_eq_true.mp al x hx) y hy
  have keeps : ∀ b o, g.get? b = some o → (PySem.W.sortingHeap (g.push (seqObj "list" zs.toArray 0)) g.objs.size zs).get? b = some o := fun b o h => PySem.W.sortingHeap_old (Nat.ne_of_lt (Heap.lt_size h)) (Heap.get?_push_of_some _ h)
  have still_ : PySem.W.EachIs (fun v b => ∃ is, PySem.Reads (PySem.W.sortingHeap (g.push (seqObj "list" zs.toArray 0)) g.objs.size zs) v (toP b) is) zs ds := reads.mono fun _ _ ⟨is, h⟩ => ⟨is, PyProof.Rows.Reads.keeps keeps h⟩
  have sorts : PySem.W.SortsAt X.prog X.w X.A.in1.in1 { s with heap := PySem.W.sortingHeap (g.push (seqObj "list" zs.toArray 0)) g.objs.size zs } (PySem.W.dataKind (PySem.W.sortingHeap (g.push (seqObj "list" zs.toArray 0)) g.objs.size zs) (ds.map toP)) zs := by
    refine PySem.W.SortsAt.data (s := { s with heap := PySem.W.sortingHeap (g.push (seqObj "list" zs.toArray 0)) g.objs.size zs }) (PySem.W.each_map (R := fun v d => ∃ is, PySem.Reads (PySem.W.sortingHeap (g.push (seqObj "list" zs.toArray 0)) g.objs.size zs) v d is) toP still_) alike_ (sortable_ok so) fun d hd => ?_
    obtain ⟨d0, h0, rfl⟩ := List.mem_map.mp hd
    have := dp d0 h0
    have : X.A.in1.in1.units = X.A.units + 2 := rfl
    omega
  refine wpAny_bind (wpAny_holding (wpAny_call_entry slot_list_sort ⟨_, here, rfl⟩ entry_list_sort (PySem.W.list_sort_vals (s := { s with heap := g.push (seqObj "list" zs.toArray 0) }) here sorts many ⟨_, rfl, ?_⟩) (args_list_sort _)))
  have each := PySem.W.sortVals_data false told still_ alike_
  have len : (PySem.W.sortVals (PySem.W.dataKind (PySem.W.sortingHeap (g.push (seqObj "list" zs.toArray 0)) g.objs.size zs) (ds.map toP)) false zs zs).length = ds.length := by
    rw [each.length, List.length_mergeSort]
  generalize PySem.W.sortVals (PySem.W.dataKind (PySem.W.sortingHeap (g.push (seqObj "list" zs.toArray 0)) g.objs.size zs) (ds.map toP)) false zs zs = out at *
  have ⟨xs, rx, rxl⟩ := of_each each
  obtain ⟨ep, there⟩ := sortedHeap_at (vs := zs) (out := out.toArray) here
  have count : ws.length = ds.length := rl.length
  have fits : xs.length ≤ sizeLine := by rw [rx.length, len, ← count]; exact small
  refine wpAny_pure ⟨_, rfl, .ref g.objs.size, upd (upd H g.objs.size (.lst ws)) g.objs.size (.lst xs), ?_, rfl, ?_⟩
  · refine I2.write (e := g.objs.size) (t' := s.toks) (by rw [upd_same]; trivial) (.inl rfl) (fun b u nb hu => ?_) ⟨_, there⟩ ⟨fits, out, ep, rx, there⟩
    rw [sortedHeap_old nb (Heap.lt_size hu)]; exact hu
  · have twice : upd (upd H g.objs.size (.lst ws)) g.objs.size (.lst xs) = upd H g.objs.size (.lst xs) := by
      funext b
      unfold upd
      split <;> rfl
    rw [twice]
    exact q _ xs (I1.hok.fresh (Nat.le_refl _)) rxl
def dSortU : List D → Option D
  | [.tup ds] => if noDicL ds = true ∧ immL ds = true ∧ sortable (ds.map toP) = true ∧ allAlike (ds.map toP) = true ∧ (∀ d ∈ ds, (toP d).depth ≤ 32) then some (.lst (ds.mergeSort (PySem.W.dataLe false toP))) else none
  | _ => none
theorem cs_sortU : CallS K (rSortU K) dSortU := by
  intro H ds vs z Q a e k
  unfold dSortU at e
  split at e
  · obtain ⟨v, p, rfl, r⟩ := a.one
    obtain ⟨⟨c1, c2, c3, c4, c5⟩, rfl⟩ := if_some e
    obtain ⟨b, ws, rfl, hs, rl⟩ := r
    exact ⟨b, _, ws, rfl, hs.sq, rl.nil_of c2, c1, c2, c3, c4, c5, fun p xs hp rx => k.list rx hp⟩
  · cases e
end
end DL
/-! The meanings that many laws share; printed by gen.py for law k02, then kept. -/
namespace RM
open PySem L2 DL
def b_darts_in_rows : FS := fSeq (fAsg (fLst (fNil)) (fgName 1)) (fSeq (fFor (fSeqI (fFrz (fVar 0))) (fgName 2) (fDrop (fMut isLst mExtend (fpVar 1) (fCons (fCall dList (fCons (fVar 2) (fNil))) (fNil))))) (fRet (fVar 1)))
def d_darts_in_rows : Den := denOf 3 1 [1, 2] b_darts_in_rows
def b_ties_in : FS := fRet (fOp dDiv (fCall dLen (fCons (fCallD d_darts_in_rows (fCons (fVar 0) (fNil))) (fNil))) (fC (.int 2)))
def d_ties_in : Den := denOf 1 1 [] b_ties_in
def b_other_of : FS := fRet (fOp dSub (fOp dAdd (fVar 0) (fC (.int 1))) (fOp dMul (fC (.int 2)) (fOp dMod (fVar 0) (fC (.int 2)))))
def d_other_of : Den := denOf 1 1 [] b_other_of
def b_place_of : FS := fRet (fIndex (fLc [2] (fSeqI (fFrz (fVar 0))) (fgName 2) (fYes) (fOp dIn (fVar 1) (fVar 2))) (fCons (fC (.bl true)) (fNil)))
def d_place_of : Den := denOf 3 2 [] b_place_of
def b_ends_of : FS := fRet (fTup (fCons (fCallD d_place_of (fCons (fVar 0) (fCons (fOp dMul (fC (.int 2)) (fVar 1)) (fNil)))) (fCons (fCallD d_place_of (fCons (fVar 0) (fCons (fOp dAdd (fOp dMul (fC (.int 2)) (fVar 1)) (fC (.int 1))) (fNil)))) (fNil))))
def d_ends_of : Den := denOf 2 2 [] b_ends_of
def b_next_around : FS := fSeq (fAsg (fOp dSubs (fVar 0) (fCallD d_place_of (fCons (fVar 0) (fCons (fVar 1) (fNil))))) (fgName 2)) (fRet (fOp dSubs (fVar 2) (fOp dMod (fOp dAdd (fIndex (fVar 2) (fCons (fVar 1) (fNil))) (fC (.int 1))) (fCall dLen (fCons (fVar 2) (fNil))))))
def d_next_around : Den := denOf 3 2 [2] b_next_around
def b__law_draw : FS := fSeq (fAsg (fOp dAdd (fOp dSubs (fVar 0) (fC (.str "turn"))) (fC (.int 1))) (fgName 2)) (fSeq (fStore (fVar 2) (fpVar 0) (fC (.str "turn"))) (fSeq (fIfS (fTest (fOp (dCmp pGt) (fOp dSubs (fVar 0) (fC (.str "left"))) (fC (.int 0)))) (fSeq (fAsg (fOp dMod (fOp dSubs (fVar 0) (fC (.str "left"))) (fVar 1)) (fgName 3)) (fSeq (fStore (fOp dDiv (fOp dSubs (fVar 0) (fC (.str "left"))) (fVar 1)) (fpVar 0) (fC (.str "left"))) (fRet (fVar 3)))) (fSkip)) (fSeq (fAsg (fOp dSubs (fVar 0) (fC (.str "cells"))) (fgName 4)) (fSeq (fAsg (fOp dSubs (fVar 0) (fC (.str "at"))) (fgName 5)) (fSeq (fStore (fOp dAdd (fVar 5) (fC (.int 1))) (fpVar 0) (fC (.str "at"))) (fSeq (fAsg (fIf (fTest (fOp dNe (fVar 4) (fLst (fNil)))) (fOp dSubs (fVar 4) (fOp dMod (fVar 5) (fCall dLen (fCons (fVar 4) (fNil))))) (fC (.int 0))) (fgName 6)) (fSeq (fIfS (fAnd (fTest (fOp (dCmp pGe) (fVar 6) (fOp dPow (fC (.int 10)) (fC (.int 18))))) (fTest (fOp (dCmp pLt) (fVar 5) (fCall dLen (fCons (fVar 4) (fNil)))))) (fSeq (fStore (fOp dDiv (fVar 6) (fVar 1)) (fpVar 0) (fC (.str "left"))) (fRet (fOp dMod (fVar 6) (fVar 1)))) (fSkip)) (fSeq (fAsg (fOp dMod (fOp dMul (fOp dAdd (fOp dMod (fVar 6) (fC (.int 1000000007))) (fC (.int 1))) (fOp dAdd (fOp dMul (fC (.int 7919)) (fVar 2)) (fC (.int 104729)))) (fC (.int 2147483647))) (fgName 7)) (fSeq (fAsg (fOp dMod (fOp dMul (fOp dAdd (fOp dMod (fOp dPow (fVar 7) (fC (.int 5))) (fC (.int 2147483647))) (fVar 2)) (fC (.int 48271))) (fC (.int 2147483629))) (fgName 7)) (fRet (fOp dMod (fOp dDiv (fVar 7) (fC (.int 64))) (fVar 1))))))))))))
def d__law_draw : Den := denOf 8 2 [2, 3, 4, 5, 6, 7, 7] b__law_draw
def b_next_along : FS := fRet (fCallD d_next_around (fCons (fVar 0) (fCons (fCallD d_other_of (fCons (fVar 1) (fNil))) (fNil))))
def d_next_along : Den := denOf 2 2 [] b_next_along
def b_faces : FS := fSeq (fAsg (fLst (fNil)) (fgName 1)) (fSeq (fAsg (fDic0) (fgName 2)) (fSeq (fFor (fRng1 (fCons (fOp dMul (fC (.int 2)) (fCallD d_ties_in (fCons (fVar 0) (fNil)))) (fNil))) (fgName 3) (fIfS (fTest (fOp dNotIn (fVar 3) (fVar 2))) (fSeq (fAsg (fLst (fNil)) (fgName 4)) (fSeq (fAsg (fVar 3) (fgName 5)) (fSeq (whileD (fTest (fOp dNotIn (fVar 5) (fVar 2))) (fSeq (fStore (fC (.bl true)) (fpVar 2) (fVar 5)) (fSeq (fDrop (fMut isLst mAppend (fpVar 4) (fCons (fVar 5) (fNil)))) (fAsg (fCallD d_next_along (fCons (fVar 0) (fCons (fVar 5) (fNil)))) (fgName 5)))) fuel) (fDrop (fMut isLst mAppend (fpVar 1) (fCons (fCall dTuple (fCons (fVar 4) (fNil))) (fNil))))))) (fSkip))) (fRet (fCall dTuple (fCons (fVar 1) (fNil))))))
def d_faces : Den := denOf 6 1 [1, 2, 3, 4, 5, 5] b_faces
end RM
/-! meanings that many laws share; printed by gen.py, then kept -/
namespace RB
open PySem L2 DL
def b__law_draw : FS := fSeq (fStore (fOp dAdd (fOp dSubs (fVar 0) (fC (.int 3))) (fC (.int 1))) (fpVar 0) (fC (.int 3))) (fSeq (fIfS (fTest (fOp (dCmp pGt) (fOp dSubs (fVar 0) (fC (.int 2))) (fC (.int 0)))) (fSeq (fAsg (fOp dMod (fOp dSubs (fVar 0) (fC (.int 2))) (fVar 1)) (fgName 2)) (fSeq (fStore (fOp dDiv (fOp dSubs (fVar 0) (fC (.int 2))) (fVar 1)) (fpVar 0) (fC (.int 2))) (fRet (fVar 2)))) (fSkip)) (fSeq (fAsg (fC (.int 0)) (fgName 3)) (fSeq (fIfS (fTest (fOp dNe (fOp dSubs (fVar 0) (fC (.int 0))) (fLst (fNil)))) (fAsg (fOp dSubs (fOp dSubs (fVar 0) (fC (.int 0))) (fOp dMod (fOp dSubs (fVar 0) (fC (.int 1))) (fCall dLen (fCons (fOp dSubs (fVar 0) (fC (.int 0))) (fNil))))) (fgName 3)) (fSkip)) (fSeq (fStore (fOp dAdd (fOp dSubs (fVar 0) (fC (.int 1))) (fC (.int 1))) (fpVar 0) (fC (.int 1))) (fSeq (fIfS (fAnd (fTest (fOp (dCmp pGe) (fVar 3) (fOp dPow (fC (.int 10)) (fC (.int 18))))) (fTest (fOp (dCmp pLe) (fOp dSubs (fVar 0) (fC (.int 1))) (fCall dLen (fCons (fOp dSubs (fVar 0) (fC (.int 0))) (fNil)))))) (fSeq (fStore (fOp dDiv (fVar 3) (fVar 1)) (fpVar 0) (fC (.int 2))) (fRet (fOp dMod (fVar 3) (fVar 1)))) (fSkip)) (fSeq (fAsg (fOp dMod (fOp dMul (fOp dAdd (fOp dMod (fVar 3) (fC (.int 2147483647))) (fOp dSubs (fVar 0) (fC (.int 3)))) (fOp dAdd (fOp dMul (fC (.int 2)) (fOp dSubs (fVar 0) (fC (.int 3)))) (fC (.int 1)))) (fC (.int 2147483647))) (fgName 4)) (fSeq (fAsg (fOp dMod (fOp dPow (fOp dAdd (fOp dMod (fOp dPow (fVar 4) (fC (.int 5))) (fC (.int 2147483647))) (fOp dMul (fC (.int 7919)) (fOp dSubs (fVar 0) (fC (.int 3))))) (fC (.int 5))) (fC (.int 2147483629))) (fgName 4)) (fRet (fOp dMod (fOp dDiv (fVar 4) (fC (.int 64))) (fVar 1))))))))))
def d__law_draw : Den := denOf 5 2 [2, 3, 3, 4, 4] b__law_draw
def b__law_ends : FS := fSeq (fAsg (fDic0) (fgName 1)) (fSeq (fFor (fEnum (fCons (fFrz (fVar 0)) fNil)) (fgTup 2 (fgCons (fgName 2) (fgCons (fgName 3) (fgNil)))) (fFor (fSeqI (fFrz (fVar 3))) (fgName 4) (fStore (fVar 2) (fpVar 1) (fVar 4)))) (fRet (fLc [5] (fRng1 (fCons (fOp dDiv (fCall dLen (fCons (fVar 1) (fNil))) (fC (.int 2))) (fNil))) (fgName 5) (fYes) (fTup (fCons (fOp dSubs (fVar 1) (fOp dMul (fC (.int 2)) (fVar 5))) (fCons (fOp dSubs (fVar 1) (fOp dAdd (fOp dMul (fC (.int 2)) (fVar 5)) (fC (.int 1)))) (fNil)))))))
def d__law_ends : Den := denOf 6 1 [1, 2, 3, 4] b__law_ends
def b__law_far : FS := fSeq (fAsg (fCallD d__law_ends (fCons (fVar 0) (fNil))) (fgName 3)) (fSeq (fAsg (fOp dMul (fLst (fCons (fC .non) (fNil))) (fCall dLen (fCons (fVar 0) (fNil)))) (fgName 4)) (fSeq (fAsg (fOp dMul (fLst (fCons (fC .non) (fNil))) (fCall dLen (fCons (fVar 0) (fNil)))) (fgName 5)) (fSeq (fStore (fC (.int 0)) (fpVar 4) (fVar 2)) (fSeq (fAsg (fC .non) (fgName 6)) (fSeq (whileD (fTest (fOp dNe (fVar 6) (fVar 4))) (fSeq (fAsg (fCall dList (fCons (fVar 4) (fNil))) (fgName 6)) (fFor (fRng1 (fCons (fOp dMul (fC (.int 2)) (fCall dLen (fCons (fVar 3) (fNil)))) (fNil))) (fgName 7) (fSeq (fAsg (fOp dSubs (fOp dSubs (fVar 3) (fOp dDiv (fVar 7) (fC (.int 2)))) (fOp dMod (fVar 7) (fC (.int 2)))) (fgName 8)) (fSeq (fAsg (fOp dSubs (fOp dSubs (fVar 3) (fOp dDiv (fVar 7) (fC (.int 2)))) (fOp dSub (fC (.int 1)) (fOp dMod (fVar 7) (fC (.int 2))))) (fgName 9)) (fIfS (fTest (fOp dIsNotN (fOp dSubs (fVar 4) (fVar 8)) (fC .non))) (fSeq (fAsg (fOp dAdd (fOp dSubs (fVar 4) (fVar 8)) (fOp dSubs (fVar 1) (fOp dDiv (fVar 7) (fC (.int 2))))) (fgName 10)) (fIfS (fOr (fTest (fOp dIsN (fOp dSubs (fVar 4) (fVar 9)) (fC .non))) (fTest (fOp (dCmp pLt) (fVar 10) (fOp dSubs (fVar 4) (fVar 9))))) (fSeq (fStore (fVar 10) (fpVar 4) (fVar 9)) (fStore (fVar 7) (fpVar 5) (fVar 9))) (fSkip))) (fSkip)))))) fuel) (fRet (fTup (fCons (fVar 4) (fCons (fVar 5) (fNil))))))))))
def d__law_far : Den := denOf 11 3 [3, 4, 5, 6, 6, 7, 8, 9, 10] b__law_far
def b_ends_of_ties : FS := fRet (fLc [1] (fRng1 (fCons (fCallD RM.d_ties_in (fCons (fVar 0) (fNil))) (fNil))) (fgName 1) (fYes) (fCallD RM.d_ends_of (fCons (fVar 0) (fCons (fVar 1) (fNil)))))
def d_ends_of_ties : Den := denOf 2 1 [] b_ends_of_ties
def b_far_by_ends : FS := fSeq (fAsg (fOp dMul (fLst (fCons (fC .non) (fNil))) (fVar 0)) (fgName 4)) (fSeq (fAsg (fOp dMul (fLst (fCons (fC .non) (fNil))) (fVar 0)) (fgName 5)) (fSeq (fStore (fC (.int 0)) (fpVar 4) (fVar 3)) (fSeq (fAsg (fC (.bl true)) (fgName 6)) (fSeq (whileD (fTest (fVar 6)) (fSeq (fAsg (fC (.bl false)) (fgName 6)) (fFor (fRng1 (fCons (fOp dMul (fC (.int 2)) (fCall dLen (fCons (fVar 1) (fNil)))) (fNil))) (fgName 7) (fSeq (fPar 8 9 (fCons (fOp dSubs (fOp dSubs (fVar 1) (fOp dDiv (fVar 7) (fC (.int 2)))) (fOp dMod (fVar 7) (fC (.int 2)))) (fCons (fOp dSubs (fOp dSubs (fVar 1) (fOp dDiv (fVar 7) (fC (.int 2)))) (fOp dSub (fC (.int 1)) (fOp dMod (fVar 7) (fC (.int 2))))) (fNil)))) (fIfS (fTest (fOp dIsNotN (fOp dSubs (fVar 4) (fVar 8)) (fC .non))) (fSeq (fAsg (fOp dAdd (fOp dSubs (fVar 4) (fVar 8)) (fOp dSubs (fVar 2) (fOp dDiv (fVar 7) (fC (.int 2))))) (fgName 10)) (fIfS (fOr (fTest (fOp dIsN (fOp dSubs (fVar 4) (fVar 9)) (fC .non))) (fTest (fOp (dCmp pLt) (fVar 10) (fOp dSubs (fVar 4) (fVar 9))))) (fSeq (fStore (fVar 10) (fpVar 4) (fVar 9)) (fSeq (fStore (fVar 7) (fpVar 5) (fVar 9)) (fAsg (fC (.bl true)) (fgName 6)))) (fSkip))) (fSkip))))) fuel) (fRet (fTup (fCons (fVar 4) (fCons (fVar 5) (fNil)))))))))
def d_far_by_ends : Den := denOf 11 4 [4, 5, 6, 6, 7, 8, 9, 10, 6] b_far_by_ends
def b_distances : FS := fSeq (fAsg (fCallD d_ends_of_ties (fCons (fVar 0) (fNil))) (fgName 2)) (fRet (fCall dTuple (fCons (fLc [3] (fRng1 (fCons (fCall dLen (fCons (fVar 0) (fNil))) (fNil))) (fgName 3) (fYes) (fCall dTuple (fCons (fOp dSubs (fFrz (fCallD d_far_by_ends (fCons (fCall dLen (fCons (fVar 0) (fNil))) (fCons (fVar 2) (fCons (fVar 1) (fCons (fVar 3) (fNil))))))) (fC (.int 0))) (fNil)))) (fNil))))
def d_distances : Den := denOf 4 2 [2] b_distances
end RB
/-! meanings that many laws share; printed by gen.py, then kept -/
namespace RP
open PySem L2 DL
def b_is_parted : FS := fRet (fOp dNe (fOp dIn (fOp dSubs (fVar 1) (fC (.int 0))) (fVar 0)) (fOp dIn (fOp dSubs (fVar 1) (fC (.int 1))) (fVar 0)))
def d_is_parted : Den := denOf 2 2 [] b_is_parted
def b_asks_across : FS := fRet (fCall dLen (fCons (fLc [2] (fSeqI (fFrz (fVar 0))) (fgName 2) (fTest (fCallD d_is_parted (fCons (fVar 1) (fCons (fVar 2) (fNil))))) (fVar 2)) (fNil)))
def d_asks_across : Den := denOf 3 2 [] b_asks_across
def b_odd_places : FS := fSeq (fAsg (fOp dMul (fLst (fCons (fC (.int 0)) (fNil))) (fCall dLen (fCons (fVar 0) (fNil)))) (fgName 3)) (fSeq (fFor (fRng1 (fCons (fCallD RM.d_ties_in (fCons (fVar 0) (fNil))) (fNil))) (fgName 4) (fFor (fSeqI (fFrz (fCallD RM.d_ends_of (fCons (fVar 0) (fCons (fVar 4) (fNil)))))) (fgName 5) (fStore (fOp dAdd (fOp dSubs (fVar 3) (fVar 5)) (fOp dSubs (fVar 1) (fVar 4))) (fpVar 3) (fVar 5)))) (fSeq (fFor (fSeqI (fFrz (fVar 2))) (fgName 6) (fFor (fSeqI (fFrz (fVar 6))) (fgName 5) (fStore (fOp dAdd (fOp dSubs (fVar 3) (fVar 5)) (fC (.int 1))) (fpVar 3) (fVar 5)))) (fRet (fCall dTuple (fCons (fLc [5] (fRng1 (fCons (fCall dLen (fCons (fVar 0) (fNil))) (fNil))) (fgName 5) (fTest (fOp dEq (fOp dMod (fOp dSubs (fVar 3) (fVar 5)) (fC (.int 2))) (fC (.int 1)))) (fVar 5)) (fNil))))))
def d_odd_places : Den := denOf 7 3 [3, 4, 5, 6, 5] b_odd_places
end RP
/-! meanings that many laws share; printed by gen.py, then kept -/
namespace RD
open PySem L2 DL
def b__law_tape : FS := fRet (fLst (fCons (fFrz (fCall dList (fCons (fFrz (fCut (fVar 0) (foNone) (foSome (fC (.int 63))))) (fNil)))) (fCons (fC (.int 0)) (fCons (fC (.int 0)) (fCons (fC (.int 0)) (fNil))))))
def d__law_tape : Den := denOf 1 1 [] b__law_tape
def b__law_draw : FS := fSeq (fStore (fOp dAdd (fOp dSubs (fVar 0) (fC (.int 3))) (fC (.int 1))) (fpVar 0) (fC (.int 3))) (fSeq (fIfS (fTest (fOp (dCmp pGt) (fOp dSubs (fVar 0) (fC (.int 2))) (fC (.int 0)))) (fSeq (fAsg (fOp dMod (fOp dSubs (fVar 0) (fC (.int 2))) (fVar 1)) (fgName 2)) (fSeq (fStore (fOp dDiv (fOp dSubs (fVar 0) (fC (.int 2))) (fVar 1)) (fpVar 0) (fC (.int 2))) (fRet (fVar 2)))) (fSkip)) (fSeq (fAsg (fC (.int 5)) (fgName 3)) (fSeq (fIfS (fTest (fOp dNe (fOp dSubs (fVar 0) (fC (.int 0))) (fLst (fNil)))) (fAsg (fOp dSubs (fOp dSubs (fVar 0) (fC (.int 0))) (fOp dMod (fOp dSubs (fVar 0) (fC (.int 1))) (fCall dLen (fCons (fOp dSubs (fVar 0) (fC (.int 0))) (fNil))))) (fgName 3)) (fSkip)) (fSeq (fStore (fOp dAdd (fOp dSubs (fVar 0) (fC (.int 1))) (fC (.int 1))) (fpVar 0) (fC (.int 1))) (fSeq (fIfS (fAnd (fTest (fOp (dCmp pGe) (fVar 3) (fOp dPow (fC (.int 10)) (fC (.int 18))))) (fTest (fOp (dCmp pLe) (fOp dSubs (fVar 0) (fC (.int 1))) (fCall dLen (fCons (fOp dSubs (fVar 0) (fC (.int 0))) (fNil)))))) (fSeq (fStore (fOp dDiv (fVar 3) (fVar 1)) (fpVar 0) (fC (.int 2))) (fRet (fOp dMod (fVar 3) (fVar 1)))) (fSkip)) (fSeq (fAsg (fOp dMod (fOp dAdd (fOp dAdd (fOp dMul (fOp dMod (fVar 3) (fC (.int 2147483629))) (fOp dAdd (fOp dMul (fC (.int 2)) (fOp dSubs (fVar 0) (fC (.int 3)))) (fC (.int 1)))) (fOp dMul (fC (.int 7919)) (fOp dSubs (fVar 0) (fC (.int 3))))) (fC (.int 1))) (fC (.int 2147483647))) (fgName 4)) (fSeq (fAsg (fOp dMod (fOp dPow (fVar 4) (fC (.int 5))) (fC (.int 2147483647))) (fgName 4)) (fRet (fOp dMod (fOp dDiv (fVar 4) (fC (.int 64))) (fVar 1))))))))))
def d__law_draw : Den := denOf 5 2 [2, 3, 3, 4, 4] b__law_draw
def b__law_along : FS := fSeq (fForN 0 2 (fIfS (fTest (fOp dIn (fCallD RM.d_other_of (fCons (fVar 1) (fNil))) (fVar 2))) (fSeq (fAsg (fIndex (fCall dList (fCons (fVar 2) (fNil))) (fCons (fCallD RM.d_other_of (fCons (fVar 1) (fNil))) (fNil))) (fgName 3)) (fRet (fOp dSubs (fVar 2) (fOp dMod (fOp dAdd (fVar 3) (fC (.int 1))) (fCall dLen (fCons (fVar 2) (fNil))))))) (fSkip))) (fRet (fVar 1))
def d__law_along : Den := denOf 4 2 [2, 3] b__law_along
def b__law_ties : FS := fRet (fOp dDiv (fCall dSum (fCons (fLc [1] (fSeqI (fFrz (fVar 0))) (fgName 1) (fYes) (fCall dLen (fCons (fVar 1) (fNil)))) (fNil))) (fC (.int 2)))
def d__law_ties : Den := denOf 2 1 [] b__law_ties
def b__law_spots : FS := fSeq (fAsg (fDic0) (fgName 1)) (fSeq (fFor (fRng1 (fCons (fCall dLen (fCons (fVar 0) (fNil))) (fNil))) (fgName 2) (fFor (fSeqI (fFrz (fOp dSubs (fVar 0) (fVar 2)))) (fgName 3) (fStore (fVar 2) (fpVar 1) (fVar 3)))) (fRet (fVar 1)))
def d__law_spots : Den := denOf 4 1 [1, 2, 3] b__law_spots
def b__law_ends : FS := fSeq (fAsg (fCallD d__law_spots (fCons (fVar 0) (fNil))) (fgName 1)) (fRet (fLc [2] (fRng1 (fCons (fCallD d__law_ties (fCons (fVar 0) (fNil))) (fNil))) (fgName 2) (fYes) (fTup (fCons (fOp dSubs (fVar 1) (fOp dMul (fC (.int 2)) (fVar 2))) (fCons (fOp dSubs (fVar 1) (fOp dAdd (fOp dMul (fC (.int 2)) (fVar 2)) (fC (.int 1)))) (fNil))))))
def d__law_ends : Den := denOf 3 1 [1] b__law_ends
def b__law_room : FS := fSeq (fAsg (fC (.int 0)) (fgName 3)) (fSeq (fFor (fZip (fCons (fFrz (fCallD d__law_ends (fCons (fVar 0) (fNil)))) (fCons (fFrz (fVar 1)) fNil))) (fgTup 2 (fgCons (fgName 4) (fgCons (fgName 5) (fgNil)))) (fAsg (fOp dAdd (fVar 3) (fOp dMul (fVar 5) (fCall dInt (fCons (fCallD RP.d_is_parted (fCons (fVar 2) (fCons (fVar 4) (fNil)))) (fNil))))) (fgName 3))) (fRet (fVar 3)))
def d__law_room : Den := denOf 6 3 [3, 4, 5, 3] b__law_room
def b__law_spare : FS := fSeq (fAsg (fLc [5] (fSeqI (fFrz (fVar 2))) (fgName 5) (fTest (fCallD RP.d_is_parted (fCons (fVar 3) (fCons (fVar 5) (fNil))))) (fVar 5)) (fgName 4)) (fRet (fOp dSub (fCallD d__law_room (fCons (fVar 0) (fCons (fVar 1) (fCons (fVar 3) (fNil))))) (fCall dLen (fCons (fVar 4) (fNil)))))
def d__law_spare : Den := denOf 6 4 [4] b__law_spare
end RD
/-! meanings that many laws share; printed by gen.py, then kept -/
namespace RF
open PySem L2 DL
def b__law_faces : FS := fSeq (fAsg (fLst (fNil)) (fgName 1)) (fSeq (fAsg (fLst (fNil)) (fgName 2)) (fSeq (fFor (fRng1 (fCons (fOp dMul (fC (.int 2)) (fCallD RD.d__law_ties (fCons (fVar 0) (fNil)))) (fNil))) (fgName 3) (fIfS (fTest (fOp dNotIn (fVar 3) (fVar 2))) (fSeq (fAsg (fLst (fCons (fVar 3) (fNil))) (fgName 4)) (fSeq (whileD (fTest (fOp dNe (fCallD RD.d__law_along (fCons (fVar 0) (fCons (fOp dSubs (fVar 4) (fNeg (fC (.int 1)))) (fNil)))) (fVar 3))) (fDrop (fMut isLst mAppend (fpVar 4) (fCons (fCallD RD.d__law_along (fCons (fVar 0) (fCons (fOp dSubs (fVar 4) (fNeg (fC (.int 1)))) (fNil)))) (fNil)))) fuel) (fSeq (fDrop (fExtV 2 4)) (fDrop (fMut isLst mAppend (fpVar 1) (fCons (fVar 4) (fNil))))))) (fSkip))) (fRet (fVar 1))))
def d__law_faces : Den := denOf 5 1 [1, 2, 3, 4] b__law_faces
def b_rim_places : FS := fRet (fCall dTuple (fCons (fSetSorted (fLc [2] (fSeqI (fFrz (fOp dSubs (fCallD RM.d_faces (fCons (fVar 0) (fNil))) (fVar 1)))) (fgName 2) (fYes) (fCallD RM.d_place_of (fCons (fVar 0) (fCons (fVar 2) (fNil)))))) (fNil)))
def d_rim_places : Den := denOf 3 2 [] b_rim_places
def b_off_rim : FS := fSeq (fAsg (fCallD d_rim_places (fCons (fVar 0) (fCons (fVar 1) (fNil)))) (fgName 3)) (fSeq (fFor (fEnum (fCons (fFrz (fVar 2)) fNil)) (fgTup 2 (fgCons (fgName 4) (fgCons (fgName 5) (fgNil)))) (fIfS (fOr (fTest (fOp dNotIn (fOp dSubs (fVar 5) (fC (.int 0))) (fVar 3))) (fTest (fOp dNotIn (fOp dSubs (fVar 5) (fC (.int 1))) (fVar 3)))) (fRet (fVar 4)) (fSkip))) (fRet (fC .non)))
def d_off_rim : Den := denOf 6 3 [3, 4, 5] b_off_rim
end RF
/-! the meanings of the defs of law_k72_cases_told; printed by gen.py -/
namespace K72
open PySem L2 DL
def b_told_cases : FS := fSeq (fAsg (fTup (fCons (fTup (fCons (fC (.int 0)) (fCons (fC (.int 2)) (fCons (fC (.int 4)) (fNil))))) (fCons (fTup (fCons (fC (.int 1)) (fCons (fC (.int 7)) (fNil)))) (fCons (fTup (fCons (fC (.int 3)) (fCons (fC (.int 9)) (fNil)))) (fCons (fTup (fCons (fC (.int 5)) (fCons (fC (.int 11)) (fNil)))) (fCons (fTup (fCons (fC (.int 6)) (fCons (fC (.int 10)) (fCons (fC (.int 8)) (fNil))))) (fNil))))))) (fgName 0)) (fSeq (fAsg (fTup (fCons (fTup (fCons (fC (.int 0)) (fCons (fC (.int 2)) (fCons (fC (.int 4)) (fNil))))) (fCons (fTup (fCons (fC (.int 1)) (fCons (fC (.int 12)) (fNil)))) (fCons (fTup (fCons (fC (.int 3)) (fCons (fC (.int 9)) (fNil)))) (fCons (fTup (fCons (fC (.int 5)) (fCons (fC (.int 11)) (fNil)))) (fCons (fTup (fCons (fC (.int 6)) (fCons (fC (.int 10)) (fCons (fC (.int 8)) (fNil))))) (fCons (fTup (fCons (fC (.int 7)) (fCons (fC (.int 13)) (fNil)))) (fNil)))))))) (fgName 1)) (fSeq (fAsg (fTup (fCons (fTup (fCons (fC (.int 0)) (fCons (fC (.int 2)) (fCons (fC (.int 4)) (fNil))))) (fCons (fTup (fCons (fC (.int 1)) (fCons (fC (.int 7)) (fCons (fC (.int 12)) (fNil))))) (fCons (fTup (fCons (fC (.int 3)) (fCons (fC (.int 9)) (fNil)))) (fCons (fTup (fCons (fC (.int 5)) (fCons (fC (.int 11)) (fNil)))) (fCons (fTup (fCons (fC (.int 6)) (fCons (fC (.int 10)) (fCons (fC (.int 8)) (fNil))))) (fCons (fTup (fCons (fC (.int 13)) (fNil))) (fNil)))))))) (fgName 2)) (fSeq (fAsg (fTup (fCons (fVar 0) (fCons (fOp dTimes (fTup (fCons (fC (.int 1)) (fNil))) (fC (.int 6))) (fCons (fTup (fCons (fTup (fCons (fC (.int 1)) (fCons (fC (.int 2)) (fNil)))) (fCons (fTup (fCons (fC (.int 2)) (fCons (fC (.int 3)) (fNil)))) (fCons (fTup (fCons (fC (.int 1)) (fCons (fC (.int 3)) (fNil)))) (fCons (fTup (fCons (fC (.int 0)) (fCons (fC (.int 4)) (fNil)))) (fNil)))))) (fCons (fOp dTimes (fTup (fCons (fC (.int 1)) (fNil))) (fC (.int 6))) (fNil)))))) (fgName 3)) (fSeq (fAsg (fTup (fCons (fVar 1) (fCons (fOp dTimes (fTup (fCons (fC (.int 1)) (fNil))) (fC (.int 7))) (fCons (fTup (fCons (fTup (fCons (fC (.int 5)) (fCons (fC (.int 2)) (fNil)))) (fCons (fTup (fCons (fC (.int 2)) (fCons (fC (.int 3)) (fNil)))) (fCons (fTup (fCons (fC (.int 5)) (fCons (fC (.int 3)) (fNil)))) (fCons (fTup (fCons (fC (.int 0)) (fCons (fC (.int 4)) (fNil)))) (fNil)))))) (fCons (fOp dAdd (fOp dTimes (fTup (fCons (fC (.int 1)) (fNil))) (fC (.int 6))) (fTup (fCons (fC (.int 0)) (fNil)))) (fNil)))))) (fgName 4)) (fSeq (fAsg (fTup (fCons (fVar 2) (fCons (fOp dAdd (fOp dTimes (fTup (fCons (fC (.int 1)) (fNil))) (fC (.int 6))) (fTup (fCons (fC (.int 2)) (fNil)))) (fCons (fTup (fCons (fTup (fCons (fC (.int 5)) (fCons (fC (.int 2)) (fNil)))) (fCons (fTup (fCons (fC (.int 2)) (fCons (fC (.int 3)) (fNil)))) (fCons (fTup (fCons (fC (.int 5)) (fCons (fC (.int 3)) (fNil)))) (fCons (fTup (fCons (fC (.int 0)) (fCons (fC (.int 4)) (fNil)))) (fNil)))))) (fCons (fOp dAdd (fOp dTimes (fTup (fCons (fC (.int 1)) (fNil))) (fC (.int 6))) (fTup (fCons (fC (.int 0)) (fNil)))) (fNil)))))) (fgName 5)) (fRet (fTup (fCons (fVar 3) (fCons (fVar 4) (fCons (fVar 5) (fNil)))))))))))
def d_told_cases : Den := denOf 6 0 [0, 1, 2, 3, 4, 5] b_told_cases
abbrev b_darts_in_rows : FS := RM.b_darts_in_rows
abbrev d_darts_in_rows : Den := RM.d_darts_in_rows
abbrev b_ties_in : FS := RM.b_ties_in
abbrev d_ties_in : Den := RM.d_ties_in
abbrev b_other_of : FS := RM.b_other_of
abbrev d_other_of : Den := RM.d_other_of
abbrev b_place_of : FS := RM.b_place_of
abbrev d_place_of : Den := RM.d_place_of
abbrev b_ends_of : FS := RM.b_ends_of
abbrev d_ends_of : Den := RM.d_ends_of
abbrev b_next_around : FS := RM.b_next_around
abbrev d_next_around : Den := RM.d_next_around
abbrev b_next_along : FS := RM.b_next_along
abbrev d_next_along : Den := RM.d_next_along
abbrev b_faces : FS := RM.b_faces
abbrev d_faces : Den := RM.d_faces
abbrev b_rim_places : FS := RF.b_rim_places
abbrev d_rim_places : Den := RF.d_rim_places
def b_is_whole : FS := fRet (fBl (fAnd (fTest (fIsi .int (fVar 0))) (fTest (fBl (fNot (fTest (fIsi .bool (fVar 0))))))))
def d_is_whole : Den := denOf 1 1 [] b_is_whole
abbrev b_off_rim : FS := RF.b_off_rim
abbrev d_off_rim : Den := RF.d_off_rim
abbrev b_is_parted : FS := RP.b_is_parted
abbrev d_is_parted : Den := RP.d_is_parted
abbrev b_asks_across : FS := RP.b_asks_across
abbrev d_asks_across : Den := RP.d_asks_across
def b_all_sides : FS := fSeq (fAsg (fLst (fCons (fTup (fNil)) (fNil))) (fgName 1)) (fSeq (fFor (fRng2 (fCons (fC (.int 1)) (fCons (fVar 0) (fNil)))) (fgName 2) (fAsg (fOp dCatS (fVar 1) (fLc [3] (fSeqI (fFrz (fVar 1))) (fgName 3) (fYes) (fOp dAdd (fVar 3) (fTup (fCons (fVar 2) (fNil)))))) (fgName 1))) (fRet (fCall dSortV (fCons (fVar 1) (fNil)))))
def d_all_sides : Den := denOf 4 1 [1, 2, 1] b_all_sides
def b_rows_of_spares : FS := fSeq (fAsg (fLc [9] (fRng1 (fCons (fCallD d_ties_in (fCons (fVar 0) (fNil))) (fNil))) (fgName 9) (fYes) (fCallD d_ends_of (fCons (fVar 0) (fCons (fVar 9) (fNil))))) (fgName 3)) (fSeq (fAsg (fLst (fNil)) (fgName 4)) (fSeq (fFor (fSeqI (fFrz (fCallD d_all_sides (fCons (fCall dLen (fCons (fVar 0) (fNil))) (fNil))))) (fgName 5) (fSeq (fAsg (fC (.int 0)) (fgName 6)) (fSeq (fFor (fZip (fCons (fFrz (fVar 3)) (fCons (fFrz (fVar 1)) fNil))) (fgTup 2 (fgCons (fgName 7) (fgCons (fgName 8) (fgNil)))) (fIfS (fTest (fCallD d_is_parted (fCons (fVar 5) (fCons (fVar 7) (fNil))))) (fAsg (fOp dAdd (fVar 6) (fVar 8)) (fgName 6)) (fSkip))) (fDrop (fMut isLst mAppend (fpVar 4) (fCons (fTup (fCons (fOp dSub (fVar 6) (fCallD d_asks_across (fCons (fVar 2) (fCons (fVar 5) (fNil))))) (fCons (fVar 5) (fNil)))) (fNil))))))) (fRet (fVar 4))))
def d_rows_of_spares : Den := denOf 10 3 [3, 4, 5, 6, 7, 8, 6] b_rows_of_spares
def b_least_spare : FS := fSeq (fIfS (fTest (fOp (dCmp pGt) (fCall dLen (fCons (fVar 0) (fNil))) (fC (.int 8)))) (fNever) (fSkip)) (fSeq (fIfS (fTest (fOp dEq (fCall dLen (fCons (fVar 0) (fNil))) (fC (.int 1)))) (fRet (fTup (fCons (fC (.int 0)) (fCons (fTup (fNil)) (fNil))))) (fSkip)) (fRet (fCall dMinD (fCons (fCut (fCallD d_rows_of_spares (fCons (fVar 0) (fCons (fVar 1) (fCons (fVar 2) (fNil))))) (foSome (fC (.int 1))) (foNone)) (fNil)))))
def d_least_spare : Den := denOf 3 3 [] b_least_spare
abbrev b_odd_places : FS := RP.b_odd_places
abbrev d_odd_places : Den := RP.d_odd_places
abbrev b_ends_of_ties : FS := RB.b_ends_of_ties
abbrev d_ends_of_ties : Den := RB.d_ends_of_ties
abbrev b_far_by_ends : FS := RB.b_far_by_ends
abbrev d_far_by_ends : Den := RB.d_far_by_ends
abbrev b_distances : FS := RB.b_distances
abbrev d_distances : Den := RB.d_distances
def b_are_numbers : FS := fRet (fBl (fAnd (fTest (fIsi .tuple (fVar 0))) (fTest (fBl (fAnd (fTest (fOp dEq (fCall dLen (fCons (fVar 0) (fNil))) (fVar 1))) (fTest (fCall dAll (fCons (fLc [2] (fSeqI (fFrz (fVar 0))) (fgName 2) (fYes) (fCallD d_is_whole (fCons (fVar 2) (fNil)))) (fNil)))))))))
def d_are_numbers : Den := denOf 3 2 [] b_are_numbers
def b_is_lengths_paper : FS := fSeq (fIfS (fOr (fNot (fTest (fIsi .tuple (fVar 2)))) (fTest (fOp dNe (fCall dLen (fCons (fVar 2) (fNil))) (fC (.int 2))))) (fRet (fC (.bl false))) (fSkip)) (fSeq (fAsg (fVar 2) (fgTup 2 (fgCons (fgName 3) (fgCons (fgName 4) (fgNil))))) (fSeq (fIfS (fOr (fNot (fTest (fCallD d_are_numbers (fCons (fVar 3) (fCons (fCallD d_ties_in (fCons (fVar 0) (fNil))) (fNil)))))) (fNot (fTest (fCall dAll (fCons (fLc [6] (fSeqI (fFrz (fVar 3))) (fgName 6) (fYes) (fBl (fChain pLe pLe (fC (.int 0)) (fVar 6) (fC (.int 400))))) (fNil)))))) (fRet (fC (.bl false))) (fSkip)) (fSeq (fIfS (fOr (fNot (fTest (fIsi .tuple (fVar 4)))) (fTest (fOp dNe (fCall dLen (fCons (fVar 4) (fNil))) (fCall dLen (fCons (fVar 1) (fNil)))))) (fRet (fC (.bl false))) (fSkip)) (fRet (fCall dAll (fCons (fLc [5] (fSeqI (fFrz (fVar 4))) (fgName 5) (fYes) (fCallD d_are_numbers (fCons (fVar 5) (fCons (fCall dLen (fCons (fVar 0) (fNil))) (fNil))))) (fNil)))))))
def d_is_lengths_paper : Den := denOf 7 3 [3, 4] b_is_lengths_paper
def b_is_steep : FS := fSeq (fFor (fEnum (fCons (fFrz (fVar 1)) fNil)) (fgTup 2 (fgCons (fgName 3) (fgCons (fgName 4) (fgNil)))) (fSeq (fAsg (fCallD d_ends_of (fCons (fVar 0) (fCons (fVar 3) (fNil)))) (fgName 5)) (fIfS (fTest (fOp (dCmp pGt) (fCall dAbs (fCons (fOp dSub (fOp dSubs (fVar 2) (fOp dSubs (fVar 5) (fC (.int 0)))) (fOp dSubs (fVar 2) (fOp dSubs (fVar 5) (fC (.int 1))))) (fNil))) (fVar 4))) (fRet (fC (.bl true))) (fSkip)))) (fRet (fC (.bl false)))
def d_is_steep : Den := denOf 6 3 [3, 4, 5] b_is_steep
def b_lets_lengths : FS := fSeq (fIfS (fNot (fTest (fCallD d_is_lengths_paper (fCons (fVar 0) (fCons (fVar 2) (fCons (fVar 3) (fNil))))))) (fNever) (fSkip)) (fSeq (fAsg (fVar 3) (fgTup 2 (fgCons (fgName 4) (fgCons (fgName 5) (fgNil))))) (fSeq (fFor (fEnum (fCons (fFrz (fVar 5)) fNil)) (fgTup 2 (fgCons (fgName 6) (fgCons (fgName 7) (fgNil)))) (fIfS (fTest (fCallD d_is_steep (fCons (fVar 0) (fCons (fVar 4) (fCons (fVar 7) (fNil)))))) (fNever) (fSkip))) (fSeq (fAsg (fCall dSum (fCons (fLc [10, 11] (fZip (fCons (fFrz (fVar 1)) (fCons (fFrz (fVar 4)) fNil))) (fgTup 2 (fgCons (fgName 10) (fgCons (fgName 11) (fgNil)))) (fYes) (fOp dMul (fVar 10) (fVar 11))) (fNil))) (fgName 8)) (fSeq (fFor (fZip (fCons (fFrz (fVar 2)) (fCons (fFrz (fVar 5)) fNil))) (fgTup 2 (fgCons (fgName 9) (fgCons (fgName 7) (fgNil)))) (fAsg (fOp dAdd (fOp dSub (fVar 8) (fOp dSubs (fVar 7) (fOp dSubs (fVar 9) (fC (.int 1))))) (fOp dSubs (fVar 7) (fOp dSubs (fVar 9) (fC (.int 0))))) (fgName 8))) (fSeq (fIfS (fTest (fOp (dCmp pGe) (fVar 8) (fC (.int 0)))) (fNever) (fSkip)) (fRet (fC (.bl true))))))))
def d_lets_lengths : Den := denOf 12 4 [4, 5, 6, 7, 8, 9, 7, 8] b_lets_lengths
def b_lengths_paper : FS := fSeq (fAsg (fCallD d_distances (fCons (fVar 0) (fCons (fVar 2) (fNil)))) (fgName 3)) (fRet (fTup (fCons (fCall dTuple (fCons (fVar 2) (fNil))) (fCons (fCall dTuple (fCons (fLc [4] (fSeqI (fFrz (fVar 1))) (fgName 4) (fYes) (fOp dSubs (fVar 3) (fOp dSubs (fVar 4) (fC (.int 0))))) (fNil))) (fNil)))))
def d_lengths_paper : Den := denOf 5 3 [3] b_lengths_paper
abbrev b__law_tape : FS := RD.b__law_tape
abbrev d__law_tape : Den := RD.d__law_tape
abbrev b__law_draw : FS := RD.b__law_draw
abbrev d__law_draw : Den := RD.d__law_draw
abbrev b__law_other : FS := RM.b_other_of
abbrev d__law_other : Den := RM.d_other_of
abbrev b__law_spots : FS := RD.b__law_spots
abbrev d__law_spots : Den := RD.d__law_spots
abbrev b__law_along : FS := RD.b__law_along
abbrev d__law_along : Den := RD.d__law_along
abbrev b__law_ties : FS := RD.b__law_ties
abbrev d__law_ties : Den := RD.d__law_ties
abbrev b__law_ends : FS := RD.b__law_ends
abbrev d__law_ends : Den := RD.d__law_ends
abbrev b__law_faces : FS := RF.b__law_faces
abbrev d__law_faces : Den := RF.d__law_faces
abbrev b__law_parts : FS := RP.b_is_parted
abbrev d__law_parts : Den := RP.d_is_parted
abbrev b__law_room : FS := RD.b__law_room
abbrev d__law_room : Den := RD.d__law_room
abbrev b__law_spare : FS := RD.b__law_spare
abbrev d__law_spare : Den := RD.d__law_spare
def b__law_sides : FS := fSeq (fAsg (fLst (fCons (fTup (fNil)) (fNil))) (fgName 1)) (fSeq (fFor (fRng2 (fCons (fC (.int 1)) (fCons (fVar 0) (fNil)))) (fgName 2) (fAsg (fOp dCatS (fVar 1) (fLc [3] (fSeqI (fFrz (fVar 1))) (fgName 3) (fYes) (fOp dAdd (fVar 3) (fTup (fCons (fVar 2) (fNil)))))) (fgName 1))) (fRet (fCut (fCall dSortV (fCons (fVar 1) (fNil))) (foSome (fC (.int 1))) (foNone))))
def d__law_sides : Den := denOf 4 1 [1, 2, 1] b__law_sides
def b__law_far : FS := fSeq (fAsg (fCallD d__law_ends (fCons (fVar 0) (fNil))) (fgName 3)) (fSeq (fAsg (fCall dSumT (fCons (fVar 1) (fNil))) (fgName 4)) (fSeq (fAsg (fLc [10] (fRng1 (fCons (fCall dLen (fCons (fVar 0) (fNil))) (fNil))) (fgName 10) (fYes) (fIf (fTest (fOp dEq (fVar 10) (fVar 2))) (fC (.int 0)) (fVar 4))) (fgName 5)) (fSeq (fFor (fRng1 (fCons (fCall dLen (fCons (fVar 0) (fNil))) (fNil))) (fgName 6) (fFor (fRng1 (fCons (fCall dLen (fCons (fVar 3) (fNil))) (fNil))) (fgName 7) (fSeq (fAsg (fOp dSubs (fVar 3) (fVar 7)) (fgTup 2 (fgCons (fgName 8) (fgCons (fgName 9) (fgNil))))) (fSeq (fStore (fCall dMin2 (fCons (fOp dSubs (fVar 5) (fVar 8)) (fCons (fOp dAdd (fOp dSubs (fVar 5) (fVar 9)) (fOp dSubs (fVar 1) (fVar 7))) (fNil)))) (fpVar 5) (fVar 8)) (fStore (fCall dMin2 (fCons (fOp dSubs (fVar 5) (fVar 9)) (fCons (fOp dAdd (fOp dSubs (fVar 5) (fVar 8)) (fOp dSubs (fVar 1) (fVar 7))) (fNil)))) (fpVar 5) (fVar 9)))))) (fRet (fCall dTuple (fCons (fVar 5) (fNil)))))))
def d__law_far : Den := denOf 11 3 [3, 4, 5, 6, 7, 8, 9] b__law_far
def b__law_is_whole : FS := fRet (fBl (fAnd (fTest (fIsi .int (fVar 0))) (fTest (fBl (fNot (fTest (fIsi .bool (fVar 0))))))))
def d__law_is_whole : Den := denOf 1 1 [] b__law_is_whole
def b__law_is_whole_piece : FS := fSeq (fAsg (fCallD d__law_spots (fCons (fVar 0) (fNil))) (fgName 1)) (fSeq (fAsg (fLst (fCons (fC (.int 0)) (fNil))) (fgName 2)) (fSeq (fFor (fRng1 (fCons (fCall dLen (fCons (fVar 0) (fNil))) (fNil))) (fgName 3) (fFor (fRng1 (fCons (fCall dLen (fCons (fVar 1) (fNil))) (fNil))) (fgName 4) (fIfS (fAnd (fTest (fOp dIn (fOp dSubs (fVar 1) (fVar 4)) (fVar 2))) (fTest (fOp dNotIn (fOp dSubs (fVar 1) (fCallD d__law_other (fCons (fVar 4) (fNil)))) (fVar 2)))) (fDrop (fMut isLst mAppend (fpVar 2) (fCons (fOp dSubs (fVar 1) (fCallD d__law_other (fCons (fVar 4) (fNil)))) (fNil)))) (fSkip)))) (fRet (fOp dEq (fCall dLen (fCons (fVar 2) (fNil))) (fCall dLen (fCons (fVar 0) (fNil)))))))
def d__law_is_whole_piece : Den := denOf 5 1 [1, 2, 3, 4] b__law_is_whole_piece
def b__law_is_web : FS := fSeq (fIfS (fOr (fNot (fTest (fIsi .tuple (fVar 0)))) (fNot (fTest (fBl (fChain pLe pLe (fC (.int 1)) (fCall dLen (fCons (fVar 0) (fNil))) (fC (.int 8))))))) (fRet (fC (.bl false))) (fSkip)) (fSeq (fAsg (fLst (fNil)) (fgName 1)) (fSeq (fFor (fSeqI (fFrz (fVar 0))) (fgName 2) (fSeq (fIfS (fOr (fNot (fTest (fIsi .tuple (fVar 2)))) (fOr (fTest (fOp dEq (fVar 2) (fTup (fNil)))) (fTest (fOp dIn (fC (.bl false)) (fLc [3] (fSeqI (fFrz (fVar 2))) (fgName 3) (fYes) (fCallD d__law_is_whole (fCons (fVar 3) (fNil)))))))) (fRet (fC (.bl false))) (fSkip)) (fSeq (fIfS (fTest (fOp dNe (fOp dSubs (fVar 2) (fC (.int 0))) (fCall (dMm min) (fCons (fVar 2) (fNil))))) (fRet (fC (.bl false))) (fSkip)) (fDrop (fMut isLst mExtT (fpVar 1) (fCons (fVar 2) (fNil))))))) (fSeq (fIfS (fOr (fTest (fOp dNe (fCall dSorted (fCons (fVar 1) (fNil))) (fLstRg1 (fCall dLen (fCons (fVar 1) (fNil)))))) (fOr (fTest (fOp dEq (fOp dMod (fCall dLen (fCons (fVar 1) (fNil))) (fC (.int 2))) (fC (.int 1)))) (fTest (fOp (dCmp pGt) (fCall dLen (fCons (fVar 1) (fNil))) (fC (.int 24)))))) (fRet (fC (.bl false))) (fSkip)) (fSeq (fIfS (fOr (fTest (fOp dNe (fCall dList (fCons (fVar 0) (fNil))) (fCall dSortU (fCons (fVar 0) (fNil))))) (fNot (fTest (fCallD d__law_is_whole_piece (fCons (fVar 0) (fNil)))))) (fRet (fC (.bl false))) (fSkip)) (fRet (fOp dEq (fOp dAdd (fOp dSub (fCall dLen (fCons (fVar 0) (fNil))) (fOp dDiv (fCall dLen (fCons (fVar 1) (fNil))) (fC (.int 2)))) (fCall dLen (fCons (fCallD d__law_faces (fCons (fVar 0) (fNil))) (fNil)))) (fC (.int 2))))))))
def d__law_is_web : Den := denOf 4 1 [1, 2] b__law_is_web
def b__law_are_numbers : FS := fSeq (fIfS (fOr (fNot (fTest (fIsi .tuple (fVar 0)))) (fOr (fTest (fOp dNe (fCall dLen (fCons (fVar 0) (fNil))) (fVar 1))) (fTest (fOp dIn (fC (.bl false)) (fLc [3] (fSeqI (fFrz (fVar 0))) (fgName 3) (fYes) (fCallD d__law_is_whole (fCons (fVar 3) (fNil)))))))) (fRet (fC (.bl false))) (fSkip)) (fRet (fOp dEq (fLc [3] (fSeqI (fFrz (fVar 0))) (fgName 3) (fNot (fTest (fBl (fChain pLe pLe (fC (.int 0)) (fVar 3) (fVar 2))))) (fVar 3)) (fLst (fNil))))
def d__law_are_numbers : Den := denOf 4 3 [] b__law_are_numbers
def b__law_are_asks : FS := fSeq (fIfS (fOr (fNot (fTest (fIsi .tuple (fVar 1)))) (fTest (fOp (dCmp pGt) (fCall dLen (fCons (fVar 1) (fNil))) (fC (.int 6))))) (fRet (fC (.bl false))) (fSkip)) (fSeq (fFor (fSeqI (fFrz (fVar 1))) (fgName 2) (fSeq (fIfS (fOr (fNot (fTest (fIsi .tuple (fVar 2)))) (fTest (fOp dNe (fCall dLen (fCons (fVar 2) (fNil))) (fC (.int 2))))) (fRet (fC (.bl false))) (fSkip)) (fSeq (fIfS (fTest (fOp dIn (fC (.bl false)) (fLc [3] (fSeqI (fFrz (fVar 2))) (fgName 3) (fYes) (fBl (fAnd (fTest (fCallD d__law_is_whole (fCons (fVar 3) (fNil)))) (fTest (fBl (fChain pLe pLt (fC (.int 0)) (fVar 3) (fVar 0))))))))) (fRet (fC (.bl false))) (fSkip)) (fIfS (fTest (fOp dEq (fOp dSubs (fVar 2) (fC (.int 0))) (fOp dSubs (fVar 2) (fC (.int 1))))) (fRet (fC (.bl false))) (fSkip))))) (fRet (fC (.bl true))))
def d__law_are_asks : Den := denOf 4 2 [2] b__law_are_asks
def b__law_is_case : FS := fSeq (fIfS (fOr (fNot (fTest (fIsi .tuple (fVar 0)))) (fOr (fTest (fOp dNe (fCall dLen (fCons (fVar 0) (fNil))) (fC (.int 4)))) (fNot (fTest (fCallD d__law_is_web (fCons (fOp dSubs (fVar 0) (fC (.int 0))) (fNil))))))) (fRet (fC (.bl false))) (fSkip)) (fSeq (fAsg (fVar 0) (fgTup 4 (fgCons (fgName 1) (fgCons (fgName 2) (fgCons (fgName 3) (fgCons (fgName 4) (fgNil))))))) (fSeq (fAsg (fCallD d__law_ties (fCons (fVar 1) (fNil))) (fgName 5)) (fSeq (fAsg (fBl (fAnd (fTest (fCallD d__law_are_numbers (fCons (fVar 2) (fCons (fVar 5) (fCons (fC (.int 6)) (fNil)))))) (fTest (fCallD d__law_are_numbers (fCons (fVar 4) (fCons (fVar 5) (fCons (fC (.int 6)) (fNil)))))))) (fgName 6)) (fSeq (fIfS (fOr (fNot (fTest (fVar 6))) (fNot (fTest (fCallD d__law_are_asks (fCons (fCall dLen (fCons (fVar 1) (fNil))) (fCons (fVar 3) (fNil))))))) (fRet (fC (.bl false))) (fSkip)) (fSeq (fFor (fSeqI (fFrz (fCallD d__law_sides (fCons (fCall dLen (fCons (fVar 1) (fNil))) (fNil))))) (fgName 7) (fIfS (fTest (fOp (dCmp pLt) (fCallD d__law_spare (fCons (fVar 1) (fCons (fVar 2) (fCons (fVar 3) (fCons (fVar 7) (fNil)))))) (fC (.int 0)))) (fRet (fC (.bl false))) (fSkip))) (fSeq (fFor (fRng1 (fCons (fCall dLen (fCons (fVar 1) (fNil))) (fNil))) (fgName 8) (fSeq (fAsg (fCall dSum (fCons (fLc [14] (fSeqI (fFrz (fOp dSubs (fVar 1) (fVar 8)))) (fgName 14) (fYes) (fOp dSubs (fVar 2) (fOp dDiv (fVar 14) (fC (.int 2))))) (fNil))) (fgName 9)) (fIfS (fTest (fOp dEq (fOp dMod (fOp dAdd (fVar 9) (fCall dLen (fCons (fLc [15] (fSeqI (fFrz (fVar 3))) (fgName 15) (fTest (fOp dIn (fVar 8) (fVar 15))) (fVar 15)) (fNil)))) (fC (.int 2))) (fC (.int 1)))) (fRet (fC (.bl false))) (fSkip)))) (fSeq (fAsg (fCall dSum (fCons (fLc [13] (fRng1 (fCons (fVar 5) (fNil))) (fgName 13) (fYes) (fOp dMul (fOp dSubs (fVar 2) (fVar 13)) (fOp dSubs (fVar 4) (fVar 13)))) (fNil))) (fgName 10)) (fSeq (fFor (fSeqI (fFrz (fVar 3))) (fgTup 2 (fgCons (fgName 11) (fgCons (fgName 12) (fgNil)))) (fAsg (fOp dSub (fVar 10) (fOp dSubs (fFrz (fCallD d__law_far (fCons (fVar 1) (fCons (fVar 4) (fCons (fVar 11) (fNil)))))) (fVar 12))) (fgName 10))) (fRet (fOp (dCmp pLt) (fVar 10) (fC (.int 0))))))))))))
def d__law_is_case : Den := denOf 16 1 [1, 2, 3, 4, 5, 6, 7, 8, 9, 10, 11, 12, 10] b__law_is_case
def b_law : FS := fSeq (fAsg (fCallD d__law_tape (fCons (fVar 0) (fNil))) (fgName 1)) (fSeq (fFor (fRng1 (fCons (fC (.int 2)) (fNil))) (fgName 2) (fSeq (fAsg (fCallD d_told_cases fNil) (fgName 3)) (fSeq (fIfS (fOr (fNot (fTest (fIsi .tuple (fVar 3)))) (fNot (fTest (fBl (fChain pLe pLe (fC (.int 3)) (fCall dLen (fCons (fVar 3) (fNil))) (fC (.int 20))))))) (fRet (fC (.bl false))) (fSkip)) (fFor (fRng1 (fCons (fCall dLen (fCons (fVar 3) (fNil))) (fNil))) (fgName 4) (fIfS (fOr (fNot (fTest (fCallD d__law_is_case (fCons (fOp dSubs (fVar 3) (fVar 4)) (fNil))))) (fTest (fOp dInT (fOp dSubs (fVar 3) (fVar 4)) (fCut (fVar 3) (foNone) (foSome (fVar 4)))))) (fRet (fC (.bl false))) (fSkip)))))) (fSeq (fAsg (fOp dSubs (fVar 3) (fCallD d__law_draw (fCons (fVar 1) (fCons (fCall dLen (fCons (fVar 3) (fNil))) (fNil))))) (fgTup 4 (fgCons (fgName 5) (fgCons (fgName 6) (fgCons (fgName 7) (fgCons (fgName 8) (fgNil))))))) (fSeq (fIfS (fTest (fOp dIsNotB (fCallD d_lets_lengths (fCons (fVar 5) (fCons (fVar 6) (fCons (fVar 7) (fCons (fCallD d_lengths_paper (fCons (fVar 5) (fCons (fVar 7) (fCons (fVar 8) (fNil))))) (fNil)))))) (fC (.bl true)))) (fRet (fC (.bl false))) (fSkip)) (fSeq (fIfS (fOr (fTest (fOp (dCmp pLt) (fOp dSubs (fCallD d_least_spare (fCons (fVar 5) (fCons (fVar 6) (fCons (fVar 7) (fNil))))) (fC (.int 0))) (fC (.int 0)))) (fTest (fOp dNe (fCallD d_odd_places (fCons (fVar 5) (fCons (fVar 6) (fCons (fVar 7) (fNil))))) (fTup (fNil))))) (fRet (fC (.bl false))) (fSkip)) (fRet (fOp dIsNotN (fCallD d_off_rim (fCons (fVar 5) (fCons (fCallD d__law_draw (fCons (fVar 1) (fCons (fCall dLen (fCons (fCallD d__law_faces (fCons (fVar 5) (fNil))) (fNil))) (fNil)))) (fCons (fVar 7) (fNil))))) (fC .non)))))))
def d_law : Den := denOf 9 1 [1, 2, 3, 4, 5, 6, 7, 8] b_law
end K72
/-! each def of law_k72_cases_told has its meaning; printed by gen.py -/
namespace K72
open PySem PySem.Spec L2 DL
/-! ### the text by places -/
def top (i : Nat) : Stmt := PySem.Challenge.pw_rimasks_k72_cases_told.main.body.getD i (.Pass ⟨0, 0, 0, 0⟩)
/-- what the top has left of the built-ins -/
structure Txt (mg : Str → Option Value) : Prop where
  b_abs : mg "abs" = none
  b_all : mg "all" = none
  b_bool : mg "bool" = none
  b_enumerate : mg "enumerate" = none
  b_int : mg "int" = none
  b_isinstance : mg "isinstance" = none
  b_len : mg "len" = none
  b_list : mg "list" = none
  b_min : mg "min" = none
  b_range : mg "range" = none
  b_set : mg "set" = none
  b_sorted : mg "sorted" = none
  b_sum : mg "sum" = none
  b_tuple : mg "tuple" = none
  b_zip : mg "zip" = none
  g_MOST_LENGTH : ∃ t, mg "MOST_LENGTH" = some (.int 400 t)
  g_MOST_PLACES : ∃ t, mg "MOST_PLACES" = some (.int 8 t)
section
variable {P : Program} {w : World} {K : PySem.W.Frag} {mg : Str → Option Value} {base : Heap}
abbrev s_told_cases : Stmt := top 1
abbrev N_told_cases : List Str := ["plain", "cut", "hung", "first", "second", "third"]
abbrev p_told_cases : List Str := []
theorem sc_told_cases : FnScope N_told_cases p_told_cases (defScope s_told_cases) := ⟨rfl, rfl, rfl, by decide +kernel, rfl, by decide +kernel, by decide +kernel⟩
theorem fn_told_cases {f : Addr} {fd : FuncData} (F : Fun K "told_cases" "told_cases" s_told_cases f fd) (T : Txt mg)  : FnD P w K mg base 1 f fd p_told_cases d_told_cases := by
  refine fnD_of (k := 0) (N := N_told_cases) (W := [0, 1, 2, 3, 4, 5]) (fb := b_told_cases) F sc_told_cases fun cdv A outer s H hgd hr => ?_
  have hu := hr.un
  have hu1 := room_u (n := 1) (k := 0) (u := (A.deeper _).units) (by decide) hu
  have hu40 := room_u (n := 40) (k := 0) (u := (A.deeper _).units) (by decide) hu
  have hu64 := room_u (n := 64) (k := 0) (u := (A.deeper _).units) (by decide) hu
  have hu65 := room_u (n := 65) (k := 0) (u := (A.deeper _).units) (by decide) hu
  exact dss_cons (ds_set (i := 0) sc_told_cases.nd rfl (Or.inl rfl) (de_tup (da_cons (de_tup (da_cons (de_int) (da_cons (de_int) (da_cons (de_int) (da_nil))))) (da_cons (de_tup (da_cons (de_int) (da_cons (de_int) (da_nil)))) (da_cons (de_tup (da_cons (de_int) (da_cons (de_int) (da_nil)))) (da_cons (de_tup (da_cons (de_int) (da_cons (de_int) (da_nil)))) (da_cons (de_tup (da_cons (de_int) (da_cons (de_int) (da_cons (de_int) (da_nil))))) (da_nil)))))))) (dss_cons (ds_set (i := 1) sc_told_cases.nd rfl (Or.inl rfl) (de_tup (da_cons (de_tup (da_cons (de_int) (da_cons (de_int) (da_cons (de_int) (da_nil))))) (da_cons (de_tup (da_cons (de_int) (da_cons (de_int) (da_nil)))) (da_cons (de_tup (da_cons (de_int) (da_cons (de_int) (da_nil)))) (da_cons (de_tup (da_cons (de_int) (da_cons (de_int) (da_nil)))) (da_cons (de_tup (da_cons (de_int) (da_cons (de_int) (da_cons (de_int) (da_nil))))) (da_cons (de_tup (da_cons (de_int) (da_cons (de_int) (da_nil)))) (da_nil))))))))) (dss_cons (ds_set (i := 2) sc_told_cases.nd rfl (Or.inl rfl) (de_tup (da_cons (de_tup (da_cons (de_int) (da_cons (de_int) (da_cons (de_int) (da_nil))))) (da_cons (de_tup (da_cons (de_int) (da_cons (de_int) (da_cons (de_int) (da_nil))))) (da_cons (de_tup (da_cons (de_int) (da_cons (de_int) (da_nil)))) (da_cons (de_tup (da_cons (de_int) (da_cons (de_int) (da_nil)))) (da_cons (de_tup (da_cons (de_int) (da_cons (de_int) (da_cons (de_int) (da_nil))))) (da_cons (de_tup (da_cons (de_int) (da_nil))) (da_nil))))))))) (dss_cons (ds_set (i := 3) sc_told_cases.nd rfl (Or.inl rfl) (de_tup (da_cons (de_var (pv 0)) (da_cons (de_op op_times o2_times (de_tup (da_cons (de_int) (da_nil))) (de_int)) (da_cons (de_tup (da_cons (de_tup (da_cons (de_int) (da_cons (de_int) (da_nil)))) (da_cons (de_tup (da_cons (de_int) (da_cons (de_int) (da_nil)))) (da_cons (de_tup (da_cons (de_int) (da_cons (de_int) (da_nil)))) (da_cons (de_tup (da_cons (de_int) (da_cons (de_int) (da_nil)))) (da_nil)))))) (da_cons (de_op op_times o2_times (de_tup (da_cons (de_int) (da_nil))) (de_int)) (da_nil))))))) (dss_cons (ds_set (i := 4) sc_told_cases.nd rfl (Or.inl rfl) (de_tup (da_cons (de_var (pv 1)) (da_cons (de_op op_times o2_times (de_tup (da_cons (de_int) (da_nil))) (de_int)) (da_cons (de_tup (da_cons (de_tup (da_cons (de_int) (da_cons (de_int) (da_nil)))) (da_cons (de_tup (da_cons (de_int) (da_cons (de_int) (da_nil)))) (da_cons (de_tup (da_cons (de_int) (da_cons (de_int) (da_nil)))) (da_cons (de_tup (da_cons (de_int) (da_cons (de_int) (da_nil)))) (da_nil)))))) (da_cons (de_op ox_add o2_add (de_op op_times o2_times (de_tup (da_cons (de_int) (da_nil))) (de_int)) (de_tup (da_cons (de_int) (da_nil)))) (da_nil))))))) (dss_cons (ds_set (i := 5) sc_told_cases.nd rfl (Or.inl rfl) (de_tup (da_cons (de_var (pv 2)) (da_cons (de_op ox_add o2_add (de_op op_times o2_times (de_tup (da_cons (de_int) (da_nil))) (de_int)) (de_tup (da_cons (de_int) (da_nil)))) (da_cons (de_tup (da_cons (de_tup (da_cons (de_int) (da_cons (de_int) (da_nil)))) (da_cons (de_tup (da_cons (de_int) (da_cons (de_int) (da_nil)))) (da_cons (de_tup (da_cons (de_int) (da_cons (de_int) (da_nil)))) (da_cons (de_tup (da_cons (de_int) (da_cons (de_int) (da_nil)))) (da_nil)))))) (da_cons (de_op ox_add o2_add (de_op op_times o2_times (de_tup (da_cons (de_int) (da_nil))) (de_int)) (de_tup (da_cons (de_int) (da_nil)))) (da_nil))))))) (dss_one (ds_ret (de_tup (da_cons (de_var (pv 3)) (da_cons (de_var (pv 4)) (da_cons (de_var (pv 5)) (da_nil))))))))))))
theorem ok_told_cases {f : Addr} {fd : FuncData} (F : Fun K "told_cases" "told_cases" s_told_cases f fd) (mf : mg "told_cases" = some (.ref f)) (T : Txt mg)  : DefOk P w K mg base "told_cases" 1 p_told_cases d_told_cases :=
  ⟨f, fd, fn_told_cases F T , mf, F.kp, F.binds (ps := p_told_cases) fun _ _ _ _ _ _ us hl => match us, hl with | [], _ => rfl⟩
abbrev s_darts_in_rows : Stmt := top 7
abbrev N_darts_in_rows : List Str := ["rows", "found", "row"]
abbrev p_darts_in_rows : List Str := ["rows"]
theorem sc_darts_in_rows : FnScope N_darts_in_rows p_darts_in_rows (defScope s_darts_in_rows) := ⟨rfl, rfl, rfl, by decide +kernel, rfl, by decide +kernel, by decide +kernel⟩
theorem fn_darts_in_rows {f : Addr} {fd : FuncData} (F : Fun K "darts_in_rows" "darts_in_rows" s_darts_in_rows f fd) (T : Txt mg)  : FnD P w K mg base 1 f fd p_darts_in_rows d_darts_in_rows := by
  refine fnD_of (k := 0) (N := N_darts_in_rows) (W := [1, 2]) (fb := b_darts_in_rows) F sc_darts_in_rows fun cdv A outer s H hgd hr => ?_
  have hu := hr.un
  have hu1 := room_u (n := 1) (k := 0) (u := (A.deeper _).units) (by decide) hu
  have hu40 := room_u (n := 40) (k := 0) (u := (A.deeper _).units) (by decide) hu
  have hu64 := room_u (n := 64) (k := 0) (u := (A.deeper _).units) (by decide) hu
  have hu65 := room_u (n := 65) (k := 0) (u := (A.deeper _).units) (by decide) hu
  exact dss_cons (ds_set (i := 1) sc_darts_in_rows.nd rfl (Or.inl rfl) (de_lst (da_nil))) (dss_cons (ds_for PassesOwn.never rfl (di_seq (de_frz (de_var (pv 0)))) (DG.dy (dg_name (pg_name (i := 2) sc_darts_in_rows.nd rfl (Or.inl rfl)))) (dss_one (ds_expr (de_mut (pe_bm PySem.F.plainAttrs_list PySem.F.slot_list_extend PySem.F.type_list_extend mt_extend (DP.pe (dp_var (pv 1))) (DA.pa (da_cons (de_callTy call_list_of cs_list (by rfl) T.b_list (by first | rfl | decide +kernel) (da_cons (de_var (pv 2)) (da_nil))) (da_nil)))) mu_extend)))) (dss_one (ds_ret (de_var (pv 1)))))
theorem ok_darts_in_rows {f : Addr} {fd : FuncData} (F : Fun K "darts_in_rows" "darts_in_rows" s_darts_in_rows f fd) (mf : mg "darts_in_rows" = some (.ref f)) (T : Txt mg)  : DefOk P w K mg base "darts_in_rows" 1 p_darts_in_rows d_darts_in_rows :=
  ⟨f, fd, fn_darts_in_rows F T , mf, F.kp, F.binds (ps := p_darts_in_rows) fun _ _ _ _ _ _ us hl => match us, hl with | [_], _ => rfl⟩
abbrev s_ties_in : Stmt := top 8
abbrev N_ties_in : List Str := ["web"]
abbrev p_ties_in : List Str := ["web"]
theorem sc_ties_in : FnScope N_ties_in p_ties_in (defScope s_ties_in) := ⟨rfl, rfl, rfl, by decide +kernel, rfl, by decide +kernel, by decide +kernel⟩
theorem fn_ties_in {f : Addr} {fd : FuncData} (F : Fun K "ties_in" "ties_in" s_ties_in f fd) (T : Txt mg) (G_darts_in_rows : DefOk P w K mg base "darts_in_rows" 1 p_darts_in_rows d_darts_in_rows) : FnD P w K mg base 2 f fd p_ties_in d_ties_in := by
  refine fnD_of (k := 1) (N := N_ties_in) (W := []) (fb := b_ties_in) F sc_ties_in fun cdv A outer s H hgd hr => ?_
  have hu := hr.un
  have hu1 := room_u (n := 1) (k := 1) (u := (A.deeper _).units) (by decide) hu
  have hu40 := room_u (n := 40) (k := 1) (u := (A.deeper _).units) (by decide) hu
  have hu64 := room_u (n := 64) (k := 1) (u := (A.deeper _).units) (by decide) hu
  have hu65 := room_u (n := 65) (k := 1) (u := (A.deeper _).units) (by decide) hu
  exact dss_one (ds_ret (de_op op_fdivN o2_div (de_callB cx_len cs_len (by rfl) T.b_len (by first | rfl | decide +kernel) (da_cons (de_callG G_darts_in_rows hgd hr (by decide) (by rfl) (fCons_len (fNil_len)) (da_cons (de_var (pv 0)) (da_nil))) (da_nil))) (de_int)))
theorem ok_ties_in {f : Addr} {fd : FuncData} (F : Fun K "ties_in" "ties_in" s_ties_in f fd) (mf : mg "ties_in" = some (.ref f)) (T : Txt mg) (G_darts_in_rows : DefOk P w K mg base "darts_in_rows" 1 p_darts_in_rows d_darts_in_rows) : DefOk P w K mg base "ties_in" 2 p_ties_in d_ties_in :=
  ⟨f, fd, fn_ties_in F T G_darts_in_rows, mf, F.kp, F.binds (ps := p_ties_in) fun _ _ _ _ _ _ us hl => match us, hl with | [_], _ => rfl⟩
abbrev s_other_of : Stmt := top 9
abbrev N_other_of : List Str := ["dart"]
abbrev p_other_of : List Str := ["dart"]
theorem sc_other_of : FnScope N_other_of p_other_of (defScope s_other_of) := ⟨rfl, rfl, rfl, by decide +kernel, rfl, by decide +kernel, by decide +kernel⟩
theorem fn_other_of {f : Addr} {fd : FuncData} (F : Fun K "other_of" "other_of" s_other_of f fd) (T : Txt mg)  : FnD P w K mg base 1 f fd p_other_of d_other_of := by
  refine fnD_of (k := 0) (N := N_other_of) (W := []) (fb := b_other_of) F sc_other_of fun cdv A outer s H hgd hr => ?_
  have hu := hr.un
  have hu1 := room_u (n := 1) (k := 0) (u := (A.deeper _).units) (by decide) hu
  have hu40 := room_u (n := 40) (k := 0) (u := (A.deeper _).units) (by decide) hu
  have hu64 := room_u (n := 64) (k := 0) (u := (A.deeper _).units) (by decide) hu
  have hu65 := room_u (n := 65) (k := 0) (u := (A.deeper _).units) (by decide) hu
  exact dss_one (ds_ret (de_op op_sub o2_sub (de_op ox_add o2_add (de_var (pv 0)) (de_int)) (de_op ox_mul o2_mul (de_int) (de_op op_modN o2_mod (de_var (pv 0)) (de_int)))))
theorem ok_other_of {f : Addr} {fd : FuncData} (F : Fun K "other_of" "other_of" s_other_of f fd) (mf : mg "other_of" = some (.ref f)) (T : Txt mg)  : DefOk P w K mg base "other_of" 1 p_other_of d_other_of :=
  ⟨f, fd, fn_other_of F T , mf, F.kp, F.binds (ps := p_other_of) fun _ _ _ _ _ _ us hl => match us, hl with | [_], _ => rfl⟩
abbrev s_place_of : Stmt := top 10
abbrev N_place_of : List Str := ["web", "dart", "row"]
abbrev p_place_of : List Str := ["web", "dart"]
theorem sc_place_of : FnScope N_place_of p_place_of (defScope s_place_of) := ⟨rfl, rfl, rfl, by decide +kernel, rfl, by decide +kernel, by decide +kernel⟩
theorem fn_place_of {f : Addr} {fd : FuncData} (F : Fun K "place_of" "place_of" s_place_of f fd) (T : Txt mg)  : FnD P w K mg base 1 f fd p_place_of d_place_of := by
  refine fnD_of (k := 0) (N := N_place_of) (W := []) (fb := b_place_of) F sc_place_of fun cdv A outer s H hgd hr => ?_
  have hu := hr.un
  have hu1 := room_u (n := 1) (k := 0) (u := (A.deeper _).units) (by decide) hu
  have hu40 := room_u (n := 40) (k := 0) (u := (A.deeper _).units) (by decide) hu
  have hu64 := room_u (n := 64) (k := 0) (u := (A.deeper _).units) (by decide) hu
  have hu65 := room_u (n := 65) (k := 0) (u := (A.deeper _).units) (by decide) hu
  exact dss_one (ds_ret (de_index (pe_bm PySem.F.plainAttrs_list PySem.F.slot_list_index PySem.F.type_list_index (mt_indexD hu65) (DE.pe (de_lc (own := [("row", 2)]) rfl sc_place_of.nd (di_seq (de_frz (de_var (pv 0)))) (blkOk_by (own := [("row", 2)]) (N := N_place_of) (sc := defScope s_place_of) (by decide +kernel)) (fun _ _ _ _ _ => DG.dy (dg_name (pg_name (i := 2) sc_place_of.nd rfl (Or.inl rfl)))) (fun _ _ _ _ _ => dts_nil) (fun _ _ _ _ _ => de_cmp (ox_in hu65) o2_in (de_var (pv 1)) (de_var (pv 2)) (by rfl)) (by decide))) (DA.pa (da_cons (de_bl) (da_nil)))) (pe_tm PySem.F.slot_tuple_index PySem.F.type_tuple_index mt_tidx (DE.pe (de_lc (own := [("row", 2)]) rfl sc_place_of.nd (di_seq (de_frz (de_var (pv 0)))) (blkOk_by (own := [("row", 2)]) (N := N_place_of) (sc := defScope s_place_of) (by decide +kernel)) (fun _ _ _ _ _ => DG.dy (dg_name (pg_name (i := 2) sc_place_of.nd rfl (Or.inl rfl)))) (fun _ _ _ _ _ => dts_nil) (fun _ _ _ _ _ => de_cmp (ox_in hu65) o2_in (de_var (pv 1)) (de_var (pv 2)) (by rfl)) (by decide))) (DA.pa (da_cons (de_bl) (da_nil))))))
theorem ok_place_of {f : Addr} {fd : FuncData} (F : Fun K "place_of" "place_of" s_place_of f fd) (mf : mg "place_of" = some (.ref f)) (T : Txt mg)  : DefOk P w K mg base "place_of" 1 p_place_of d_place_of :=
  ⟨f, fd, fn_place_of F T , mf, F.kp, F.binds (ps := p_place_of) fun _ _ _ _ _ _ us hl => match us, hl with | [_, _], _ => rfl⟩
abbrev s_ends_of : Stmt := top 11
abbrev N_ends_of : List Str := ["web", "tie"]
abbrev p_ends_of : List Str := ["web", "tie"]
theorem sc_ends_of : FnScope N_ends_of p_ends_of (defScope s_ends_of) := ⟨rfl, rfl, rfl, by decide +kernel, rfl, by decide +kernel, by decide +kernel⟩
theorem fn_ends_of {f : Addr} {fd : FuncData} (F : Fun K "ends_of" "ends_of" s_ends_of f fd) (T : Txt mg) (G_place_of : DefOk P w K mg base "place_of" 1 p_place_of d_place_of) : FnD P w K mg base 2 f fd p_ends_of d_ends_of := by
  refine fnD_of (k := 1) (N := N_ends_of) (W := []) (fb := b_ends_of) F sc_ends_of fun cdv A outer s H hgd hr => ?_
  have hu := hr.un
  have hu1 := room_u (n := 1) (k := 1) (u := (A.deeper _).units) (by decide) hu
  have hu40 := room_u (n := 40) (k := 1) (u := (A.deeper _).units) (by decide) hu
  have hu64 := room_u (n := 64) (k := 1) (u := (A.deeper _).units) (by decide) hu
  have hu65 := room_u (n := 65) (k := 1) (u := (A.deeper _).units) (by decide) hu
  exact dss_one (ds_ret (de_tup (da_cons (de_callG G_place_of hgd hr (by decide) (by rfl) (fCons_len (fCons_len (fNil_len))) (da_cons (de_var (pv 0)) (da_cons (de_op ox_mul o2_mul (de_int) (de_var (pv 1))) (da_nil)))) (da_cons (de_callG G_place_of hgd hr (by decide) (by rfl) (fCons_len (fCons_len (fNil_len))) (da_cons (de_var (pv 0)) (da_cons (de_op ox_add o2_add (de_op ox_mul o2_mul (de_int) (de_var (pv 1))) (de_int)) (da_nil)))) (da_nil)))))
theorem ok_ends_of {f : Addr} {fd : FuncData} (F : Fun K "ends_of" "ends_of" s_ends_of f fd) (mf : mg "ends_of" = some (.ref f)) (T : Txt mg) (G_place_of : DefOk P w K mg base "place_of" 1 p_place_of d_place_of) : DefOk P w K mg base "ends_of" 2 p_ends_of d_ends_of :=
  ⟨f, fd, fn_ends_of F T G_place_of, mf, F.kp, F.binds (ps := p_ends_of) fun _ _ _ _ _ _ us hl => match us, hl with | [_, _], _ => rfl⟩
abbrev s_next_around : Stmt := top 12
abbrev N_next_around : List Str := ["web", "dart", "row"]
abbrev p_next_around : List Str := ["web", "dart"]
theorem sc_next_around : FnScope N_next_around p_next_around (defScope s_next_around) := ⟨rfl, rfl, rfl, by decide +kernel, rfl, by decide +kernel, by decide +kernel⟩
theorem fn_next_around {f : Addr} {fd : FuncData} (F : Fun K "next_around" "next_around" s_next_around f fd) (T : Txt mg) (G_place_of : DefOk P w K mg base "place_of" 1 p_place_of d_place_of) : FnD P w K mg base 2 f fd p_next_around d_next_around := by
  refine fnD_of (k := 1) (N := N_next_around) (W := [2]) (fb := b_next_around) F sc_next_around fun cdv A outer s H hgd hr => ?_
  have hu := hr.un
  have hu1 := room_u (n := 1) (k := 1) (u := (A.deeper _).units) (by decide) hu
  have hu40 := room_u (n := 40) (k := 1) (u := (A.deeper _).units) (by decide) hu
  have hu64 := room_u (n := 64) (k := 1) (u := (A.deeper _).units) (by decide) hu
  have hu65 := room_u (n := 65) (k := 1) (u := (A.deeper _).units) (by decide) hu
  exact dss_cons (ds_set (i := 2) sc_next_around.nd rfl (Or.inl rfl) (de_sub hu1 (de_var (pv 0)) (de_callG G_place_of hgd hr (by decide) (by rfl) (fCons_len (fCons_len (fNil_len))) (da_cons (de_var (pv 0)) (da_cons (de_var (pv 1)) (da_nil)))) (fun _ _ => rfl))) (dss_one (ds_ret (de_sub hu1 (de_var (pv 2)) (de_op op_modN o2_mod (de_op ox_add o2_add (de_index (pe_bm PySem.F.plainAttrs_list PySem.F.slot_list_index PySem.F.type_list_index (mt_indexD hu65) (DE.pe (de_var (pv 2))) (DA.pa (da_cons (de_var (pv 1)) (da_nil)))) (pe_tm PySem.F.slot_tuple_index PySem.F.type_tuple_index mt_tidx (DE.pe (de_var (pv 2))) (DA.pa (da_cons (de_var (pv 1)) (da_nil))))) (de_int)) (de_callB cx_len cs_len (by rfl) T.b_len (by first | rfl | decide +kernel) (da_cons (de_var (pv 2)) (da_nil)))) (fun _ _ => rfl))))
theorem ok_next_around {f : Addr} {fd : FuncData} (F : Fun K "next_around" "next_around" s_next_around f fd) (mf : mg "next_around" = some (.ref f)) (T : Txt mg) (G_place_of : DefOk P w K mg base "place_of" 1 p_place_of d_place_of) : DefOk P w K mg base "next_around" 2 p_next_around d_next_around :=
  ⟨f, fd, fn_next_around F T G_place_of, mf, F.kp, F.binds (ps := p_next_around) fun _ _ _ _ _ _ us hl => match us, hl with | [_, _], _ => rfl⟩
abbrev s_next_along : Stmt := top 13
abbrev N_next_along : List Str := ["web", "dart"]
abbrev p_next_along : List Str := ["web", "dart"]
theorem sc_next_along : FnScope N_next_along p_next_along (defScope s_next_along) := ⟨rfl, rfl, rfl, by decide +kernel, rfl, by decide +kernel, by decide +kernel⟩
theorem fn_next_along {f : Addr} {fd : FuncData} (F : Fun K "next_along" "next_along" s_next_along f fd) (T : Txt mg) (G_next_around : DefOk P w K mg base "next_around" 2 p_next_around d_next_around) (G_other_of : DefOk P w K mg base "other_of" 1 p_other_of d_other_of) : FnD P w K mg base 3 f fd p_next_along d_next_along := by
  refine fnD_of (k := 2) (N := N_next_along) (W := []) (fb := b_next_along) F sc_next_along fun cdv A outer s H hgd hr => ?_
  have hu := hr.un
  have hu1 := room_u (n := 1) (k := 2) (u := (A.deeper _).units) (by decide) hu
  have hu40 := room_u (n := 40) (k := 2) (u := (A.deeper _).units) (by decide) hu
  have hu64 := room_u (n := 64) (k := 2) (u := (A.deeper _).units) (by decide) hu
  have hu65 := room_u (n := 65) (k := 2) (u := (A.deeper _).units) (by decide) hu
  exact dss_one (ds_ret (de_callG G_next_around hgd hr (by decide) (by rfl) (fCons_len (fCons_len (fNil_len))) (da_cons (de_var (pv 0)) (da_cons (de_callG G_other_of hgd hr (by decide) (by rfl) (fCons_len (fNil_len)) (da_cons (de_var (pv 1)) (da_nil))) (da_nil)))))
theorem ok_next_along {f : Addr} {fd : FuncData} (F : Fun K "next_along" "next_along" s_next_along f fd) (mf : mg "next_along" = some (.ref f)) (T : Txt mg) (G_next_around : DefOk P w K mg base "next_around" 2 p_next_around d_next_around) (G_other_of : DefOk P w K mg base "other_of" 1 p_other_of d_other_of) : DefOk P w K mg base "next_along" 3 p_next_along d_next_along :=
  ⟨f, fd, fn_next_along F T G_next_around G_other_of, mf, F.kp, F.binds (ps := p_next_along) fun _ _ _ _ _ _ us hl => match us, hl with | [_, _], _ => rfl⟩
abbrev s_faces : Stmt := top 15
abbrev N_faces : List Str := ["web", "found", "seen", "dart", "ring", "ahead"]
abbrev p_faces : List Str := ["web"]
theorem sc_faces : FnScope N_faces p_faces (defScope s_faces) := ⟨rfl, rfl, rfl, by decide +kernel, rfl, by decide +kernel, by decide +kernel⟩
theorem fn_faces {f : Addr} {fd : FuncData} (F : Fun K "faces" "faces" s_faces f fd) (T : Txt mg) (G_ties_in : DefOk P w K mg base "ties_in" 2 p_ties_in d_ties_in) (G_next_along : DefOk P w K mg base "next_along" 3 p_next_along d_next_along) : FnD P w K mg base 4 f fd p_faces d_faces := by
  refine fnD_of (k := 3) (N := N_faces) (W := [1, 2, 3, 4, 5, 5]) (fb := b_faces) F sc_faces fun cdv A outer s H hgd hr => ?_
  have hu := hr.un
  have hu1 := room_u (n := 1) (k := 3) (u := (A.deeper _).units) (by decide) hu
  have hu40 := room_u (n := 40) (k := 3) (u := (A.deeper _).units) (by decide) hu
  have hu64 := room_u (n := 64) (k := 3) (u := (A.deeper _).units) (by decide) hu
  have hu65 := room_u (n := 65) (k := 3) (u := (A.deeper _).units) (by decide) hu
  exact dss_cons (ds_set (i := 1) sc_faces.nd rfl (Or.inl rfl) (de_lst (da_nil))) (dss_cons (ds_set (i := 2) sc_faces.nd rfl (Or.inl rfl) (de_dic0)) (dss_cons (ds_for PassesOwn.never rfl (di_rng1 (by rfl) T.b_range (da_cons (de_op ox_mul o2_mul (de_int) (de_callG G_ties_in hgd hr (by decide) (by rfl) (fCons_len (fNil_len)) (da_cons (de_var (pv 0)) (da_nil)))) (da_nil))) (DG.dy (dg_name (pg_name (i := 3) sc_faces.nd rfl (Or.inl rfl)))) (dss_one (ds_if (dt_cmp (ox_notIn hu65) o2_notIn (de_var (pv 3)) (de_var (pv 2)) (by rfl)) (dss_cons (ds_set (i := 4) sc_faces.nd rfl (Or.inl rfl) (de_lst (da_nil))) (dss_cons (ds_set (i := 5) sc_faces.nd rfl (Or.inl rfl) (de_var (pv 3))) (dss_cons (ds_while fuel PassesOwn.never (dt_cmp (ox_notIn hu65) o2_notIn (de_var (pv 5)) (de_var (pv 2)) (by rfl)) (dss_cons (ds_store (ps_asg (DE.pe (de_bl)) (pg_sub (DP.pe (dp_var (pv 2))) (DE.pe (de_var (pv 5))) (set_all hu1)))) (dss_cons (ds_expr (de_mut (pe_bm PySem.F.plainAttrs_list PySem.F.slot_list_append PySem.F.type_list_append mt_append (DP.pe (dp_var (pv 4))) (DA.pa (da_cons (de_var (pv 5)) (da_nil)))) mu_append)) (dss_one (ds_set (i := 5) sc_faces.nd rfl (Or.inl rfl) (de_callG G_next_along hgd hr (by decide) (by rfl) (fCons_len (fCons_len (fNil_len))) (da_cons (de_var (pv 0)) (da_cons (de_var (pv 5)) (da_nil))))))))) (dss_one (ds_expr (de_mut (pe_bm PySem.F.plainAttrs_list PySem.F.slot_list_append PySem.F.type_list_append mt_append (DP.pe (dp_var (pv 1))) (DA.pa (da_cons (de_callTy call_tupOf cs_tuple (by rfl) T.b_tuple (by first | rfl | decide +kernel) (da_cons (de_var (pv 4)) (da_nil))) (da_nil)))) mu_append)))))) (dss_nil)))) (dss_one (ds_ret (de_callTy call_tupOf cs_tuple (by rfl) T.b_tuple (by first | rfl | decide +kernel) (da_cons (de_var (pv 1)) (da_nil)))))))
theorem ok_faces {f : Addr} {fd : FuncData} (F : Fun K "faces" "faces" s_faces f fd) (mf : mg "faces" = some (.ref f)) (T : Txt mg) (G_ties_in : DefOk P w K mg base "ties_in" 2 p_ties_in d_ties_in) (G_next_along : DefOk P w K mg base "next_along" 3 p_next_along d_next_along) : DefOk P w K mg base "faces" 4 p_faces d_faces :=
  ⟨f, fd, fn_faces F T G_ties_in G_next_along, mf, F.kp, F.binds (ps := p_faces) fun _ _ _ _ _ _ us hl => match us, hl with | [_], _ => rfl⟩
abbrev s_rim_places : Stmt := top 16
abbrev N_rim_places : List Str := ["web", "rim", "dart"]
abbrev p_rim_places : List Str := ["web", "rim"]
theorem sc_rim_places : FnScope N_rim_places p_rim_places (defScope s_rim_places) := ⟨rfl, rfl, rfl, by decide +kernel, rfl, by decide +kernel, by decide +kernel⟩
theorem fn_rim_places {f : Addr} {fd : FuncData} (F : Fun K "rim_places" "rim_places" s_rim_places f fd) (T : Txt mg) (G_faces : DefOk P w K mg base "faces" 4 p_faces d_faces) (G_place_of : DefOk P w K mg base "place_of" 1 p_place_of d_place_of) : FnD P w K mg base 5 f fd p_rim_places d_rim_places := by
  refine fnD_of (k := 4) (N := N_rim_places) (W := []) (fb := b_rim_places) F sc_rim_places fun cdv A outer s H hgd hr => ?_
  have hu := hr.un
  have hu1 := room_u (n := 1) (k := 4) (u := (A.deeper _).units) (by decide) hu
  have hu40 := room_u (n := 40) (k := 4) (u := (A.deeper _).units) (by decide) hu
  have hu64 := room_u (n := 64) (k := 4) (u := (A.deeper _).units) (by decide) hu
  have hu65 := room_u (n := 65) (k := 4) (u := (A.deeper _).units) (by decide) hu
  exact dss_one (ds_ret (de_callTy call_tupOf cs_tuple (by rfl) T.b_tuple (by first | rfl | decide +kernel) (da_cons (de_setSorted rfl (by rfl) T.b_sorted (by rfl) T.b_set (de_lc (own := [("dart", 2)]) rfl sc_rim_places.nd (di_seq (de_frz (de_sub hu1 (de_callG G_faces hgd hr (by decide) (by rfl) (fCons_len (fNil_len)) (da_cons (de_var (pv 0)) (da_nil))) (de_var (pv 1)) (fun _ _ => rfl)))) (blkOk_by (own := [("dart", 2)]) (N := N_rim_places) (sc := defScope s_rim_places) (by decide +kernel)) (fun _ _ _ _ _ => DG.dy (dg_name (pg_name (i := 2) sc_rim_places.nd rfl (Or.inl rfl)))) (fun _ _ _ _ _ => dts_nil) (fun _ _ _ _ _ => de_callG G_place_of hgd hr (by decide) (by rfl) (fCons_len (fCons_len (fNil_len))) (da_cons (de_var (pv 0)) (da_cons (de_var (pv 2)) (da_nil)))) (by decide))) (da_nil))))
theorem ok_rim_places {f : Addr} {fd : FuncData} (F : Fun K "rim_places" "rim_places" s_rim_places f fd) (mf : mg "rim_places" = some (.ref f)) (T : Txt mg) (G_faces : DefOk P w K mg base "faces" 4 p_faces d_faces) (G_place_of : DefOk P w K mg base "place_of" 1 p_place_of d_place_of) : DefOk P w K mg base "rim_places" 5 p_rim_places d_rim_places :=
  ⟨f, fd, fn_rim_places F T G_faces G_place_of, mf, F.kp, F.binds (ps := p_rim_places) fun _ _ _ _ _ _ us hl => match us, hl with | [_, _], _ => rfl⟩
abbrev s_is_whole : Stmt := top 19
abbrev N_is_whole : List Str := ["thing"]
abbrev p_is_whole : List Str := ["thing"]
theorem sc_is_whole : FnScope N_is_whole p_is_whole (defScope s_is_whole) := ⟨rfl, rfl, rfl, by decide +kernel, rfl, by decide +kernel, by decide +kernel⟩
theorem fn_is_whole {f : Addr} {fd : FuncData} (F : Fun K "is_whole" "is_whole" s_is_whole f fd) (T : Txt mg)  : FnD P w K mg base 1 f fd p_is_whole d_is_whole := by
  refine fnD_of (k := 0) (N := N_is_whole) (W := []) (fb := b_is_whole) F sc_is_whole fun cdv A outer s H hgd hr => ?_
  have hu := hr.un
  have hu1 := room_u (n := 1) (k := 0) (u := (A.deeper _).units) (by decide) hu
  have hu40 := room_u (n := 40) (k := 0) (u := (A.deeper _).units) (by decide) hu
  have hu64 := room_u (n := 64) (k := 0) (u := (A.deeper _).units) (by decide) hu
  have hu65 := room_u (n := 65) (k := 0) (u := (A.deeper _).units) (by decide) hu
  exact dss_one (ds_ret (de_and (de_isi .int (by rfl) T.b_isinstance (by rfl) T.b_int (de_var (pv 0))) (de_one (de_not (de_isi .bool (by rfl) T.b_isinstance (by rfl) T.b_bool (de_var (pv 0)))))))
theorem ok_is_whole {f : Addr} {fd : FuncData} (F : Fun K "is_whole" "is_whole" s_is_whole f fd) (mf : mg "is_whole" = some (.ref f)) (T : Txt mg)  : DefOk P w K mg base "is_whole" 1 p_is_whole d_is_whole :=
  ⟨f, fd, fn_is_whole F T , mf, F.kp, F.binds (ps := p_is_whole) fun _ _ _ _ _ _ us hl => match us, hl with | [_], _ => rfl⟩
abbrev s_off_rim : Stmt := top 20
abbrev N_off_rim : List Str := ["web", "rim", "asks", "places", "number", "ask"]
abbrev p_off_rim : List Str := ["web", "rim", "asks"]
theorem sc_off_rim : FnScope N_off_rim p_off_rim (defScope s_off_rim) := ⟨rfl, rfl, rfl, by decide +kernel, rfl, by decide +kernel, by decide +kernel⟩
theorem fn_off_rim {f : Addr} {fd : FuncData} (F : Fun K "off_rim" "off_rim" s_off_rim f fd) (T : Txt mg) (G_rim_places : DefOk P w K mg base "rim_places" 5 p_rim_places d_rim_places) : FnD P w K mg base 6 f fd p_off_rim d_off_rim := by
  refine fnD_of (k := 5) (N := N_off_rim) (W := [3, 4, 5]) (fb := b_off_rim) F sc_off_rim fun cdv A outer s H hgd hr => ?_
  have hu := hr.un
  have hu1 := room_u (n := 1) (k := 5) (u := (A.deeper _).units) (by decide) hu
  have hu40 := room_u (n := 40) (k := 5) (u := (A.deeper _).units) (by decide) hu
  have hu64 := room_u (n := 64) (k := 5) (u := (A.deeper _).units) (by decide) hu
  have hu65 := room_u (n := 65) (k := 5) (u := (A.deeper _).units) (by decide) hu
  exact dss_cons (ds_set (i := 3) sc_off_rim.nd rfl (Or.inl rfl) (de_callG G_rim_places hgd hr (by decide) (by rfl) (fCons_len (fCons_len (fNil_len))) (da_cons (de_var (pv 0)) (da_cons (de_var (pv 1)) (da_nil))))) (dss_cons (ds_for PassesOwn.never rfl (di_enum (pi_enum (by rfl) T.b_enumerate (DA.pa (da_cons (de_frz (de_var (pv 2))) da_nil))) (pi_count (by rfl) T.b_enumerate (DA.pa (da_cons (de_frz (de_var (pv 2))) da_nil)))) (dy_tup rfl (dgs_cons (dg_name (pg_name (i := 4) sc_off_rim.nd rfl (Or.inl rfl))) (dgs_cons (dg_name (pg_name (i := 5) sc_off_rim.nd rfl (Or.inl rfl))) (dgs_nil)))) (dss_one (ds_if (DW.dt (dw_or (dt_cmp (ox_notIn hu65) o2_notIn (de_sub hu1 (de_var (pv 5)) (de_int) (fun _ _ => rfl)) (de_var (pv 3)) (by rfl)) (dw_or1 (dt_cmp (ox_notIn hu65) o2_notIn (de_sub hu1 (de_var (pv 5)) (de_int) (fun _ _ => rfl)) (de_var (pv 3)) (by rfl))))) (dss_one (ds_ret (de_var (pv 4)))) (dss_nil)))) (dss_one (ds_ret (de_non))))
theorem ok_off_rim {f : Addr} {fd : FuncData} (F : Fun K "off_rim" "off_rim" s_off_rim f fd) (mf : mg "off_rim" = some (.ref f)) (T : Txt mg) (G_rim_places : DefOk P w K mg base "rim_places" 5 p_rim_places d_rim_places) : DefOk P w K mg base "off_rim" 6 p_off_rim d_off_rim :=
  ⟨f, fd, fn_off_rim F T G_rim_places, mf, F.kp, F.binds (ps := p_off_rim) fun _ _ _ _ _ _ us hl => match us, hl with | [_, _, _], _ => rfl⟩
abbrev s_is_parted : Stmt := top 21
abbrev N_is_parted : List Str := ["side", "pair"]
abbrev p_is_parted : List Str := ["side", "pair"]
theorem sc_is_parted : FnScope N_is_parted p_is_parted (defScope s_is_parted) := ⟨rfl, rfl, rfl, by decide +kernel, rfl, by decide +kernel, by decide +kernel⟩
theorem fn_is_parted {f : Addr} {fd : FuncData} (F : Fun K "is_parted" "is_parted" s_is_parted f fd) (T : Txt mg)  : FnD P w K mg base 1 f fd p_is_parted d_is_parted := by
  refine fnD_of (k := 0) (N := N_is_parted) (W := []) (fb := b_is_parted) F sc_is_parted fun cdv A outer s H hgd hr => ?_
  have hu := hr.un
  have hu1 := room_u (n := 1) (k := 0) (u := (A.deeper _).units) (by decide) hu
  have hu40 := room_u (n := 40) (k := 0) (u := (A.deeper _).units) (by decide) hu
  have hu64 := room_u (n := 64) (k := 0) (u := (A.deeper _).units) (by decide) hu
  have hu65 := room_u (n := 65) (k := 0) (u := (A.deeper _).units) (by decide) hu
  exact dss_one (ds_ret (de_cmp (ox_ne hu64) o2_ne (de_cmp (ox_in hu65) o2_in (de_sub hu1 (de_var (pv 1)) (de_int) (fun _ _ => rfl)) (de_var (pv 0)) (by rfl)) (de_cmp (ox_in hu65) o2_in (de_sub hu1 (de_var (pv 1)) (de_int) (fun _ _ => rfl)) (de_var (pv 0)) (by rfl)) (nomark _)))
theorem ok_is_parted {f : Addr} {fd : FuncData} (F : Fun K "is_parted" "is_parted" s_is_parted f fd) (mf : mg "is_parted" = some (.ref f)) (T : Txt mg)  : DefOk P w K mg base "is_parted" 1 p_is_parted d_is_parted :=
  ⟨f, fd, fn_is_parted F T , mf, F.kp, F.binds (ps := p_is_parted) fun _ _ _ _ _ _ us hl => match us, hl with | [_, _], _ => rfl⟩
abbrev s_asks_across : Stmt := top 22
abbrev N_asks_across : List Str := ["asks", "side", "ask"]
abbrev p_asks_across : List Str := ["asks", "side"]
theorem sc_asks_across : FnScope N_asks_across p_asks_across (defScope s_asks_across) := ⟨rfl, rfl, rfl, by decide +kernel, rfl, by decide +kernel, by decide +kernel⟩
theorem fn_asks_across {f : Addr} {fd : FuncData} (F : Fun K "asks_across" "asks_across" s_asks_across f fd) (T : Txt mg) (G_is_parted : DefOk P w K mg base "is_parted" 1 p_is_parted d_is_parted) : FnD P w K mg base 2 f fd p_asks_across d_asks_across := by
  refine fnD_of (k := 1) (N := N_asks_across) (W := []) (fb := b_asks_across) F sc_asks_across fun cdv A outer s H hgd hr => ?_
  have hu := hr.un
  have hu1 := room_u (n := 1) (k := 1) (u := (A.deeper _).units) (by decide) hu
  have hu40 := room_u (n := 40) (k := 1) (u := (A.deeper _).units) (by decide) hu
  have hu64 := room_u (n := 64) (k := 1) (u := (A.deeper _).units) (by decide) hu
  have hu65 := room_u (n := 65) (k := 1) (u := (A.deeper _).units) (by decide) hu
  exact dss_one (ds_ret (de_callB cx_len cs_len (by rfl) T.b_len (by first | rfl | decide +kernel) (da_cons (de_lc (own := [("ask", 2)]) rfl sc_asks_across.nd (di_seq (de_frz (de_var (pv 0)))) (blkOk_by (own := [("ask", 2)]) (N := N_asks_across) (sc := defScope s_asks_across) (by decide +kernel)) (fun _ _ _ _ _ => DG.dy (dg_name (pg_name (i := 2) sc_asks_across.nd rfl (Or.inl rfl)))) (fun _ _ _ _ _ => dts_one (dt_val (de_callG G_is_parted hgd hr (by decide) (by rfl) (fCons_len (fCons_len (fNil_len))) (da_cons (de_var (pv 1)) (da_cons (de_var (pv 2)) (da_nil)))))) (fun _ _ _ _ _ => de_var (pv 2)) (by decide)) (da_nil))))
theorem ok_asks_across {f : Addr} {fd : FuncData} (F : Fun K "asks_across" "asks_across" s_asks_across f fd) (mf : mg "asks_across" = some (.ref f)) (T : Txt mg) (G_is_parted : DefOk P w K mg base "is_parted" 1 p_is_parted d_is_parted) : DefOk P w K mg base "asks_across" 2 p_asks_across d_asks_across :=
  ⟨f, fd, fn_asks_across F T G_is_parted, mf, F.kp, F.binds (ps := p_asks_across) fun _ _ _ _ _ _ us hl => match us, hl with | [_, _], _ => rfl⟩
abbrev s_all_sides : Stmt := top 23
abbrev N_all_sides : List Str := ["many", "found", "place", "side"]
abbrev p_all_sides : List Str := ["many"]
theorem sc_all_sides : FnScope N_all_sides p_all_sides (defScope s_all_sides) := ⟨rfl, rfl, rfl, by decide +kernel, rfl, by decide +kernel, by decide +kernel⟩
theorem fn_all_sides {f : Addr} {fd : FuncData} (F : Fun K "all_sides" "all_sides" s_all_sides f fd) (T : Txt mg)  : FnD P w K mg base 1 f fd p_all_sides d_all_sides := by
  refine fnD_of (k := 0) (N := N_all_sides) (W := [1, 2, 1]) (fb := b_all_sides) F sc_all_sides fun cdv A outer s H hgd hr => ?_
  have hu := hr.un
  have hu1 := room_u (n := 1) (k := 0) (u := (A.deeper _).units) (by decide) hu
  have hu40 := room_u (n := 40) (k := 0) (u := (A.deeper _).units) (by decide) hu
  have hu64 := room_u (n := 64) (k := 0) (u := (A.deeper _).units) (by decide) hu
  have hu65 := room_u (n := 65) (k := 0) (u := (A.deeper _).units) (by decide) hu
  exact dss_cons (ds_set (i := 1) sc_all_sides.nd rfl (Or.inl rfl) (de_lst (da_cons (de_tup (da_nil)) (da_nil)))) (dss_cons (ds_for PassesOwn.never rfl (di_rng2 (by rfl) T.b_range (da_cons (de_int) (da_cons (de_var (pv 0)) (da_nil)))) (DG.dy (dg_name (pg_name (i := 2) sc_all_sides.nd rfl (Or.inr rfl)))) (dss_one (ds_set (i := 1) sc_all_sides.nd rfl (Or.inl rfl) (de_op op_catS o2_catS (de_var (pv 1)) (de_lc (own := [("side", 3)]) rfl sc_all_sides.nd (di_seq (de_frz (de_var (pv 1)))) (blkOk_by (own := [("side", 3)]) (N := N_all_sides) (sc := defScope s_all_sides) (by decide +kernel)) (fun _ _ _ _ _ => DG.dy (dg_name (pg_name (i := 3) sc_all_sides.nd rfl (Or.inl rfl)))) (fun _ _ _ _ _ => dts_nil) (fun _ _ _ _ _ => de_op ox_add o2_add (de_var (pv 3)) (de_tup (da_cons (de_var (pv 2)) (da_nil)))) (by decide)))))) (dss_one (ds_ret (de_callB (cx_sortV hu40) cs_sortV (by rfl) T.b_sorted (by first | rfl | decide +kernel) (da_cons (de_var (pv 1)) (da_nil))))))
theorem ok_all_sides {f : Addr} {fd : FuncData} (F : Fun K "all_sides" "all_sides" s_all_sides f fd) (mf : mg "all_sides" = some (.ref f)) (T : Txt mg)  : DefOk P w K mg base "all_sides" 1 p_all_sides d_all_sides :=
  ⟨f, fd, fn_all_sides F T , mf, F.kp, F.binds (ps := p_all_sides) fun _ _ _ _ _ _ us hl => match us, hl with | [_], _ => rfl⟩
abbrev s_rows_of_spares : Stmt := top 24
abbrev N_rows_of_spares : List Str := ["web", "rooms", "asks", "ends", "found", "side", "left", "pair", "room", "tie"]
abbrev p_rows_of_spares : List Str := ["web", "rooms", "asks"]
theorem sc_rows_of_spares : FnScope N_rows_of_spares p_rows_of_spares (defScope s_rows_of_spares) := ⟨rfl, rfl, rfl, by decide +kernel, rfl, by decide +kernel, by decide +kernel⟩
theorem fn_rows_of_spares {f : Addr} {fd : FuncData} (F : Fun K "rows_of_spares" "rows_of_spares" s_rows_of_spares f fd) (T : Txt mg) (G_all_sides : DefOk P w K mg base "all_sides" 1 p_all_sides d_all_sides) (G_asks_across : DefOk P w K mg base "asks_across" 2 p_asks_across d_asks_across) (G_is_parted : DefOk P w K mg base "is_parted" 1 p_is_parted d_is_parted) (G_ties_in : DefOk P w K mg base "ties_in" 2 p_ties_in d_ties_in) (G_ends_of : DefOk P w K mg base "ends_of" 2 p_ends_of d_ends_of) : FnD P w K mg base 3 f fd p_rows_of_spares d_rows_of_spares := by
  refine fnD_of (k := 2) (N := N_rows_of_spares) (W := [3, 4, 5, 6, 7, 8, 6]) (fb := b_rows_of_spares) F sc_rows_of_spares fun cdv A outer s H hgd hr => ?_
  have hu := hr.un
  have hu1 := room_u (n := 1) (k := 2) (u := (A.deeper _).units) (by decide) hu
  have hu40 := room_u (n := 40) (k := 2) (u := (A.deeper _).units) (by decide) hu
  have hu64 := room_u (n := 64) (k := 2) (u := (A.deeper _).units) (by decide) hu
  have hu65 := room_u (n := 65) (k := 2) (u := (A.deeper _).units) (by decide) hu
  exact dss_cons (ds_setLc (i := 3) (own := [("tie", 9)]) rfl sc_rows_of_spares.nd rfl rfl (sw_true rfl rfl rfl (by decide +kernel)) (di_rng1 (by rfl) T.b_range (da_cons (de_callG G_ties_in hgd hr (by decide) (by rfl) (fCons_len (fNil_len)) (da_cons (de_var (pv 0)) (da_nil))) (da_nil))) (blkOk_by (own := [("tie", 9)]) (N := N_rows_of_spares) (sc := defScope s_rows_of_spares) (by decide +kernel)) (fun _ _ _ _ _ => DG.dy (dg_name (pg_name (i := 9) sc_rows_of_spares.nd rfl (Or.inl rfl)))) (fun _ _ _ _ _ => dts_nil) (fun _ _ _ _ _ => de_callG G_ends_of hgd hr (by decide) (by rfl) (fCons_len (fCons_len (fNil_len))) (da_cons (de_var (pv 0)) (da_cons (de_var (pv 9)) (da_nil)))) (by decide)) (dss_cons (ds_set (i := 4) sc_rows_of_spares.nd rfl (Or.inl rfl) (de_lst (da_nil))) (dss_cons (ds_for PassesOwn.never rfl (di_seq (de_frz (de_callG G_all_sides hgd hr (by decide) (by rfl) (fCons_len (fNil_len)) (da_cons (de_callB cx_len cs_len (by rfl) T.b_len (by first | rfl | decide +kernel) (da_cons (de_var (pv 0)) (da_nil))) (da_nil))))) (DG.dy (dg_name (pg_name (i := 5) sc_rows_of_spares.nd rfl (Or.inl rfl)))) (dss_cons (ds_set (i := 6) sc_rows_of_spares.nd rfl (Or.inl rfl) (de_int)) (dss_cons (ds_for PassesOwn.never rfl (di_zip (by rfl) T.b_zip (da_cons (de_frz (de_var (pv 3))) (da_cons (de_frz (de_var (pv 1))) da_nil))) (dy_tup rfl (dgs_cons (dg_name (pg_name (i := 7) sc_rows_of_spares.nd rfl (Or.inl rfl))) (dgs_cons (dg_name (pg_name (i := 8) sc_rows_of_spares.nd rfl (Or.inl rfl))) (dgs_nil)))) (dss_one (ds_if (dt_val (de_callG G_is_parted hgd hr (by decide) (by rfl) (fCons_len (fCons_len (fNil_len))) (da_cons (de_var (pv 5)) (da_cons (de_var (pv 7)) (da_nil))))) (dss_one (ds_set (i := 6) sc_rows_of_spares.nd rfl (Or.inl rfl) (de_op ox_add o2_add (de_var (pv 6)) (de_var (pv 8))))) (dss_nil)))) (dss_one (ds_expr (de_mut (pe_bm PySem.F.plainAttrs_list PySem.F.slot_list_append PySem.F.type_list_append mt_append (DP.pe (dp_var (pv 4))) (DA.pa (da_cons (de_tup (da_cons (de_op op_sub o2_sub (de_var (pv 6)) (de_callG G_asks_across hgd hr (by decide) (by rfl) (fCons_len (fCons_len (fNil_len))) (da_cons (de_var (pv 2)) (da_cons (de_var (pv 5)) (da_nil))))) (da_cons (de_var (pv 5)) (da_nil)))) (da_nil)))) mu_append)))))) (dss_one (ds_ret (de_var (pv 4))))))
theorem ok_rows_of_spares {f : Addr} {fd : FuncData} (F : Fun K "rows_of_spares" "rows_of_spares" s_rows_of_spares f fd) (mf : mg "rows_of_spares" = some (.ref f)) (T : Txt mg) (G_all_sides : DefOk P w K mg base "all_sides" 1 p_all_sides d_all_sides) (G_asks_across : DefOk P w K mg base "asks_across" 2 p_asks_across d_asks_across) (G_is_parted : DefOk P w K mg base "is_parted" 1 p_is_parted d_is_parted) (G_ties_in : DefOk P w K mg base "ties_in" 2 p_ties_in d_ties_in) (G_ends_of : DefOk P w K mg base "ends_of" 2 p_ends_of d_ends_of) : DefOk P w K mg base "rows_of_spares" 3 p_rows_of_spares d_rows_of_spares :=
  ⟨f, fd, fn_rows_of_spares F T G_all_sides G_asks_across G_is_parted G_ties_in G_ends_of, mf, F.kp, F.binds (ps := p_rows_of_spares) fun _ _ _ _ _ _ us hl => match us, hl with | [_, _, _], _ => rfl⟩
abbrev s_least_spare : Stmt := top 25
abbrev N_least_spare : List Str := ["web", "rooms", "asks"]
abbrev p_least_spare : List Str := ["web", "rooms", "asks"]
theorem sc_least_spare : FnScope N_least_spare p_least_spare (defScope s_least_spare) := ⟨rfl, rfl, rfl, by decide +kernel, rfl, by decide +kernel, by decide +kernel⟩
theorem fn_least_spare {f : Addr} {fd : FuncData} (F : Fun K "least_spare" "least_spare" s_least_spare f fd) (T : Txt mg) (G_rows_of_spares : DefOk P w K mg base "rows_of_spares" 3 p_rows_of_spares d_rows_of_spares) : FnD P w K mg base 4 f fd p_least_spare d_least_spare := by
  refine fnD_of (k := 3) (N := N_least_spare) (W := []) (fb := b_least_spare) F sc_least_spare fun cdv A outer s H hgd hr => ?_
  have hu := hr.un
  have hu1 := room_u (n := 1) (k := 3) (u := (A.deeper _).units) (by decide) hu
  have hu40 := room_u (n := 40) (k := 3) (u := (A.deeper _).units) (by decide) hu
  have hu64 := room_u (n := 64) (k := 3) (u := (A.deeper _).units) (by decide) hu
  have hu65 := room_u (n := 65) (k := 3) (u := (A.deeper _).units) (by decide) hu
  exact dss_cons (ds_if (dt_cmp op_gt (o2_cmp _) (de_callB cx_len cs_len (by rfl) T.b_len (by first | rfl | decide +kernel) (da_cons (de_var (pv 0)) (da_nil))) (de_glob T.g_MOST_PLACES (by rfl)) (nomark _)) (dss_one (ds_never)) (dss_nil)) (dss_cons (ds_if (dt_cmp (ox_eq hu64) o2_eq (de_callB cx_len cs_len (by rfl) T.b_len (by first | rfl | decide +kernel) (da_cons (de_var (pv 0)) (da_nil))) (de_int) (nomark _)) (dss_one (ds_ret (de_tup (da_cons (de_int) (da_cons (de_tup (da_nil)) (da_nil)))))) (dss_nil)) (dss_one (ds_ret (de_callB (cx_minD rfl hu40) cs_minD (by rfl) T.b_min (by first | rfl | decide +kernel) (da_cons (de_cut (de_callG G_rows_of_spares hgd hr (by decide) (by rfl) (fCons_len (fCons_len (fCons_len (fNil_len)))) (da_cons (de_var (pv 0)) (da_cons (de_var (pv 1)) (da_cons (de_var (pv 2)) (da_nil))))) (do_some (de_int)) (do_none)) (da_nil))))))
theorem ok_least_spare {f : Addr} {fd : FuncData} (F : Fun K "least_spare" "least_spare" s_least_spare f fd) (mf : mg "least_spare" = some (.ref f)) (T : Txt mg) (G_rows_of_spares : DefOk P w K mg base "rows_of_spares" 3 p_rows_of_spares d_rows_of_spares) : DefOk P w K mg base "least_spare" 4 p_least_spare d_least_spare :=
  ⟨f, fd, fn_least_spare F T G_rows_of_spares, mf, F.kp, F.binds (ps := p_least_spare) fun _ _ _ _ _ _ us hl => match us, hl with | [_, _, _], _ => rfl⟩
abbrev s_odd_places : Stmt := top 26
abbrev N_odd_places : List Str := ["web", "rooms", "asks", "sums", "tie", "place", "ask"]
abbrev p_odd_places : List Str := ["web", "rooms", "asks"]
theorem sc_odd_places : FnScope N_odd_places p_odd_places (defScope s_odd_places) := ⟨rfl, rfl, rfl, by decide +kernel, rfl, by decide +kernel, by decide +kernel⟩
theorem fn_odd_places {f : Addr} {fd : FuncData} (F : Fun K "odd_places" "odd_places" s_odd_places f fd) (T : Txt mg) (G_ties_in : DefOk P w K mg base "ties_in" 2 p_ties_in d_ties_in) (G_ends_of : DefOk P w K mg base "ends_of" 2 p_ends_of d_ends_of) : FnD P w K mg base 3 f fd p_odd_places d_odd_places := by
  refine fnD_of (k := 2) (N := N_odd_places) (W := [3, 4, 5, 6, 5]) (fb := b_odd_places) F sc_odd_places fun cdv A outer s H hgd hr => ?_
  have hu := hr.un
  have hu1 := room_u (n := 1) (k := 2) (u := (A.deeper _).units) (by decide) hu
  have hu40 := room_u (n := 40) (k := 2) (u := (A.deeper _).units) (by decide) hu
  have hu64 := room_u (n := 64) (k := 2) (u := (A.deeper _).units) (by decide) hu
  have hu65 := room_u (n := 65) (k := 2) (u := (A.deeper _).units) (by decide) hu
  exact dss_cons (ds_set (i := 3) sc_odd_places.nd rfl (Or.inr rfl) (de_op ox_mul o2_mul (de_lst (da_cons (de_int) (da_nil))) (de_callB cx_len cs_len (by rfl) T.b_len (by first | rfl | decide +kernel) (da_cons (de_var (pv 0)) (da_nil))))) (dss_cons (ds_for PassesOwn.never rfl (di_rng1 (by rfl) T.b_range (da_cons (de_callG G_ties_in hgd hr (by decide) (by rfl) (fCons_len (fNil_len)) (da_cons (de_var (pv 0)) (da_nil))) (da_nil))) (DG.dy (dg_name (pg_name (i := 4) sc_odd_places.nd rfl (Or.inl rfl)))) (dss_one (ds_for PassesOwn.never rfl (di_seq (de_frz (de_callG G_ends_of hgd hr (by decide) (by rfl) (fCons_len (fCons_len (fNil_len))) (da_cons (de_var (pv 0)) (da_cons (de_var (pv 4)) (da_nil)))))) (DG.dy (dg_name (pg_name (i := 5) sc_odd_places.nd rfl (Or.inl rfl)))) (dss_one (ds_store (ps_asg (DE.pe (de_op ox_add o2_add (de_sub hu1 (de_var (pv 3)) (de_var (pv 5)) (fun _ _ => rfl)) (de_sub hu1 (de_var (pv 1)) (de_var (pv 4)) (fun _ _ => rfl)))) (pg_sub (DP.pe (dp_var (pv 3))) (DE.pe (de_var (pv 5))) (set_all hu1)))))))) (dss_cons (ds_for PassesOwn.never rfl (di_seq (de_frz (de_var (pv 2)))) (DG.dy (dg_name (pg_name (i := 6) sc_odd_places.nd rfl (Or.inl rfl)))) (dss_one (ds_for PassesOwn.never rfl (di_seq (de_frz (de_var (pv 6)))) (DG.dy (dg_name (pg_name (i := 5) sc_odd_places.nd rfl (Or.inl rfl)))) (dss_one (ds_store (ps_asg (DE.pe (de_op ox_add o2_add (de_sub hu1 (de_var (pv 3)) (de_var (pv 5)) (fun _ _ => rfl)) (de_int))) (pg_sub (DP.pe (dp_var (pv 3))) (DE.pe (de_var (pv 5))) (set_all hu1)))))))) (dss_one (ds_ret (de_callTy call_tupOf cs_tuple (by rfl) T.b_tuple (by first | rfl | decide +kernel) (da_cons (de_lc (own := [("place", 5)]) rfl sc_odd_places.nd (di_rng1 (by rfl) T.b_range (da_cons (de_callB cx_len cs_len (by rfl) T.b_len (by first | rfl | decide +kernel) (da_cons (de_var (pv 0)) (da_nil))) (da_nil))) (blkOk_by (own := [("place", 5)]) (N := N_odd_places) (sc := defScope s_odd_places) (by decide +kernel)) (fun _ _ _ _ _ => DG.dy (dg_name (pg_name (i := 5) sc_odd_places.nd rfl (Or.inl rfl)))) (fun _ _ _ _ _ => dts_one (dt_cmp (ox_eq hu64) o2_eq (de_op op_modN o2_mod (de_sub hu1 (de_var (pv 3)) (de_var (pv 5)) (fun _ _ => rfl)) (de_int)) (de_int) (nomark _))) (fun _ _ _ _ _ => de_var (pv 5)) (by decide)) (da_nil)))))))
theorem ok_odd_places {f : Addr} {fd : FuncData} (F : Fun K "odd_places" "odd_places" s_odd_places f fd) (mf : mg "odd_places" = some (.ref f)) (T : Txt mg) (G_ties_in : DefOk P w K mg base "ties_in" 2 p_ties_in d_ties_in) (G_ends_of : DefOk P w K mg base "ends_of" 2 p_ends_of d_ends_of) : DefOk P w K mg base "odd_places" 3 p_odd_places d_odd_places :=
  ⟨f, fd, fn_odd_places F T G_ties_in G_ends_of, mf, F.kp, F.binds (ps := p_odd_places) fun _ _ _ _ _ _ us hl => match us, hl with | [_, _, _], _ => rfl⟩
abbrev s_ends_of_ties : Stmt := top 28
abbrev N_ends_of_ties : List Str := ["web", "tie"]
abbrev p_ends_of_ties : List Str := ["web"]
theorem sc_ends_of_ties : FnScope N_ends_of_ties p_ends_of_ties (defScope s_ends_of_ties) := ⟨rfl, rfl, rfl, by decide +kernel, rfl, by decide +kernel, by decide +kernel⟩
theorem fn_ends_of_ties {f : Addr} {fd : FuncData} (F : Fun K "ends_of_ties" "ends_of_ties" s_ends_of_ties f fd) (T : Txt mg) (G_ties_in : DefOk P w K mg base "ties_in" 2 p_ties_in d_ties_in) (G_ends_of : DefOk P w K mg base "ends_of" 2 p_ends_of d_ends_of) : FnD P w K mg base 3 f fd p_ends_of_ties d_ends_of_ties := by
  refine fnD_of (k := 2) (N := N_ends_of_ties) (W := []) (fb := b_ends_of_ties) F sc_ends_of_ties fun cdv A outer s H hgd hr => ?_
  have hu := hr.un
  have hu1 := room_u (n := 1) (k := 2) (u := (A.deeper _).units) (by decide) hu
  have hu40 := room_u (n := 40) (k := 2) (u := (A.deeper _).units) (by decide) hu
  have hu64 := room_u (n := 64) (k := 2) (u := (A.deeper _).units) (by decide) hu
  have hu65 := room_u (n := 65) (k := 2) (u := (A.deeper _).units) (by decide) hu
  exact dss_one (ds_ret (de_lc (own := [("tie", 1)]) rfl sc_ends_of_ties.nd (di_rng1 (by rfl) T.b_range (da_cons (de_callG G_ties_in hgd hr (by decide) (by rfl) (fCons_len (fNil_len)) (da_cons (de_var (pv 0)) (da_nil))) (da_nil))) (blkOk_by (own := [("tie", 1)]) (N := N_ends_of_ties) (sc := defScope s_ends_of_ties) (by decide +kernel)) (fun _ _ _ _ _ => DG.dy (dg_name (pg_name (i := 1) sc_ends_of_ties.nd rfl (Or.inl rfl)))) (fun _ _ _ _ _ => dts_nil) (fun _ _ _ _ _ => de_callG G_ends_of hgd hr (by decide) (by rfl) (fCons_len (fCons_len (fNil_len))) (da_cons (de_var (pv 0)) (da_cons (de_var (pv 1)) (da_nil)))) (by decide)))
theorem ok_ends_of_ties {f : Addr} {fd : FuncData} (F : Fun K "ends_of_ties" "ends_of_ties" s_ends_of_ties f fd) (mf : mg "ends_of_ties" = some (.ref f)) (T : Txt mg) (G_ties_in : DefOk P w K mg base "ties_in" 2 p_ties_in d_ties_in) (G_ends_of : DefOk P w K mg base "ends_of" 2 p_ends_of d_ends_of) : DefOk P w K mg base "ends_of_ties" 3 p_ends_of_ties d_ends_of_ties :=
  ⟨f, fd, fn_ends_of_ties F T G_ties_in G_ends_of, mf, F.kp, F.binds (ps := p_ends_of_ties) fun _ _ _ _ _ _ us hl => match us, hl with | [_], _ => rfl⟩
abbrev s_far_by_ends : Stmt := top 29
abbrev N_far_by_ends : List Str := ["many", "ends", "lengths", "one", "far", "came", "is_turned", "dart", "here", "there", "more"]
abbrev p_far_by_ends : List Str := ["many", "ends", "lengths", "one"]
theorem sc_far_by_ends : FnScope N_far_by_ends p_far_by_ends (defScope s_far_by_ends) := ⟨rfl, rfl, rfl, by decide +kernel, rfl, by decide +kernel, by decide +kernel⟩
theorem fn_far_by_ends {f : Addr} {fd : FuncData} (F : Fun K "far_by_ends" "far_by_ends" s_far_by_ends f fd) (T : Txt mg)  : FnD P w K mg base 1 f fd p_far_by_ends d_far_by_ends := by
  refine fnD_of (k := 0) (N := N_far_by_ends) (W := [4, 5, 6, 6, 7, 8, 9, 10, 6]) (fb := b_far_by_ends) F sc_far_by_ends fun cdv A outer s H hgd hr => ?_
  have hu := hr.un
  have hu1 := room_u (n := 1) (k := 0) (u := (A.deeper _).units) (by decide) hu
  have hu40 := room_u (n := 40) (k := 0) (u := (A.deeper _).units) (by decide) hu
  have hu64 := room_u (n := 64) (k := 0) (u := (A.deeper _).units) (by decide) hu
  have hu65 := room_u (n := 65) (k := 0) (u := (A.deeper _).units) (by decide) hu
  exact dss_cons (ds_set (i := 4) sc_far_by_ends.nd rfl (Or.inl rfl) (de_op ox_mul o2_mul (de_lst (da_cons (de_non) (da_nil))) (de_var (pv 0)))) (dss_cons (ds_set (i := 5) sc_far_by_ends.nd rfl (Or.inl rfl) (de_op ox_mul o2_mul (de_lst (da_cons (de_non) (da_nil))) (de_var (pv 0)))) (dss_cons (ds_store (ps_asg (DE.pe (de_int)) (pg_sub (DP.pe (dp_var (pv 4))) (DE.pe (de_var (pv 3))) (set_all hu1)))) (dss_cons (ds_set (i := 6) sc_far_by_ends.nd rfl (Or.inl rfl) (de_bl)) (dss_cons (ds_while fuel PassesOwn.never (dt_val (de_var (pv 6))) (dss_cons (ds_set (i := 6) sc_far_by_ends.nd rfl (Or.inl rfl) (de_bl)) (dss_one (ds_for PassesOwn.never rfl (di_rng1 (by rfl) T.b_range (da_cons (de_op ox_mul o2_mul (de_int) (de_callB cx_len cs_len (by rfl) T.b_len (by first | rfl | decide +kernel) (da_cons (de_var (pv 1)) (da_nil)))) (da_nil))) (DG.dy (dg_name (pg_name (i := 7) sc_far_by_ends.nd rfl (Or.inl rfl)))) (dss_cons (ds_par (ps_par (i := 8) (j := 9) rfl sc_far_by_ends.nd rfl rfl (by decide) rfl rfl (DA.pa (da_cons (de_sub hu1 (de_sub hu1 (de_var (pv 1)) (de_op op_fdivN o2_div (de_var (pv 7)) (de_int)) (fun _ _ => rfl)) (de_op op_modN o2_mod (de_var (pv 7)) (de_int)) (fun _ _ => rfl)) (da_cons (de_sub hu1 (de_sub hu1 (de_var (pv 1)) (de_op op_fdivN o2_div (de_var (pv 7)) (de_int)) (fun _ _ => rfl)) (de_op op_sub o2_sub (de_int) (de_op op_modN o2_mod (de_var (pv 7)) (de_int))) (fun _ _ => rfl)) (da_nil)))) (by rfl))) (dss_one (ds_if (dt_cmp op_notN o2_isNotN (de_sub hu1 (de_var (pv 4)) (de_var (pv 8)) (fun _ _ => rfl)) (de_non) (nomark _)) (dss_cons (ds_set (i := 10) sc_far_by_ends.nd rfl (Or.inl rfl) (de_op ox_add o2_add (de_sub hu1 (de_var (pv 4)) (de_var (pv 8)) (fun _ _ => rfl)) (de_sub hu1 (de_var (pv 2)) (de_op op_fdivN o2_div (de_var (pv 7)) (de_int)) (fun _ _ => rfl)))) (dss_one (ds_if (DW.dt (dw_or (dt_cmp op_isN o2_isN (de_sub hu1 (de_var (pv 4)) (de_var (pv 9)) (fun _ _ => rfl)) (de_non) (nomark _)) (dw_or1 (dt_cmp op_lt (o2_cmp _) (de_var (pv 10)) (de_sub hu1 (de_var (pv 4)) (de_var (pv 9)) (fun _ _ => rfl)) (nomark _))))) (dss_cons (ds_store (ps_asg (DE.pe (de_var (pv 10))) (pg_sub (DP.pe (dp_var (pv 4))) (DE.pe (de_var (pv 9))) (set_all hu1)))) (dss_cons (ds_store (ps_asg (DE.pe (de_var (pv 7))) (pg_sub (DP.pe (dp_var (pv 5))) (DE.pe (de_var (pv 9))) (set_all hu1)))) (dss_one (ds_set (i := 6) sc_far_by_ends.nd rfl (Or.inl rfl) (de_bl))))) (dss_nil)))) (dss_nil)))))))) (dss_one (ds_ret (de_tup (da_cons (de_var (pv 4)) (da_cons (de_var (pv 5)) (da_nil))))))))))
theorem ok_far_by_ends {f : Addr} {fd : FuncData} (F : Fun K "far_by_ends" "far_by_ends" s_far_by_ends f fd) (mf : mg "far_by_ends" = some (.ref f)) (T : Txt mg)  : DefOk P w K mg base "far_by_ends" 1 p_far_by_ends d_far_by_ends :=
  ⟨f, fd, fn_far_by_ends F T , mf, F.kp, F.binds (ps := p_far_by_ends) fun _ _ _ _ _ _ us hl => match us, hl with | [_, _, _, _], _ => rfl⟩
abbrev s_distances : Stmt := top 30
abbrev N_distances : List Str := ["web", "lengths", "ends", "one"]
abbrev p_distances : List Str := ["web", "lengths"]
theorem sc_distances : FnScope N_distances p_distances (defScope s_distances) := ⟨rfl, rfl, rfl, by decide +kernel, rfl, by decide +kernel, by decide +kernel⟩
theorem fn_distances {f : Addr} {fd : FuncData} (F : Fun K "distances" "distances" s_distances f fd) (T : Txt mg) (G_far_by_ends : DefOk P w K mg base "far_by_ends" 1 p_far_by_ends d_far_by_ends) (G_ends_of_ties : DefOk P w K mg base "ends_of_ties" 3 p_ends_of_ties d_ends_of_ties) : FnD P w K mg base 4 f fd p_distances d_distances := by
  refine fnD_of (k := 3) (N := N_distances) (W := [2]) (fb := b_distances) F sc_distances fun cdv A outer s H hgd hr => ?_
  have hu := hr.un
  have hu1 := room_u (n := 1) (k := 3) (u := (A.deeper _).units) (by decide) hu
  have hu40 := room_u (n := 40) (k := 3) (u := (A.deeper _).units) (by decide) hu
  have hu64 := room_u (n := 64) (k := 3) (u := (A.deeper _).units) (by decide) hu
  have hu65 := room_u (n := 65) (k := 3) (u := (A.deeper _).units) (by decide) hu
  exact dss_cons (ds_set (i := 2) sc_distances.nd rfl (Or.inr rfl) (de_callG G_ends_of_ties hgd hr (by decide) (by rfl) (fCons_len (fNil_len)) (da_cons (de_var (pv 0)) (da_nil)))) (dss_one (ds_ret (de_callTy call_tupOf cs_tuple (by rfl) T.b_tuple (by first | rfl | decide +kernel) (da_cons (de_lc (own := [("one", 3)]) rfl sc_distances.nd (di_rng1 (by rfl) T.b_range (da_cons (de_callB cx_len cs_len (by rfl) T.b_len (by first | rfl | decide +kernel) (da_cons (de_var (pv 0)) (da_nil))) (da_nil))) (blkOk_by (own := [("one", 3)]) (N := N_distances) (sc := defScope s_distances) (by decide +kernel)) (fun _ _ _ _ _ => DG.dy (dg_name (pg_name (i := 3) sc_distances.nd rfl (Or.inl rfl)))) (fun _ _ _ _ _ => dts_nil) (fun _ _ _ _ _ => de_callTy call_tupOf cs_tuple (by rfl) T.b_tuple (by first | rfl | decide +kernel) (da_cons (de_sub hu1 (de_frz (de_callG G_far_by_ends hgd hr (by decide) (by rfl) (fCons_len (fCons_len (fCons_len (fCons_len (fNil_len))))) (da_cons (de_callB cx_len cs_len (by rfl) T.b_len (by first | rfl | decide +kernel) (da_cons (de_var (pv 0)) (da_nil))) (da_cons (de_var (pv 2)) (da_cons (de_var (pv 1)) (da_cons (de_var (pv 3)) (da_nil))))))) (de_int) (fun _ _ => rfl)) (da_nil))) (by decide)) (da_nil)))))
theorem ok_distances {f : Addr} {fd : FuncData} (F : Fun K "distances" "distances" s_distances f fd) (mf : mg "distances" = some (.ref f)) (T : Txt mg) (G_far_by_ends : DefOk P w K mg base "far_by_ends" 1 p_far_by_ends d_far_by_ends) (G_ends_of_ties : DefOk P w K mg base "ends_of_ties" 3 p_ends_of_ties d_ends_of_ties) : DefOk P w K mg base "distances" 4 p_distances d_distances :=
  ⟨f, fd, fn_distances F T G_far_by_ends G_ends_of_ties, mf, F.kp, F.binds (ps := p_distances) fun _ _ _ _ _ _ us hl => match us, hl with | [_, _], _ => rfl⟩
abbrev s_are_numbers : Stmt := top 33
abbrev N_are_numbers : List Str := ["thing", "many", "one"]
abbrev p_are_numbers : List Str := ["thing", "many"]
theorem sc_are_numbers : FnScope N_are_numbers p_are_numbers (defScope s_are_numbers) := ⟨rfl, rfl, rfl, by decide +kernel, rfl, by decide +kernel, by decide +kernel⟩
theorem fn_are_numbers {f : Addr} {fd : FuncData} (F : Fun K "are_numbers" "are_numbers" s_are_numbers f fd) (T : Txt mg) (G_is_whole : DefOk P w K mg base "is_whole" 1 p_is_whole d_is_whole) : FnD P w K mg base 2 f fd p_are_numbers d_are_numbers := by
  refine fnD_of (k := 1) (N := N_are_numbers) (W := []) (fb := b_are_numbers) F sc_are_numbers fun cdv A outer s H hgd hr => ?_
  have hu := hr.un
  have hu1 := room_u (n := 1) (k := 1) (u := (A.deeper _).units) (by decide) hu
  have hu40 := room_u (n := 40) (k := 1) (u := (A.deeper _).units) (by decide) hu
  have hu64 := room_u (n := 64) (k := 1) (u := (A.deeper _).units) (by decide) hu
  have hu65 := room_u (n := 65) (k := 1) (u := (A.deeper _).units) (by decide) hu
  exact dss_one (ds_ret (de_and (de_isi .tuple (by rfl) T.b_isinstance (by rfl) T.b_tuple (de_var (pv 0))) (de_and (de_cmp (ox_eq hu64) o2_eq (de_callB cx_len cs_len (by rfl) T.b_len (by first | rfl | decide +kernel) (da_cons (de_var (pv 0)) (da_nil))) (de_var (pv 1)) (nomark _)) (de_one (de_callB (cr_all rfl) cs_all (by rfl) T.b_all (by first | rfl | decide +kernel) (da_cons (de_lc (own := [("one", 2)]) rfl sc_are_numbers.nd (di_seq (de_frz (de_var (pv 0)))) (blkOk_by (own := [("one", 2)]) (N := N_are_numbers) (sc := defScope s_are_numbers) (by decide +kernel)) (fun _ _ _ _ _ => DG.dy (dg_name (pg_name (i := 2) sc_are_numbers.nd rfl (Or.inl rfl)))) (fun _ _ _ _ _ => dts_nil) (fun _ _ _ _ _ => de_callG G_is_whole hgd hr (by decide) (by rfl) (fCons_len (fNil_len)) (da_cons (de_var (pv 2)) (da_nil))) (by decide)) (da_nil)))))))
theorem ok_are_numbers {f : Addr} {fd : FuncData} (F : Fun K "are_numbers" "are_numbers" s_are_numbers f fd) (mf : mg "are_numbers" = some (.ref f)) (T : Txt mg) (G_is_whole : DefOk P w K mg base "is_whole" 1 p_is_whole d_is_whole) : DefOk P w K mg base "are_numbers" 2 p_are_numbers d_are_numbers :=
  ⟨f, fd, fn_are_numbers F T G_is_whole, mf, F.kp, F.binds (ps := p_are_numbers) fun _ _ _ _ _ _ us hl => match us, hl with | [_, _], _ => rfl⟩
abbrev s_is_lengths_paper : Stmt := top 34
abbrev N_is_lengths_paper : List Str := ["web", "asks", "thing", "lengths", "heights", "row", "one"]
abbrev p_is_lengths_paper : List Str := ["web", "asks", "thing"]
theorem sc_is_lengths_paper : FnScope N_is_lengths_paper p_is_lengths_paper (defScope s_is_lengths_paper) := ⟨rfl, rfl, rfl, by decide +kernel, rfl, by decide +kernel, by decide +kernel⟩
theorem fn_is_lengths_paper {f : Addr} {fd : FuncData} (F : Fun K "is_lengths_paper" "is_lengths_paper" s_is_lengths_paper f fd) (T : Txt mg) (G_are_numbers : DefOk P w K mg base "are_numbers" 2 p_are_numbers d_are_numbers) (G_ties_in : DefOk P w K mg base "ties_in" 2 p_ties_in d_ties_in) : FnD P w K mg base 3 f fd p_is_lengths_paper d_is_lengths_paper := by
  refine fnD_of (k := 2) (N := N_is_lengths_paper) (W := [3, 4]) (fb := b_is_lengths_paper) F sc_is_lengths_paper fun cdv A outer s H hgd hr => ?_
  have hu := hr.un
  have hu1 := room_u (n := 1) (k := 2) (u := (A.deeper _).units) (by decide) hu
  have hu40 := room_u (n := 40) (k := 2) (u := (A.deeper _).units) (by decide) hu
  have hu64 := room_u (n := 64) (k := 2) (u := (A.deeper _).units) (by decide) hu
  have hu65 := room_u (n := 65) (k := 2) (u := (A.deeper _).units) (by decide) hu
  exact dss_cons (ds_if (DW.dt (dw_or (dt_not (dt_val (de_isi .tuple (by rfl) T.b_isinstance (by rfl) T.b_tuple (de_var (pv 2))))) (dw_or1 (dt_cmp (ox_ne hu64) o2_ne (de_callB cx_len cs_len (by rfl) T.b_len (by first | rfl | decide +kernel) (da_cons (de_var (pv 2)) (da_nil))) (de_int) (nomark _))))) (dss_one (ds_ret (de_bl))) (dss_nil)) (dss_cons (ds_asg (de_var (pv 2)) (dg_tup rfl (dgs_cons (dg_name (pg_name (i := 3) sc_is_lengths_paper.nd rfl (Or.inl rfl))) (dgs_cons (dg_name (pg_name (i := 4) sc_is_lengths_paper.nd rfl (Or.inl rfl))) (dgs_nil))))) (dss_cons (ds_if (DW.dt (dw_or (dt_not (dt_val (de_callG G_are_numbers hgd hr (by decide) (by rfl) (fCons_len (fCons_len (fNil_len))) (da_cons (de_var (pv 3)) (da_cons (de_callG G_ties_in hgd hr (by decide) (by rfl) (fCons_len (fNil_len)) (da_cons (de_var (pv 0)) (da_nil))) (da_nil)))))) (dw_or1 (dt_not (dt_val (de_callB (cr_all rfl) cs_all (by rfl) T.b_all (by first | rfl | decide +kernel) (da_cons (de_lc (own := [("one", 6)]) rfl sc_is_lengths_paper.nd (di_seq (de_frz (de_var (pv 3)))) (blkOk_by (own := [("one", 6)]) (N := N_is_lengths_paper) (sc := defScope s_is_lengths_paper) (by decide +kernel)) (fun _ _ _ _ _ => DG.dy (dg_name (pg_name (i := 6) sc_is_lengths_paper.nd rfl (Or.inl rfl)))) (fun _ _ _ _ _ => dts_nil) (fun _ _ _ _ _ => de_chain op_le op_le (de_int) (de_var (pv 6)) (de_glob T.g_MOST_LENGTH (by rfl))) (by decide)) (da_nil)))))))) (dss_one (ds_ret (de_bl))) (dss_nil)) (dss_cons (ds_if (DW.dt (dw_or (dt_not (dt_val (de_isi .tuple (by rfl) T.b_isinstance (by rfl) T.b_tuple (de_var (pv 4))))) (dw_or1 (dt_cmp (ox_ne hu64) o2_ne (de_callB cx_len cs_len (by rfl) T.b_len (by first | rfl | decide +kernel) (da_cons (de_var (pv 4)) (da_nil))) (de_callB cx_len cs_len (by rfl) T.b_len (by first | rfl | decide +kernel) (da_cons (de_var (pv 1)) (da_nil))) (nomark _))))) (dss_one (ds_ret (de_bl))) (dss_nil)) (dss_one (ds_ret (de_callB (cr_all rfl) cs_all (by rfl) T.b_all (by first | rfl | decide +kernel) (da_cons (de_lc (own := [("row", 5)]) rfl sc_is_lengths_paper.nd (di_seq (de_frz (de_var (pv 4)))) (blkOk_by (own := [("row", 5)]) (N := N_is_lengths_paper) (sc := defScope s_is_lengths_paper) (by decide +kernel)) (fun _ _ _ _ _ => DG.dy (dg_name (pg_name (i := 5) sc_is_lengths_paper.nd rfl (Or.inl rfl)))) (fun _ _ _ _ _ => dts_nil) (fun _ _ _ _ _ => de_callG G_are_numbers hgd hr (by decide) (by rfl) (fCons_len (fCons_len (fNil_len))) (da_cons (de_var (pv 5)) (da_cons (de_callB cx_len cs_len (by rfl) T.b_len (by first | rfl | decide +kernel) (da_cons (de_var (pv 0)) (da_nil))) (da_nil)))) (by decide)) (da_nil))))))))
theorem ok_is_lengths_paper {f : Addr} {fd : FuncData} (F : Fun K "is_lengths_paper" "is_lengths_paper" s_is_lengths_paper f fd) (mf : mg "is_lengths_paper" = some (.ref f)) (T : Txt mg) (G_are_numbers : DefOk P w K mg base "are_numbers" 2 p_are_numbers d_are_numbers) (G_ties_in : DefOk P w K mg base "ties_in" 2 p_ties_in d_ties_in) : DefOk P w K mg base "is_lengths_paper" 3 p_is_lengths_paper d_is_lengths_paper :=
  ⟨f, fd, fn_is_lengths_paper F T G_are_numbers G_ties_in, mf, F.kp, F.binds (ps := p_is_lengths_paper) fun _ _ _ _ _ _ us hl => match us, hl with | [_, _, _], _ => rfl⟩
abbrev s_is_steep : Stmt := top 35
abbrev N_is_steep : List Str := ["web", "lengths", "row", "tie", "length", "ends"]
abbrev p_is_steep : List Str := ["web", "lengths", "row"]
theorem sc_is_steep : FnScope N_is_steep p_is_steep (defScope s_is_steep) := ⟨rfl, rfl, rfl, by decide +kernel, rfl, by decide +kernel, by decide +kernel⟩
theorem fn_is_steep {f : Addr} {fd : FuncData} (F : Fun K "is_steep" "is_steep" s_is_steep f fd) (T : Txt mg) (G_ends_of : DefOk P w K mg base "ends_of" 2 p_ends_of d_ends_of) : FnD P w K mg base 3 f fd p_is_steep d_is_steep := by
  refine fnD_of (k := 2) (N := N_is_steep) (W := [3, 4, 5]) (fb := b_is_steep) F sc_is_steep fun cdv A outer s H hgd hr => ?_
  have hu := hr.un
  have hu1 := room_u (n := 1) (k := 2) (u := (A.deeper _).units) (by decide) hu
  have hu40 := room_u (n := 40) (k := 2) (u := (A.deeper _).units) (by decide) hu
  have hu64 := room_u (n := 64) (k := 2) (u := (A.deeper _).units) (by decide) hu
  have hu65 := room_u (n := 65) (k := 2) (u := (A.deeper _).units) (by decide) hu
  exact dss_cons (ds_for PassesOwn.never rfl (di_enum (pi_enum (by rfl) T.b_enumerate (DA.pa (da_cons (de_frz (de_var (pv 1))) da_nil))) (pi_count (by rfl) T.b_enumerate (DA.pa (da_cons (de_frz (de_var (pv 1))) da_nil)))) (dy_tup rfl (dgs_cons (dg_name (pg_name (i := 3) sc_is_steep.nd rfl (Or.inl rfl))) (dgs_cons (dg_name (pg_name (i := 4) sc_is_steep.nd rfl (Or.inl rfl))) (dgs_nil)))) (dss_cons (ds_set (i := 5) sc_is_steep.nd rfl (Or.inl rfl) (de_callG G_ends_of hgd hr (by decide) (by rfl) (fCons_len (fCons_len (fNil_len))) (da_cons (de_var (pv 0)) (da_cons (de_var (pv 3)) (da_nil))))) (dss_one (ds_if (dt_cmp op_gt (o2_cmp _) (de_callB call_abs cs_abs (by rfl) T.b_abs (by first | rfl | decide +kernel) (da_cons (de_op op_sub o2_sub (de_sub hu1 (de_var (pv 2)) (de_sub hu1 (de_var (pv 5)) (de_int) (fun _ _ => rfl)) (fun _ _ => rfl)) (de_sub hu1 (de_var (pv 2)) (de_sub hu1 (de_var (pv 5)) (de_int) (fun _ _ => rfl)) (fun _ _ => rfl))) (da_nil))) (de_var (pv 4)) (nomark _)) (dss_one (ds_ret (de_bl))) (dss_nil))))) (dss_one (ds_ret (de_bl)))
theorem ok_is_steep {f : Addr} {fd : FuncData} (F : Fun K "is_steep" "is_steep" s_is_steep f fd) (mf : mg "is_steep" = some (.ref f)) (T : Txt mg) (G_ends_of : DefOk P w K mg base "ends_of" 2 p_ends_of d_ends_of) : DefOk P w K mg base "is_steep" 3 p_is_steep d_is_steep :=
  ⟨f, fd, fn_is_steep F T G_ends_of, mf, F.kp, F.binds (ps := p_is_steep) fun _ _ _ _ _ _ us hl => match us, hl with | [_, _, _], _ => rfl⟩
abbrev s_lets_lengths : Stmt := top 36
abbrev N_lets_lengths : List Str := ["web", "rooms", "asks", "thing", "lengths", "heights", "number", "row", "left", "ask", "room", "length"]
abbrev p_lets_lengths : List Str := ["web", "rooms", "asks", "thing"]
theorem sc_lets_lengths : FnScope N_lets_lengths p_lets_lengths (defScope s_lets_lengths) := ⟨rfl, rfl, rfl, by decide +kernel, rfl, by decide +kernel, by decide +kernel⟩
theorem fn_lets_lengths {f : Addr} {fd : FuncData} (F : Fun K "lets_lengths" "lets_lengths" s_lets_lengths f fd) (T : Txt mg) (G_is_steep : DefOk P w K mg base "is_steep" 3 p_is_steep d_is_steep) (G_is_lengths_paper : DefOk P w K mg base "is_lengths_paper" 3 p_is_lengths_paper d_is_lengths_paper) : FnD P w K mg base 4 f fd p_lets_lengths d_lets_lengths := by
  refine fnD_of (k := 3) (N := N_lets_lengths) (W := [4, 5, 6, 7, 8, 9, 7, 8]) (fb := b_lets_lengths) F sc_lets_lengths fun cdv A outer s H hgd hr => ?_
  have hu := hr.un
  have hu1 := room_u (n := 1) (k := 3) (u := (A.deeper _).units) (by decide) hu
  have hu40 := room_u (n := 40) (k := 3) (u := (A.deeper _).units) (by decide) hu
  have hu64 := room_u (n := 64) (k := 3) (u := (A.deeper _).units) (by decide) hu
  have hu65 := room_u (n := 65) (k := 3) (u := (A.deeper _).units) (by decide) hu
  exact dss_cons (ds_if (dt_not (dt_val (de_callG G_is_lengths_paper hgd hr (by decide) (by rfl) (fCons_len (fCons_len (fCons_len (fNil_len)))) (da_cons (de_var (pv 0)) (da_cons (de_var (pv 2)) (da_cons (de_var (pv 3)) (da_nil))))))) (dss_one (ds_never)) (dss_nil)) (dss_cons (ds_asg (de_var (pv 3)) (dg_tup rfl (dgs_cons (dg_name (pg_name (i := 4) sc_lets_lengths.nd rfl (Or.inl rfl))) (dgs_cons (dg_name (pg_name (i := 5) sc_lets_lengths.nd rfl (Or.inl rfl))) (dgs_nil))))) (dss_cons (ds_for PassesOwn.never rfl (di_enum (pi_enum (by rfl) T.b_enumerate (DA.pa (da_cons (de_frz (de_var (pv 5))) da_nil))) (pi_count (by rfl) T.b_enumerate (DA.pa (da_cons (de_frz (de_var (pv 5))) da_nil)))) (dy_tup rfl (dgs_cons (dg_name (pg_name (i := 6) sc_lets_lengths.nd rfl (Or.inl rfl))) (dgs_cons (dg_name (pg_name (i := 7) sc_lets_lengths.nd rfl (Or.inl rfl))) (dgs_nil)))) (dss_one (ds_if (dt_val (de_callG G_is_steep hgd hr (by decide) (by rfl) (fCons_len (fCons_len (fCons_len (fNil_len)))) (da_cons (de_var (pv 0)) (da_cons (de_var (pv 4)) (da_cons (de_var (pv 7)) (da_nil)))))) (dss_one (ds_never)) (dss_nil)))) (dss_cons (ds_set (i := 8) sc_lets_lengths.nd rfl (Or.inl rfl) (de_callB (cr_sum rfl) cs_sum (by rfl) T.b_sum (by first | rfl | decide +kernel) (da_cons (de_lc (own := [("room", 10), ("length", 11)]) rfl sc_lets_lengths.nd (di_zip (by rfl) T.b_zip (da_cons (de_frz (de_var (pv 1))) (da_cons (de_frz (de_var (pv 4))) da_nil))) (blkOk_by (own := [("room", 10), ("length", 11)]) (N := N_lets_lengths) (sc := defScope s_lets_lengths) (by decide +kernel)) (fun _ _ _ _ _ => dy_tup rfl (dgs_cons (dg_name (pg_name (i := 10) sc_lets_lengths.nd rfl (Or.inl rfl))) (dgs_cons (dg_name (pg_name (i := 11) sc_lets_lengths.nd rfl (Or.inl rfl))) (dgs_nil)))) (fun _ _ _ _ _ => dts_nil) (fun _ _ _ _ _ => de_op ox_mul o2_mul (de_var (pv 10)) (de_var (pv 11))) (by decide)) (da_nil)))) (dss_cons (ds_for PassesOwn.never rfl (di_zip (by rfl) T.b_zip (da_cons (de_frz (de_var (pv 2))) (da_cons (de_frz (de_var (pv 5))) da_nil))) (dy_tup rfl (dgs_cons (dg_name (pg_name (i := 9) sc_lets_lengths.nd rfl (Or.inl rfl))) (dgs_cons (dg_name (pg_name (i := 7) sc_lets_lengths.nd rfl (Or.inl rfl))) (dgs_nil)))) (dss_one (ds_set (i := 8) sc_lets_lengths.nd rfl (Or.inl rfl) (de_op ox_add o2_add (de_op op_sub o2_sub (de_var (pv 8)) (de_sub hu1 (de_var (pv 7)) (de_sub hu1 (de_var (pv 9)) (de_int) (fun _ _ => rfl)) (fun _ _ => rfl))) (de_sub hu1 (de_var (pv 7)) (de_sub hu1 (de_var (pv 9)) (de_int) (fun _ _ => rfl)) (fun _ _ => rfl)))))) (dss_cons (ds_if (dt_cmp op_ge (o2_cmp _) (de_var (pv 8)) (de_int) (nomark _)) (dss_one (ds_never)) (dss_nil)) (dss_one (ds_ret (de_bl))))))))
theorem ok_lets_lengths {f : Addr} {fd : FuncData} (F : Fun K "lets_lengths" "lets_lengths" s_lets_lengths f fd) (mf : mg "lets_lengths" = some (.ref f)) (T : Txt mg) (G_is_steep : DefOk P w K mg base "is_steep" 3 p_is_steep d_is_steep) (G_is_lengths_paper : DefOk P w K mg base "is_lengths_paper" 3 p_is_lengths_paper d_is_lengths_paper) : DefOk P w K mg base "lets_lengths" 4 p_lets_lengths d_lets_lengths :=
  ⟨f, fd, fn_lets_lengths F T G_is_steep G_is_lengths_paper, mf, F.kp, F.binds (ps := p_lets_lengths) fun _ _ _ _ _ _ us hl => match us, hl with | [_, _, _, _], _ => rfl⟩
abbrev s_lengths_paper : Stmt := top 37
abbrev N_lengths_paper : List Str := ["web", "asks", "lengths", "rows", "ask"]
abbrev p_lengths_paper : List Str := ["web", "asks", "lengths"]
theorem sc_lengths_paper : FnScope N_lengths_paper p_lengths_paper (defScope s_lengths_paper) := ⟨rfl, rfl, rfl, by decide +kernel, rfl, by decide +kernel, by decide +kernel⟩
theorem fn_lengths_paper {f : Addr} {fd : FuncData} (F : Fun K "lengths_paper" "lengths_paper" s_lengths_paper f fd) (T : Txt mg) (G_distances : DefOk P w K mg base "distances" 4 p_distances d_distances) : FnD P w K mg base 5 f fd p_lengths_paper d_lengths_paper := by
  refine fnD_of (k := 4) (N := N_lengths_paper) (W := [3]) (fb := b_lengths_paper) F sc_lengths_paper fun cdv A outer s H hgd hr => ?_
  have hu := hr.un
  have hu1 := room_u (n := 1) (k := 4) (u := (A.deeper _).units) (by decide) hu
  have hu40 := room_u (n := 40) (k := 4) (u := (A.deeper _).units) (by decide) hu
  have hu64 := room_u (n := 64) (k := 4) (u := (A.deeper _).units) (by decide) hu
  have hu65 := room_u (n := 65) (k := 4) (u := (A.deeper _).units) (by decide) hu
  exact dss_cons (ds_set (i := 3) sc_lengths_paper.nd rfl (Or.inr rfl) (de_callG G_distances hgd hr (by decide) (by rfl) (fCons_len (fCons_len (fNil_len))) (da_cons (de_var (pv 0)) (da_cons (de_var (pv 2)) (da_nil))))) (dss_one (ds_ret (de_tup (da_cons (de_callTy call_tupOf cs_tuple (by rfl) T.b_tuple (by first | rfl | decide +kernel) (da_cons (de_var (pv 2)) (da_nil))) (da_cons (de_callTy call_tupOf cs_tuple (by rfl) T.b_tuple (by first | rfl | decide +kernel) (da_cons (de_lc (own := [("ask", 4)]) rfl sc_lengths_paper.nd (di_seq (de_frz (de_var (pv 1)))) (blkOk_by (own := [("ask", 4)]) (N := N_lengths_paper) (sc := defScope s_lengths_paper) (by decide +kernel)) (fun _ _ _ _ _ => DG.dy (dg_name (pg_name (i := 4) sc_lengths_paper.nd rfl (Or.inl rfl)))) (fun _ _ _ _ _ => dts_nil) (fun _ _ _ _ _ => de_sub hu1 (de_var (pv 3)) (de_sub hu1 (de_var (pv 4)) (de_int) (fun _ _ => rfl)) (fun _ _ => rfl)) (by decide)) (da_nil))) (da_nil))))))
theorem ok_lengths_paper {f : Addr} {fd : FuncData} (F : Fun K "lengths_paper" "lengths_paper" s_lengths_paper f fd) (mf : mg "lengths_paper" = some (.ref f)) (T : Txt mg) (G_distances : DefOk P w K mg base "distances" 4 p_distances d_distances) : DefOk P w K mg base "lengths_paper" 5 p_lengths_paper d_lengths_paper :=
  ⟨f, fd, fn_lengths_paper F T G_distances, mf, F.kp, F.binds (ps := p_lengths_paper) fun _ _ _ _ _ _ us hl => match us, hl with | [_, _, _], _ => rfl⟩
abbrev s__law_tape : Stmt := top 39
abbrev N__law_tape : List Str := ["_law_script"]
abbrev p__law_tape : List Str := ["_law_script"]
theorem sc__law_tape : FnScope N__law_tape p__law_tape (defScope s__law_tape) := ⟨rfl, rfl, rfl, by decide +kernel, rfl, by decide +kernel, by decide +kernel⟩
theorem fn__law_tape {f : Addr} {fd : FuncData} (F : Fun K "_law_tape" "_law_tape" s__law_tape f fd) (T : Txt mg)  : FnD P w K mg base 1 f fd p__law_tape d__law_tape := by
  refine fnD_of (k := 0) (N := N__law_tape) (W := []) (fb := b__law_tape) F sc__law_tape fun cdv A outer s H hgd hr => ?_
  have hu := hr.un
  have hu1 := room_u (n := 1) (k := 0) (u := (A.deeper _).units) (by decide) hu
  have hu40 := room_u (n := 40) (k := 0) (u := (A.deeper _).units) (by decide) hu
  have hu64 := room_u (n := 64) (k := 0) (u := (A.deeper _).units) (by decide) hu
  have hu65 := room_u (n := 65) (k := 0) (u := (A.deeper _).units) (by decide) hu
  exact dss_one (ds_ret (de_lst (da_cons (de_frz (de_callTy call_list_of cs_list (by rfl) T.b_list (by first | rfl | decide +kernel) (da_cons (de_frz (de_cut (de_var (pv 0)) (do_none) (do_some (de_int)))) (da_nil)))) (da_cons (de_int) (da_cons (de_int) (da_cons (de_int) (da_nil)))))))
theorem ok__law_tape {f : Addr} {fd : FuncData} (F : Fun K "_law_tape" "_law_tape" s__law_tape f fd) (mf : mg "_law_tape" = some (.ref f)) (T : Txt mg)  : DefOk P w K mg base "_law_tape" 1 p__law_tape d__law_tape :=
  ⟨f, fd, fn__law_tape F T , mf, F.kp, F.binds (ps := p__law_tape) fun _ _ _ _ _ _ us hl => match us, hl with | [_], _ => rfl⟩
abbrev s__law_draw : Stmt := top 40
abbrev N__law_draw : List Str := ["_law_tape_here", "_law_many", "_law_found", "_law_cell", "_law_mixed"]
abbrev p__law_draw : List Str := ["_law_tape_here", "_law_many"]
theorem sc__law_draw : FnScope N__law_draw p__law_draw (defScope s__law_draw) := ⟨rfl, rfl, rfl, by decide +kernel, rfl, by decide +kernel, by decide +kernel⟩
theorem fn__law_draw {f : Addr} {fd : FuncData} (F : Fun K "_law_draw" "_law_draw" s__law_draw f fd) (T : Txt mg)  : FnD P w K mg base 1 f fd p__law_draw d__law_draw := by
  refine fnD_of (k := 0) (N := N__law_draw) (W := [2, 3, 3, 4, 4]) (fb := b__law_draw) F sc__law_draw fun cdv A outer s H hgd hr => ?_
  have hu := hr.un
  have hu1 := room_u (n := 1) (k := 0) (u := (A.deeper _).units) (by decide) hu
  have hu40 := room_u (n := 40) (k := 0) (u := (A.deeper _).units) (by decide) hu
  have hu64 := room_u (n := 64) (k := 0) (u := (A.deeper _).units) (by decide) hu
  have hu65 := room_u (n := 65) (k := 0) (u := (A.deeper _).units) (by decide) hu
  exact dss_cons (ds_store (ps_asg (DE.pe (de_op ox_add o2_add (de_sub hu1 (de_var (pv 0)) (de_int) (fun _ _ => rfl)) (de_int))) (pg_sub (DP.pe (dp_var (pv 0))) (DE.pe (de_int)) (set_all hu1)))) (dss_cons (ds_if (dt_cmp op_gt (o2_cmp _) (de_sub hu1 (de_var (pv 0)) (de_int) (fun _ _ => rfl)) (de_int) (nomark _)) (dss_cons (ds_set (i := 2) sc__law_draw.nd rfl (Or.inl rfl) (de_op op_modN o2_mod (de_sub hu1 (de_var (pv 0)) (de_int) (fun _ _ => rfl)) (de_var (pv 1)))) (dss_cons (ds_store (ps_asg (DE.pe (de_op op_fdivN o2_div (de_sub hu1 (de_var (pv 0)) (de_int) (fun _ _ => rfl)) (de_var (pv 1)))) (pg_sub (DP.pe (dp_var (pv 0))) (DE.pe (de_int)) (set_all hu1)))) (dss_one (ds_ret (de_var (pv 2)))))) (dss_nil)) (dss_cons (ds_set (i := 3) sc__law_draw.nd rfl (Or.inl rfl) (de_int)) (dss_cons (ds_if (dt_cmp (ox_ne hu64) o2_ne (de_sub hu1 (de_var (pv 0)) (de_int) (fun _ _ => rfl)) (de_lst (da_nil)) (nomark _)) (dss_one (ds_set (i := 3) sc__law_draw.nd rfl (Or.inl rfl) (de_sub hu1 (de_sub hu1 (de_var (pv 0)) (de_int) (fun _ _ => rfl)) (de_op op_modN o2_mod (de_sub hu1 (de_var (pv 0)) (de_int) (fun _ _ => rfl)) (de_callB cx_len cs_len (by rfl) T.b_len (by first | rfl | decide +kernel) (da_cons (de_sub hu1 (de_var (pv 0)) (de_int) (fun _ _ => rfl)) (da_nil)))) (fun _ _ => rfl)))) (dss_nil)) (dss_cons (ds_store (ps_asg (DE.pe (de_op ox_add o2_add (de_sub hu1 (de_var (pv 0)) (de_int) (fun _ _ => rfl)) (de_int))) (pg_sub (DP.pe (dp_var (pv 0))) (DE.pe (de_int)) (set_all hu1)))) (dss_cons (ds_if (DW.dt (dw_and (dt_cmp op_ge (o2_cmp _) (de_var (pv 3)) (de_op op_pow o2_pow (de_int) (de_int)) (nomark _)) (dw_and1 (dt_cmp op_le (o2_cmp _) (de_sub hu1 (de_var (pv 0)) (de_int) (fun _ _ => rfl)) (de_callB cx_len cs_len (by rfl) T.b_len (by first | rfl | decide +kernel) (da_cons (de_sub hu1 (de_var (pv 0)) (de_int) (fun _ _ => rfl)) (da_nil))) (nomark _))))) (dss_cons (ds_store (ps_asg (DE.pe (de_op op_fdivN o2_div (de_var (pv 3)) (de_var (pv 1)))) (pg_sub (DP.pe (dp_var (pv 0))) (DE.pe (de_int)) (set_all hu1)))) (dss_one (ds_ret (de_op op_modN o2_mod (de_var (pv 3)) (de_var (pv 1)))))) (dss_nil)) (dss_cons (ds_set (i := 4) sc__law_draw.nd rfl (Or.inl rfl) (de_op op_modN o2_mod (de_op ox_add o2_add (de_op ox_add o2_add (de_op ox_mul o2_mul (de_op op_modN o2_mod (de_var (pv 3)) (de_int)) (de_op ox_add o2_add (de_op ox_mul o2_mul (de_int) (de_sub hu1 (de_var (pv 0)) (de_int) (fun _ _ => rfl))) (de_int))) (de_op ox_mul o2_mul (de_int) (de_sub hu1 (de_var (pv 0)) (de_int) (fun _ _ => rfl)))) (de_int)) (de_int))) (dss_cons (ds_set (i := 4) sc__law_draw.nd rfl (Or.inl rfl) (de_op op_modN o2_mod (de_op op_pow o2_pow (de_var (pv 4)) (de_int)) (de_int))) (dss_one (ds_ret (de_op op_modN o2_mod (de_op op_fdivN o2_div (de_var (pv 4)) (de_int)) (de_var (pv 1))))))))))))
theorem ok__law_draw {f : Addr} {fd : FuncData} (F : Fun K "_law_draw" "_law_draw" s__law_draw f fd) (mf : mg "_law_draw" = some (.ref f)) (T : Txt mg)  : DefOk P w K mg base "_law_draw" 1 p__law_draw d__law_draw :=
  ⟨f, fd, fn__law_draw F T , mf, F.kp, F.binds (ps := p__law_draw) fun _ _ _ _ _ _ us hl => match us, hl with | [_, _], _ => rfl⟩
abbrev s__law_other : Stmt := top 41
abbrev N__law_other : List Str := ["_law_dart"]
abbrev p__law_other : List Str := ["_law_dart"]
theorem sc__law_other : FnScope N__law_other p__law_other (defScope s__law_other) := ⟨rfl, rfl, rfl, by decide +kernel, rfl, by decide +kernel, by decide +kernel⟩
theorem fn__law_other {f : Addr} {fd : FuncData} (F : Fun K "_law_other" "_law_other" s__law_other f fd) (T : Txt mg)  : FnD P w K mg base 1 f fd p__law_other d__law_other := by
  refine fnD_of (k := 0) (N := N__law_other) (W := []) (fb := b__law_other) F sc__law_other fun cdv A outer s H hgd hr => ?_
  have hu := hr.un
  have hu1 := room_u (n := 1) (k := 0) (u := (A.deeper _).units) (by decide) hu
  have hu40 := room_u (n := 40) (k := 0) (u := (A.deeper _).units) (by decide) hu
  have hu64 := room_u (n := 64) (k := 0) (u := (A.deeper _).units) (by decide) hu
  have hu65 := room_u (n := 65) (k := 0) (u := (A.deeper _).units) (by decide) hu
  exact dss_one (ds_ret (de_op op_sub o2_sub (de_op ox_add o2_add (de_var (pv 0)) (de_int)) (de_op ox_mul o2_mul (de_int) (de_op op_modN o2_mod (de_var (pv 0)) (de_int)))))
theorem ok__law_other {f : Addr} {fd : FuncData} (F : Fun K "_law_other" "_law_other" s__law_other f fd) (mf : mg "_law_other" = some (.ref f)) (T : Txt mg)  : DefOk P w K mg base "_law_other" 1 p__law_other d__law_other :=
  ⟨f, fd, fn__law_other F T , mf, F.kp, F.binds (ps := p__law_other) fun _ _ _ _ _ _ us hl => match us, hl with | [_], _ => rfl⟩
abbrev s__law_spots : Stmt := top 42
abbrev N__law_spots : List Str := ["_law_web", "_law_found", "_law_place", "_law_dart"]
abbrev p__law_spots : List Str := ["_law_web"]
theorem sc__law_spots : FnScope N__law_spots p__law_spots (defScope s__law_spots) := ⟨rfl, rfl, rfl, by decide +kernel, rfl, by decide +kernel, by decide +kernel⟩
theorem fn__law_spots {f : Addr} {fd : FuncData} (F : Fun K "_law_spots" "_law_spots" s__law_spots f fd) (T : Txt mg)  : FnD P w K mg base 1 f fd p__law_spots d__law_spots := by
  refine fnD_of (k := 0) (N := N__law_spots) (W := [1, 2, 3]) (fb := b__law_spots) F sc__law_spots fun cdv A outer s H hgd hr => ?_
  have hu := hr.un
  have hu1 := room_u (n := 1) (k := 0) (u := (A.deeper _).units) (by decide) hu
  have hu40 := room_u (n := 40) (k := 0) (u := (A.deeper _).units) (by decide) hu
  have hu64 := room_u (n := 64) (k := 0) (u := (A.deeper _).units) (by decide) hu
  have hu65 := room_u (n := 65) (k := 0) (u := (A.deeper _).units) (by decide) hu
  exact dss_cons (ds_set (i := 1) sc__law_spots.nd rfl (Or.inl rfl) (de_dic0)) (dss_cons (ds_for PassesOwn.never rfl (di_rng1 (by rfl) T.b_range (da_cons (de_callB cx_len cs_len (by rfl) T.b_len (by first | rfl | decide +kernel) (da_cons (de_var (pv 0)) (da_nil))) (da_nil))) (DG.dy (dg_name (pg_name (i := 2) sc__law_spots.nd rfl (Or.inl rfl)))) (dss_one (ds_for PassesOwn.never rfl (di_seq (de_frz (de_sub hu1 (de_var (pv 0)) (de_var (pv 2)) (fun _ _ => rfl)))) (DG.dy (dg_name (pg_name (i := 3) sc__law_spots.nd rfl (Or.inl rfl)))) (dss_one (ds_store (ps_asg (DE.pe (de_var (pv 2))) (pg_sub (DP.pe (dp_var (pv 1))) (DE.pe (de_var (pv 3))) (set_all hu1)))))))) (dss_one (ds_ret (de_var (pv 1)))))
theorem ok__law_spots {f : Addr} {fd : FuncData} (F : Fun K "_law_spots" "_law_spots" s__law_spots f fd) (mf : mg "_law_spots" = some (.ref f)) (T : Txt mg)  : DefOk P w K mg base "_law_spots" 1 p__law_spots d__law_spots :=
  ⟨f, fd, fn__law_spots F T , mf, F.kp, F.binds (ps := p__law_spots) fun _ _ _ _ _ _ us hl => match us, hl with | [_], _ => rfl⟩
abbrev s__law_along : Stmt := top 43
abbrev N__law_along : List Str := ["_law_web", "_law_dart", "_law_row", "_law_at"]
abbrev p__law_along : List Str := ["_law_web", "_law_dart"]
theorem sc__law_along : FnScope N__law_along p__law_along (defScope s__law_along) := ⟨rfl, rfl, rfl, by decide +kernel, rfl, by decide +kernel, by decide +kernel⟩
theorem fn__law_along {f : Addr} {fd : FuncData} (F : Fun K "_law_along" "_law_along" s__law_along f fd) (T : Txt mg) (G__law_other : DefOk P w K mg base "_law_other" 1 p__law_other d__law_other) : FnD P w K mg base 2 f fd p__law_along d__law_along := by
  refine fnD_of (k := 1) (N := N__law_along) (W := [2, 3]) (fb := b__law_along) F sc__law_along fun cdv A outer s H hgd hr => ?_
  have hu := hr.un
  have hu1 := room_u (n := 1) (k := 1) (u := (A.deeper _).units) (by decide) hu
  have hu40 := room_u (n := 40) (k := 1) (u := (A.deeper _).units) (by decide) hu
  have hu64 := room_u (n := 64) (k := 1) (u := (A.deeper _).units) (by decide) hu
  have hu65 := room_u (n := 65) (k := 1) (u := (A.deeper _).units) (by decide) hu
  exact dss_cons (ds_forN PassesOwn.never rfl (pv 0) (pg_name (i := 2) sc__law_along.nd rfl (Or.inl rfl)) (dss_one (ds_if (dt_cmp (ox_in hu65) o2_in (de_callG G__law_other hgd hr (by decide) (by rfl) (fCons_len (fNil_len)) (da_cons (de_var (pv 1)) (da_nil))) (de_var (pv 2)) (by rfl)) (dss_cons (ds_set (i := 3) sc__law_along.nd rfl (Or.inl rfl) (de_index (pe_bm PySem.F.plainAttrs_list PySem.F.slot_list_index PySem.F.type_list_index (mt_indexD hu65) (DE.pe (de_callTy call_list_of cs_list (by rfl) T.b_list (by first | rfl | decide +kernel) (da_cons (de_var (pv 2)) (da_nil)))) (DA.pa (da_cons (de_callG G__law_other hgd hr (by decide) (by rfl) (fCons_len (fNil_len)) (da_cons (de_var (pv 1)) (da_nil))) (da_nil)))) (pe_tm PySem.F.slot_tuple_index PySem.F.type_tuple_index mt_tidx (DE.pe (de_callTy call_list_of cs_list (by rfl) T.b_list (by first | rfl | decide +kernel) (da_cons (de_var (pv 2)) (da_nil)))) (DA.pa (da_cons (de_callG G__law_other hgd hr (by decide) (by rfl) (fCons_len (fNil_len)) (da_cons (de_var (pv 1)) (da_nil))) (da_nil)))))) (dss_one (ds_ret (de_sub hu1 (de_var (pv 2)) (de_op op_modN o2_mod (de_op ox_add o2_add (de_var (pv 3)) (de_int)) (de_callB cx_len cs_len (by rfl) T.b_len (by first | rfl | decide +kernel) (da_cons (de_var (pv 2)) (da_nil)))) (fun _ _ => rfl))))) (dss_nil))) (by decide) (by decide) (by decide)) (dss_one (ds_ret (de_var (pv 1))))
theorem ok__law_along {f : Addr} {fd : FuncData} (F : Fun K "_law_along" "_law_along" s__law_along f fd) (mf : mg "_law_along" = some (.ref f)) (T : Txt mg) (G__law_other : DefOk P w K mg base "_law_other" 1 p__law_other d__law_other) : DefOk P w K mg base "_law_along" 2 p__law_along d__law_along :=
  ⟨f, fd, fn__law_along F T G__law_other, mf, F.kp, F.binds (ps := p__law_along) fun _ _ _ _ _ _ us hl => match us, hl with | [_, _], _ => rfl⟩
abbrev s__law_ties : Stmt := top 44
abbrev N__law_ties : List Str := ["_law_web", "_law_row"]
abbrev p__law_ties : List Str := ["_law_web"]
theorem sc__law_ties : FnScope N__law_ties p__law_ties (defScope s__law_ties) := ⟨rfl, rfl, rfl, by decide +kernel, rfl, by decide +kernel, by decide +kernel⟩
theorem fn__law_ties {f : Addr} {fd : FuncData} (F : Fun K "_law_ties" "_law_ties" s__law_ties f fd) (T : Txt mg)  : FnD P w K mg base 1 f fd p__law_ties d__law_ties := by
  refine fnD_of (k := 0) (N := N__law_ties) (W := []) (fb := b__law_ties) F sc__law_ties fun cdv A outer s H hgd hr => ?_
  have hu := hr.un
  have hu1 := room_u (n := 1) (k := 0) (u := (A.deeper _).units) (by decide) hu
  have hu40 := room_u (n := 40) (k := 0) (u := (A.deeper _).units) (by decide) hu
  have hu64 := room_u (n := 64) (k := 0) (u := (A.deeper _).units) (by decide) hu
  have hu65 := room_u (n := 65) (k := 0) (u := (A.deeper _).units) (by decide) hu
  exact dss_one (ds_ret (de_op op_fdivN o2_div (de_callB (cr_sum rfl) cs_sum (by rfl) T.b_sum (by first | rfl | decide +kernel) (da_cons (de_lc (own := [("_law_row", 1)]) rfl sc__law_ties.nd (di_seq (de_frz (de_var (pv 0)))) (blkOk_by (own := [("_law_row", 1)]) (N := N__law_ties) (sc := defScope s__law_ties) (by decide +kernel)) (fun _ _ _ _ _ => DG.dy (dg_name (pg_name (i := 1) sc__law_ties.nd rfl (Or.inl rfl)))) (fun _ _ _ _ _ => dts_nil) (fun _ _ _ _ _ => de_callB cx_len cs_len (by rfl) T.b_len (by first | rfl | decide +kernel) (da_cons (de_var (pv 1)) (da_nil))) (by decide)) (da_nil))) (de_int)))
theorem ok__law_ties {f : Addr} {fd : FuncData} (F : Fun K "_law_ties" "_law_ties" s__law_ties f fd) (mf : mg "_law_ties" = some (.ref f)) (T : Txt mg)  : DefOk P w K mg base "_law_ties" 1 p__law_ties d__law_ties :=
  ⟨f, fd, fn__law_ties F T , mf, F.kp, F.binds (ps := p__law_ties) fun _ _ _ _ _ _ us hl => match us, hl with | [_], _ => rfl⟩
abbrev s__law_ends : Stmt := top 45
abbrev N__law_ends : List Str := ["_law_web", "_law_spots_here", "_law_tie"]
abbrev p__law_ends : List Str := ["_law_web"]
theorem sc__law_ends : FnScope N__law_ends p__law_ends (defScope s__law_ends) := ⟨rfl, rfl, rfl, by decide +kernel, rfl, by decide +kernel, by decide +kernel⟩
theorem fn__law_ends {f : Addr} {fd : FuncData} (F : Fun K "_law_ends" "_law_ends" s__law_ends f fd) (T : Txt mg) (G__law_ties : DefOk P w K mg base "_law_ties" 1 p__law_ties d__law_ties) (G__law_spots : DefOk P w K mg base "_law_spots" 1 p__law_spots d__law_spots) : FnD P w K mg base 2 f fd p__law_ends d__law_ends := by
  refine fnD_of (k := 1) (N := N__law_ends) (W := [1]) (fb := b__law_ends) F sc__law_ends fun cdv A outer s H hgd hr => ?_
  have hu := hr.un
  have hu1 := room_u (n := 1) (k := 1) (u := (A.deeper _).units) (by decide) hu
  have hu40 := room_u (n := 40) (k := 1) (u := (A.deeper _).units) (by decide) hu
  have hu64 := room_u (n := 64) (k := 1) (u := (A.deeper _).units) (by decide) hu
  have hu65 := room_u (n := 65) (k := 1) (u := (A.deeper _).units) (by decide) hu
  exact dss_cons (ds_set (i := 1) sc__law_ends.nd rfl (Or.inr rfl) (de_callG G__law_spots hgd hr (by decide) (by rfl) (fCons_len (fNil_len)) (da_cons (de_var (pv 0)) (da_nil)))) (dss_one (ds_ret (de_lc (own := [("_law_tie", 2)]) rfl sc__law_ends.nd (di_rng1 (by rfl) T.b_range (da_cons (de_callG G__law_ties hgd hr (by decide) (by rfl) (fCons_len (fNil_len)) (da_cons (de_var (pv 0)) (da_nil))) (da_nil))) (blkOk_by (own := [("_law_tie", 2)]) (N := N__law_ends) (sc := defScope s__law_ends) (by decide +kernel)) (fun _ _ _ _ _ => DG.dy (dg_name (pg_name (i := 2) sc__law_ends.nd rfl (Or.inl rfl)))) (fun _ _ _ _ _ => dts_nil) (fun _ _ _ _ _ => de_tup (da_cons (de_sub hu1 (de_var (pv 1)) (de_op ox_mul o2_mul (de_int) (de_var (pv 2))) (fun _ _ => rfl)) (da_cons (de_sub hu1 (de_var (pv 1)) (de_op ox_add o2_add (de_op ox_mul o2_mul (de_int) (de_var (pv 2))) (de_int)) (fun _ _ => rfl)) (da_nil)))) (by decide))))
theorem ok__law_ends {f : Addr} {fd : FuncData} (F : Fun K "_law_ends" "_law_ends" s__law_ends f fd) (mf : mg "_law_ends" = some (.ref f)) (T : Txt mg) (G__law_ties : DefOk P w K mg base "_law_ties" 1 p__law_ties d__law_ties) (G__law_spots : DefOk P w K mg base "_law_spots" 1 p__law_spots d__law_spots) : DefOk P w K mg base "_law_ends" 2 p__law_ends d__law_ends :=
  ⟨f, fd, fn__law_ends F T G__law_ties G__law_spots, mf, F.kp, F.binds (ps := p__law_ends) fun _ _ _ _ _ _ us hl => match us, hl with | [_], _ => rfl⟩
abbrev s__law_faces : Stmt := top 46
abbrev N__law_faces : List Str := ["_law_web", "_law_found", "_law_met", "_law_dart", "_law_row"]
abbrev p__law_faces : List Str := ["_law_web"]
theorem sc__law_faces : FnScope N__law_faces p__law_faces (defScope s__law_faces) := ⟨rfl, rfl, rfl, by decide +kernel, rfl, by decide +kernel, by decide +kernel⟩
theorem fn__law_faces {f : Addr} {fd : FuncData} (F : Fun K "_law_faces" "_law_faces" s__law_faces f fd) (T : Txt mg) (G__law_ties : DefOk P w K mg base "_law_ties" 1 p__law_ties d__law_ties) (G__law_along : DefOk P w K mg base "_law_along" 2 p__law_along d__law_along) : FnD P w K mg base 3 f fd p__law_faces d__law_faces := by
  refine fnD_of (k := 2) (N := N__law_faces) (W := [1, 2, 3, 4]) (fb := b__law_faces) F sc__law_faces fun cdv A outer s H hgd hr => ?_
  have hu := hr.un
  have hu1 := room_u (n := 1) (k := 2) (u := (A.deeper _).units) (by decide) hu
  have hu40 := room_u (n := 40) (k := 2) (u := (A.deeper _).units) (by decide) hu
  have hu64 := room_u (n := 64) (k := 2) (u := (A.deeper _).units) (by decide) hu
  have hu65 := room_u (n := 65) (k := 2) (u := (A.deeper _).units) (by decide) hu
  exact dss_cons (ds_set (i := 1) sc__law_faces.nd rfl (Or.inl rfl) (de_lst (da_nil))) (dss_cons (ds_set (i := 2) sc__law_faces.nd rfl (Or.inl rfl) (de_lst (da_nil))) (dss_cons (ds_for PassesOwn.never rfl (di_rng1 (by rfl) T.b_range (da_cons (de_op ox_mul o2_mul (de_int) (de_callG G__law_ties hgd hr (by decide) (by rfl) (fCons_len (fNil_len)) (da_cons (de_var (pv 0)) (da_nil)))) (da_nil))) (DG.dy (dg_name (pg_name (i := 3) sc__law_faces.nd rfl (Or.inl rfl)))) (dss_one (ds_if (dt_cmp (ox_notIn hu65) o2_notIn (de_var (pv 3)) (de_var (pv 2)) (by rfl)) (dss_cons (ds_set (i := 4) sc__law_faces.nd rfl (Or.inl rfl) (de_lst (da_cons (de_var (pv 3)) (da_nil)))) (dss_cons (ds_while fuel PassesOwn.never (dt_cmp (ox_ne hu64) o2_ne (de_callG G__law_along hgd hr (by decide) (by rfl) (fCons_len (fCons_len (fNil_len))) (da_cons (de_var (pv 0)) (da_cons (de_sub hu1 (de_var (pv 4)) (de_neg (de_int)) (fun _ _ => rfl)) (da_nil)))) (de_var (pv 3)) (nomark _)) (dss_one (ds_expr (de_mut (pe_bm PySem.F.plainAttrs_list PySem.F.slot_list_append PySem.F.type_list_append mt_append (DP.pe (dp_var (pv 4))) (DA.pa (da_cons (de_callG G__law_along hgd hr (by decide) (by rfl) (fCons_len (fCons_len (fNil_len))) (da_cons (de_var (pv 0)) (da_cons (de_sub hu1 (de_var (pv 4)) (de_neg (de_int)) (fun _ _ => rfl)) (da_nil)))) (da_nil)))) mu_append)))) (dss_cons (ds_expr (de_extV (pe_bm PySem.F.plainAttrs_list PySem.F.slot_list_extend PySem.F.type_list_extend mt_extend (DP.pe (dp_var (pv 2))) (DA.pa (da_cons (de_var (pv 4)) (da_nil)))))) (dss_one (ds_expr (de_mut (pe_bm PySem.F.plainAttrs_list PySem.F.slot_list_append PySem.F.type_list_append mt_append (DP.pe (dp_var (pv 1))) (DA.pa (da_cons (de_var (pv 4)) (da_nil)))) mu_append)))))) (dss_nil)))) (dss_one (ds_ret (de_var (pv 1))))))
theorem ok__law_faces {f : Addr} {fd : FuncData} (F : Fun K "_law_faces" "_law_faces" s__law_faces f fd) (mf : mg "_law_faces" = some (.ref f)) (T : Txt mg) (G__law_ties : DefOk P w K mg base "_law_ties" 1 p__law_ties d__law_ties) (G__law_along : DefOk P w K mg base "_law_along" 2 p__law_along d__law_along) : DefOk P w K mg base "_law_faces" 3 p__law_faces d__law_faces :=
  ⟨f, fd, fn__law_faces F T G__law_ties G__law_along, mf, F.kp, F.binds (ps := p__law_faces) fun _ _ _ _ _ _ us hl => match us, hl with | [_], _ => rfl⟩
abbrev s__law_parts : Stmt := top 47
abbrev N__law_parts : List Str := ["_law_side", "_law_pair"]
abbrev p__law_parts : List Str := ["_law_side", "_law_pair"]
theorem sc__law_parts : FnScope N__law_parts p__law_parts (defScope s__law_parts) := ⟨rfl, rfl, rfl, by decide +kernel, rfl, by decide +kernel, by decide +kernel⟩
theorem fn__law_parts {f : Addr} {fd : FuncData} (F : Fun K "_law_parts" "_law_parts" s__law_parts f fd) (T : Txt mg)  : FnD P w K mg base 1 f fd p__law_parts d__law_parts := by
  refine fnD_of (k := 0) (N := N__law_parts) (W := []) (fb := b__law_parts) F sc__law_parts fun cdv A outer s H hgd hr => ?_
  have hu := hr.un
  have hu1 := room_u (n := 1) (k := 0) (u := (A.deeper _).units) (by decide) hu
  have hu40 := room_u (n := 40) (k := 0) (u := (A.deeper _).units) (by decide) hu
  have hu64 := room_u (n := 64) (k := 0) (u := (A.deeper _).units) (by decide) hu
  have hu65 := room_u (n := 65) (k := 0) (u := (A.deeper _).units) (by decide) hu
  exact dss_one (ds_ret (de_cmp (ox_ne hu64) o2_ne (de_cmp (ox_in hu65) o2_in (de_sub hu1 (de_var (pv 1)) (de_int) (fun _ _ => rfl)) (de_var (pv 0)) (by rfl)) (de_cmp (ox_in hu65) o2_in (de_sub hu1 (de_var (pv 1)) (de_int) (fun _ _ => rfl)) (de_var (pv 0)) (by rfl)) (nomark _)))
theorem ok__law_parts {f : Addr} {fd : FuncData} (F : Fun K "_law_parts" "_law_parts" s__law_parts f fd) (mf : mg "_law_parts" = some (.ref f)) (T : Txt mg)  : DefOk P w K mg base "_law_parts" 1 p__law_parts d__law_parts :=
  ⟨f, fd, fn__law_parts F T , mf, F.kp, F.binds (ps := p__law_parts) fun _ _ _ _ _ _ us hl => match us, hl with | [_, _], _ => rfl⟩
abbrev s__law_room : Stmt := top 48
abbrev N__law_room : List Str := ["_law_web", "_law_rooms", "_law_side", "_law_found", "_law_pair", "_law_room_here"]
abbrev p__law_room : List Str := ["_law_web", "_law_rooms", "_law_side"]
theorem sc__law_room : FnScope N__law_room p__law_room (defScope s__law_room) := ⟨rfl, rfl, rfl, by decide +kernel, rfl, by decide +kernel, by decide +kernel⟩
theorem fn__law_room {f : Addr} {fd : FuncData} (F : Fun K "_law_room" "_law_room" s__law_room f fd) (T : Txt mg) (G__law_ends : DefOk P w K mg base "_law_ends" 2 p__law_ends d__law_ends) (G__law_parts : DefOk P w K mg base "_law_parts" 1 p__law_parts d__law_parts) : FnD P w K mg base 3 f fd p__law_room d__law_room := by
  refine fnD_of (k := 2) (N := N__law_room) (W := [3, 4, 5, 3]) (fb := b__law_room) F sc__law_room fun cdv A outer s H hgd hr => ?_
  have hu := hr.un
  have hu1 := room_u (n := 1) (k := 2) (u := (A.deeper _).units) (by decide) hu
  have hu40 := room_u (n := 40) (k := 2) (u := (A.deeper _).units) (by decide) hu
  have hu64 := room_u (n := 64) (k := 2) (u := (A.deeper _).units) (by decide) hu
  have hu65 := room_u (n := 65) (k := 2) (u := (A.deeper _).units) (by decide) hu
  exact dss_cons (ds_set (i := 3) sc__law_room.nd rfl (Or.inl rfl) (de_int)) (dss_cons (ds_for PassesOwn.never rfl (di_zip (by rfl) T.b_zip (da_cons (de_frz (de_callG G__law_ends hgd hr (by decide) (by rfl) (fCons_len (fNil_len)) (da_cons (de_var (pv 0)) (da_nil)))) (da_cons (de_frz (de_var (pv 1))) da_nil))) (dy_tup rfl (dgs_cons (dg_name (pg_name (i := 4) sc__law_room.nd rfl (Or.inl rfl))) (dgs_cons (dg_name (pg_name (i := 5) sc__law_room.nd rfl (Or.inl rfl))) (dgs_nil)))) (dss_one (ds_set (i := 3) sc__law_room.nd rfl (Or.inl rfl) (de_op ox_add o2_add (de_var (pv 3)) (de_op ox_mul o2_mul (de_var (pv 5)) (de_callTy call_int1 cs_int (by rfl) T.b_int (by first | rfl | decide +kernel) (da_cons (de_callG G__law_parts hgd hr (by decide) (by rfl) (fCons_len (fCons_len (fNil_len))) (da_cons (de_var (pv 2)) (da_cons (de_var (pv 4)) (da_nil)))) (da_nil)))))))) (dss_one (ds_ret (de_var (pv 3)))))
theorem ok__law_room {f : Addr} {fd : FuncData} (F : Fun K "_law_room" "_law_room" s__law_room f fd) (mf : mg "_law_room" = some (.ref f)) (T : Txt mg) (G__law_ends : DefOk P w K mg base "_law_ends" 2 p__law_ends d__law_ends) (G__law_parts : DefOk P w K mg base "_law_parts" 1 p__law_parts d__law_parts) : DefOk P w K mg base "_law_room" 3 p__law_room d__law_room :=
  ⟨f, fd, fn__law_room F T G__law_ends G__law_parts, mf, F.kp, F.binds (ps := p__law_room) fun _ _ _ _ _ _ us hl => match us, hl with | [_, _, _], _ => rfl⟩
abbrev s__law_spare : Stmt := top 49
abbrev N__law_spare : List Str := ["_law_web", "_law_rooms", "_law_asks", "_law_side", "_law_gone", "_law_ask"]
abbrev p__law_spare : List Str := ["_law_web", "_law_rooms", "_law_asks", "_law_side"]
theorem sc__law_spare : FnScope N__law_spare p__law_spare (defScope s__law_spare) := ⟨rfl, rfl, rfl, by decide +kernel, rfl, by decide +kernel, by decide +kernel⟩
theorem fn__law_spare {f : Addr} {fd : FuncData} (F : Fun K "_law_spare" "_law_spare" s__law_spare f fd) (T : Txt mg) (G__law_room : DefOk P w K mg base "_law_room" 3 p__law_room d__law_room) (G__law_parts : DefOk P w K mg base "_law_parts" 1 p__law_parts d__law_parts) : FnD P w K mg base 4 f fd p__law_spare d__law_spare := by
  refine fnD_of (k := 3) (N := N__law_spare) (W := [4]) (fb := b__law_spare) F sc__law_spare fun cdv A outer s H hgd hr => ?_
  have hu := hr.un
  have hu1 := room_u (n := 1) (k := 3) (u := (A.deeper _).units) (by decide) hu
  have hu40 := room_u (n := 40) (k := 3) (u := (A.deeper _).units) (by decide) hu
  have hu64 := room_u (n := 64) (k := 3) (u := (A.deeper _).units) (by decide) hu
  have hu65 := room_u (n := 65) (k := 3) (u := (A.deeper _).units) (by decide) hu
  exact dss_cons (ds_setLc (i := 4) (own := [("_law_ask", 5)]) rfl sc__law_spare.nd rfl rfl (sw_true rfl rfl rfl (by decide +kernel)) (di_seq (de_frz (de_var (pv 2)))) (blkOk_by (own := [("_law_ask", 5)]) (N := N__law_spare) (sc := defScope s__law_spare) (by decide +kernel)) (fun _ _ _ _ _ => DG.dy (dg_name (pg_name (i := 5) sc__law_spare.nd rfl (Or.inl rfl)))) (fun _ _ _ _ _ => dts_one (dt_val (de_callG G__law_parts hgd hr (by decide) (by rfl) (fCons_len (fCons_len (fNil_len))) (da_cons (de_var (pv 3)) (da_cons (de_var (pv 5)) (da_nil)))))) (fun _ _ _ _ _ => de_var (pv 5)) (by decide)) (dss_one (ds_ret (de_op op_sub o2_sub (de_callG G__law_room hgd hr (by decide) (by rfl) (fCons_len (fCons_len (fCons_len (fNil_len)))) (da_cons (de_var (pv 0)) (da_cons (de_var (pv 1)) (da_cons (de_var (pv 3)) (da_nil))))) (de_callB cx_len cs_len (by rfl) T.b_len (by first | rfl | decide +kernel) (da_cons (de_var (pv 4)) (da_nil))))))
theorem ok__law_spare {f : Addr} {fd : FuncData} (F : Fun K "_law_spare" "_law_spare" s__law_spare f fd) (mf : mg "_law_spare" = some (.ref f)) (T : Txt mg) (G__law_room : DefOk P w K mg base "_law_room" 3 p__law_room d__law_room) (G__law_parts : DefOk P w K mg base "_law_parts" 1 p__law_parts d__law_parts) : DefOk P w K mg base "_law_spare" 4 p__law_spare d__law_spare :=
  ⟨f, fd, fn__law_spare F T G__law_room G__law_parts, mf, F.kp, F.binds (ps := p__law_spare) fun _ _ _ _ _ _ us hl => match us, hl with | [_, _, _, _], _ => rfl⟩
abbrev s__law_sides : Stmt := top 50
abbrev N__law_sides : List Str := ["_law_many", "_law_found", "_law_place", "_law_side"]
abbrev p__law_sides : List Str := ["_law_many"]
theorem sc__law_sides : FnScope N__law_sides p__law_sides (defScope s__law_sides) := ⟨rfl, rfl, rfl, by decide +kernel, rfl, by decide +kernel, by decide +kernel⟩
theorem fn__law_sides {f : Addr} {fd : FuncData} (F : Fun K "_law_sides" "_law_sides" s__law_sides f fd) (T : Txt mg)  : FnD P w K mg base 1 f fd p__law_sides d__law_sides := by
  refine fnD_of (k := 0) (N := N__law_sides) (W := [1, 2, 1]) (fb := b__law_sides) F sc__law_sides fun cdv A outer s H hgd hr => ?_
  have hu := hr.un
  have hu1 := room_u (n := 1) (k := 0) (u := (A.deeper _).units) (by decide) hu
  have hu40 := room_u (n := 40) (k := 0) (u := (A.deeper _).units) (by decide) hu
  have hu64 := room_u (n := 64) (k := 0) (u := (A.deeper _).units) (by decide) hu
  have hu65 := room_u (n := 65) (k := 0) (u := (A.deeper _).units) (by decide) hu
  exact dss_cons (ds_set (i := 1) sc__law_sides.nd rfl (Or.inl rfl) (de_lst (da_cons (de_tup (da_nil)) (da_nil)))) (dss_cons (ds_for PassesOwn.never rfl (di_rng2 (by rfl) T.b_range (da_cons (de_int) (da_cons (de_var (pv 0)) (da_nil)))) (DG.dy (dg_name (pg_name (i := 2) sc__law_sides.nd rfl (Or.inr rfl)))) (dss_one (ds_set (i := 1) sc__law_sides.nd rfl (Or.inl rfl) (de_op op_catS o2_catS (de_var (pv 1)) (de_lc (own := [("_law_side", 3)]) rfl sc__law_sides.nd (di_seq (de_frz (de_var (pv 1)))) (blkOk_by (own := [("_law_side", 3)]) (N := N__law_sides) (sc := defScope s__law_sides) (by decide +kernel)) (fun _ _ _ _ _ => DG.dy (dg_name (pg_name (i := 3) sc__law_sides.nd rfl (Or.inl rfl)))) (fun _ _ _ _ _ => dts_nil) (fun _ _ _ _ _ => de_op ox_add o2_add (de_var (pv 3)) (de_tup (da_cons (de_var (pv 2)) (da_nil)))) (by decide)))))) (dss_one (ds_ret (de_cut (de_callB (cx_sortV hu40) cs_sortV (by rfl) T.b_sorted (by first | rfl | decide +kernel) (da_cons (de_var (pv 1)) (da_nil))) (do_some (de_int)) (do_none)))))
theorem ok__law_sides {f : Addr} {fd : FuncData} (F : Fun K "_law_sides" "_law_sides" s__law_sides f fd) (mf : mg "_law_sides" = some (.ref f)) (T : Txt mg)  : DefOk P w K mg base "_law_sides" 1 p__law_sides d__law_sides :=
  ⟨f, fd, fn__law_sides F T , mf, F.kp, F.binds (ps := p__law_sides) fun _ _ _ _ _ _ us hl => match us, hl with | [_], _ => rfl⟩
abbrev s__law_far : Stmt := top 51
abbrev N__law_far : List Str := ["_law_web", "_law_lengths", "_law_one", "_law_pairs", "_law_most", "_law_found", "_law_turn", "_law_tie", "_law_a", "_law_b", "_law_place"]
abbrev p__law_far : List Str := ["_law_web", "_law_lengths", "_law_one"]
theorem sc__law_far : FnScope N__law_far p__law_far (defScope s__law_far) := ⟨rfl, rfl, rfl, by decide +kernel, rfl, by decide +kernel, by decide +kernel⟩
theorem fn__law_far {f : Addr} {fd : FuncData} (F : Fun K "_law_far" "_law_far" s__law_far f fd) (T : Txt mg) (G__law_ends : DefOk P w K mg base "_law_ends" 2 p__law_ends d__law_ends) : FnD P w K mg base 3 f fd p__law_far d__law_far := by
  refine fnD_of (k := 2) (N := N__law_far) (W := [3, 4, 5, 6, 7, 8, 9]) (fb := b__law_far) F sc__law_far fun cdv A outer s H hgd hr => ?_
  have hu := hr.un
  have hu1 := room_u (n := 1) (k := 2) (u := (A.deeper _).units) (by decide) hu
  have hu40 := room_u (n := 40) (k := 2) (u := (A.deeper _).units) (by decide) hu
  have hu64 := room_u (n := 64) (k := 2) (u := (A.deeper _).units) (by decide) hu
  have hu65 := room_u (n := 65) (k := 2) (u := (A.deeper _).units) (by decide) hu
  exact dss_cons (ds_set (i := 3) sc__law_far.nd rfl (Or.inl rfl) (de_callG G__law_ends hgd hr (by decide) (by rfl) (fCons_len (fNil_len)) (da_cons (de_var (pv 0)) (da_nil)))) (dss_cons (ds_set (i := 4) sc__law_far.nd rfl (Or.inr rfl) (de_callB (cr_sumT rfl) cs_sumT (by rfl) T.b_sum (by first | rfl | decide +kernel) (da_cons (de_var (pv 1)) (da_nil)))) (dss_cons (ds_setLc (i := 5) (own := [("_law_place", 10)]) rfl sc__law_far.nd rfl rfl (sw_true rfl rfl rfl (by decide +kernel)) (di_rng1 (by rfl) T.b_range (da_cons (de_callB cx_len cs_len (by rfl) T.b_len (by first | rfl | decide +kernel) (da_cons (de_var (pv 0)) (da_nil))) (da_nil))) (blkOk_by (own := [("_law_place", 10)]) (N := N__law_far) (sc := defScope s__law_far) (by decide +kernel)) (fun _ _ _ _ _ => DG.dy (dg_name (pg_name (i := 10) sc__law_far.nd rfl (Or.inl rfl)))) (fun _ _ _ _ _ => dts_nil) (fun _ _ _ _ _ => de_ifx (dt_cmp (ox_eq hu64) o2_eq (de_var (pv 10)) (de_var (pv 2)) (nomark _)) (de_int) (de_var (pv 4))) (by decide)) (dss_cons (ds_for PassesOwn.never rfl (di_rng1 (by rfl) T.b_range (da_cons (de_callB cx_len cs_len (by rfl) T.b_len (by first | rfl | decide +kernel) (da_cons (de_var (pv 0)) (da_nil))) (da_nil))) (DG.dy (dg_name (pg_name (i := 6) sc__law_far.nd rfl (Or.inl rfl)))) (dss_one (ds_for PassesOwn.never rfl (di_rng1 (by rfl) T.b_range (da_cons (de_callB cx_len cs_len (by rfl) T.b_len (by first | rfl | decide +kernel) (da_cons (de_var (pv 3)) (da_nil))) (da_nil))) (DG.dy (dg_name (pg_name (i := 7) sc__law_far.nd rfl (Or.inl rfl)))) (dss_cons (ds_asg (de_sub hu1 (de_var (pv 3)) (de_var (pv 7)) (fun _ _ => rfl)) (dg_tup rfl (dgs_cons (dg_name (pg_name (i := 8) sc__law_far.nd rfl (Or.inl rfl))) (dgs_cons (dg_name (pg_name (i := 9) sc__law_far.nd rfl (Or.inl rfl))) (dgs_nil))))) (dss_cons (ds_store (ps_asg (DE.pe (de_callB (call_min2 rfl) cs_min2 (by rfl) T.b_min (by first | rfl | decide +kernel) (da_cons (de_sub hu1 (de_var (pv 5)) (de_var (pv 8)) (fun _ _ => rfl)) (da_cons (de_op ox_add o2_add (de_sub hu1 (de_var (pv 5)) (de_var (pv 9)) (fun _ _ => rfl)) (de_sub hu1 (de_var (pv 1)) (de_var (pv 7)) (fun _ _ => rfl))) (da_nil))))) (pg_sub (DP.pe (dp_var (pv 5))) (DE.pe (de_var (pv 8))) (set_all hu1)))) (dss_one (ds_store (ps_asg (DE.pe (de_callB (call_min2 rfl) cs_min2 (by rfl) T.b_min (by first | rfl | decide +kernel) (da_cons (de_sub hu1 (de_var (pv 5)) (de_var (pv 9)) (fun _ _ => rfl)) (da_cons (de_op ox_add o2_add (de_sub hu1 (de_var (pv 5)) (de_var (pv 8)) (fun _ _ => rfl)) (de_sub hu1 (de_var (pv 1)) (de_var (pv 7)) (fun _ _ => rfl))) (da_nil))))) (pg_sub (DP.pe (dp_var (pv 5))) (DE.pe (de_var (pv 9))) (set_all hu1)))))))))) (dss_one (ds_ret (de_callTy call_tupOf cs_tuple (by rfl) T.b_tuple (by first | rfl | decide +kernel) (da_cons (de_var (pv 5)) (da_nil))))))))
theorem ok__law_far {f : Addr} {fd : FuncData} (F : Fun K "_law_far" "_law_far" s__law_far f fd) (mf : mg "_law_far" = some (.ref f)) (T : Txt mg) (G__law_ends : DefOk P w K mg base "_law_ends" 2 p__law_ends d__law_ends) : DefOk P w K mg base "_law_far" 3 p__law_far d__law_far :=
  ⟨f, fd, fn__law_far F T G__law_ends, mf, F.kp, F.binds (ps := p__law_far) fun _ _ _ _ _ _ us hl => match us, hl with | [_, _, _], _ => rfl⟩
abbrev s__law_is_whole : Stmt := top 52
abbrev N__law_is_whole : List Str := ["_law_thing"]
abbrev p__law_is_whole : List Str := ["_law_thing"]
theorem sc__law_is_whole : FnScope N__law_is_whole p__law_is_whole (defScope s__law_is_whole) := ⟨rfl, rfl, rfl, by decide +kernel, rfl, by decide +kernel, by decide +kernel⟩
theorem fn__law_is_whole {f : Addr} {fd : FuncData} (F : Fun K "_law_is_whole" "_law_is_whole" s__law_is_whole f fd) (T : Txt mg)  : FnD P w K mg base 1 f fd p__law_is_whole d__law_is_whole := by
  refine fnD_of (k := 0) (N := N__law_is_whole) (W := []) (fb := b__law_is_whole) F sc__law_is_whole fun cdv A outer s H hgd hr => ?_
  have hu := hr.un
  have hu1 := room_u (n := 1) (k := 0) (u := (A.deeper _).units) (by decide) hu
  have hu40 := room_u (n := 40) (k := 0) (u := (A.deeper _).units) (by decide) hu
  have hu64 := room_u (n := 64) (k := 0) (u := (A.deeper _).units) (by decide) hu
  have hu65 := room_u (n := 65) (k := 0) (u := (A.deeper _).units) (by decide) hu
  exact dss_one (ds_ret (de_and (de_isi .int (by rfl) T.b_isinstance (by rfl) T.b_int (de_var (pv 0))) (de_one (de_not (de_isi .bool (by rfl) T.b_isinstance (by rfl) T.b_bool (de_var (pv 0)))))))
theorem ok__law_is_whole {f : Addr} {fd : FuncData} (F : Fun K "_law_is_whole" "_law_is_whole" s__law_is_whole f fd) (mf : mg "_law_is_whole" = some (.ref f)) (T : Txt mg)  : DefOk P w K mg base "_law_is_whole" 1 p__law_is_whole d__law_is_whole :=
  ⟨f, fd, fn__law_is_whole F T , mf, F.kp, F.binds (ps := p__law_is_whole) fun _ _ _ _ _ _ us hl => match us, hl with | [_], _ => rfl⟩
abbrev s__law_is_whole_piece : Stmt := top 53
abbrev N__law_is_whole_piece : List Str := ["_law_web", "_law_spots_here", "_law_met", "_law_turn", "_law_dart"]
abbrev p__law_is_whole_piece : List Str := ["_law_web"]
theorem sc__law_is_whole_piece : FnScope N__law_is_whole_piece p__law_is_whole_piece (defScope s__law_is_whole_piece) := ⟨rfl, rfl, rfl, by decide +kernel, rfl, by decide +kernel, by decide +kernel⟩
theorem fn__law_is_whole_piece {f : Addr} {fd : FuncData} (F : Fun K "_law_is_whole_piece" "_law_is_whole_piece" s__law_is_whole_piece f fd) (T : Txt mg) (G__law_other : DefOk P w K mg base "_law_other" 1 p__law_other d__law_other) (G__law_spots : DefOk P w K mg base "_law_spots" 1 p__law_spots d__law_spots) : FnD P w K mg base 2 f fd p__law_is_whole_piece d__law_is_whole_piece := by
  refine fnD_of (k := 1) (N := N__law_is_whole_piece) (W := [1, 2, 3, 4]) (fb := b__law_is_whole_piece) F sc__law_is_whole_piece fun cdv A outer s H hgd hr => ?_
  have hu := hr.un
  have hu1 := room_u (n := 1) (k := 1) (u := (A.deeper _).units) (by decide) hu
  have hu40 := room_u (n := 40) (k := 1) (u := (A.deeper _).units) (by decide) hu
  have hu64 := room_u (n := 64) (k := 1) (u := (A.deeper _).units) (by decide) hu
  have hu65 := room_u (n := 65) (k := 1) (u := (A.deeper _).units) (by decide) hu
  exact dss_cons (ds_set (i := 1) sc__law_is_whole_piece.nd rfl (Or.inl rfl) (de_callG G__law_spots hgd hr (by decide) (by rfl) (fCons_len (fNil_len)) (da_cons (de_var (pv 0)) (da_nil)))) (dss_cons (ds_set (i := 2) sc__law_is_whole_piece.nd rfl (Or.inl rfl) (de_lst (da_cons (de_int) (da_nil)))) (dss_cons (ds_for PassesOwn.never rfl (di_rng1 (by rfl) T.b_range (da_cons (de_callB cx_len cs_len (by rfl) T.b_len (by first | rfl | decide +kernel) (da_cons (de_var (pv 0)) (da_nil))) (da_nil))) (DG.dy (dg_name (pg_name (i := 3) sc__law_is_whole_piece.nd rfl (Or.inl rfl)))) (dss_one (ds_for PassesOwn.never rfl (di_rng1 (by rfl) T.b_range (da_cons (de_callB cx_len cs_len (by rfl) T.b_len (by first | rfl | decide +kernel) (da_cons (de_var (pv 1)) (da_nil))) (da_nil))) (DG.dy (dg_name (pg_name (i := 4) sc__law_is_whole_piece.nd rfl (Or.inl rfl)))) (dss_one (ds_if (DW.dt (dw_and (dt_cmp (ox_in hu65) o2_in (de_sub hu1 (de_var (pv 1)) (de_var (pv 4)) (fun _ _ => rfl)) (de_var (pv 2)) (by rfl)) (dw_and1 (dt_cmp (ox_notIn hu65) o2_notIn (de_sub hu1 (de_var (pv 1)) (de_callG G__law_other hgd hr (by decide) (by rfl) (fCons_len (fNil_len)) (da_cons (de_var (pv 4)) (da_nil))) (fun _ _ => rfl)) (de_var (pv 2)) (by rfl))))) (dss_one (ds_expr (de_mut (pe_bm PySem.F.plainAttrs_list PySem.F.slot_list_append PySem.F.type_list_append mt_append (DP.pe (dp_var (pv 2))) (DA.pa (da_cons (de_sub hu1 (de_var (pv 1)) (de_callG G__law_other hgd hr (by decide) (by rfl) (fCons_len (fNil_len)) (da_cons (de_var (pv 4)) (da_nil))) (fun _ _ => rfl)) (da_nil)))) mu_append))) (dss_nil)))))) (dss_one (ds_ret (de_cmp (ox_eq hu64) o2_eq (de_callB cx_len cs_len (by rfl) T.b_len (by first | rfl | decide +kernel) (da_cons (de_var (pv 2)) (da_nil))) (de_callB cx_len cs_len (by rfl) T.b_len (by first | rfl | decide +kernel) (da_cons (de_var (pv 0)) (da_nil))) (nomark _))))))
theorem ok__law_is_whole_piece {f : Addr} {fd : FuncData} (F : Fun K "_law_is_whole_piece" "_law_is_whole_piece" s__law_is_whole_piece f fd) (mf : mg "_law_is_whole_piece" = some (.ref f)) (T : Txt mg) (G__law_other : DefOk P w K mg base "_law_other" 1 p__law_other d__law_other) (G__law_spots : DefOk P w K mg base "_law_spots" 1 p__law_spots d__law_spots) : DefOk P w K mg base "_law_is_whole_piece" 2 p__law_is_whole_piece d__law_is_whole_piece :=
  ⟨f, fd, fn__law_is_whole_piece F T G__law_other G__law_spots, mf, F.kp, F.binds (ps := p__law_is_whole_piece) fun _ _ _ _ _ _ us hl => match us, hl with | [_], _ => rfl⟩
abbrev s__law_is_web : Stmt := top 54
abbrev N__law_is_web : List Str := ["_law_thing", "_law_darts", "_law_row", "_law_dart"]
abbrev p__law_is_web : List Str := ["_law_thing"]
theorem sc__law_is_web : FnScope N__law_is_web p__law_is_web (defScope s__law_is_web) := ⟨rfl, rfl, rfl, by decide +kernel, rfl, by decide +kernel, by decide +kernel⟩
theorem fn__law_is_web {f : Addr} {fd : FuncData} (F : Fun K "_law_is_web" "_law_is_web" s__law_is_web f fd) (T : Txt mg) (G__law_faces : DefOk P w K mg base "_law_faces" 3 p__law_faces d__law_faces) (G__law_is_whole_piece : DefOk P w K mg base "_law_is_whole_piece" 2 p__law_is_whole_piece d__law_is_whole_piece) (G__law_is_whole : DefOk P w K mg base "_law_is_whole" 1 p__law_is_whole d__law_is_whole) : FnD P w K mg base 4 f fd p__law_is_web d__law_is_web := by
  refine fnD_of (k := 3) (N := N__law_is_web) (W := [1, 2]) (fb := b__law_is_web) F sc__law_is_web fun cdv A outer s H hgd hr => ?_
  have hu := hr.un
  have hu1 := room_u (n := 1) (k := 3) (u := (A.deeper _).units) (by decide) hu
  have hu40 := room_u (n := 40) (k := 3) (u := (A.deeper _).units) (by decide) hu
  have hu64 := room_u (n := 64) (k := 3) (u := (A.deeper _).units) (by decide) hu
  have hu65 := room_u (n := 65) (k := 3) (u := (A.deeper _).units) (by decide) hu
  exact dss_cons (ds_if (DW.dt (dw_or (dt_not (dt_val (de_isi .tuple (by rfl) T.b_isinstance (by rfl) T.b_tuple (de_var (pv 0))))) (dw_or1 (dt_not (dt_chain op_le op_le (de_int) (de_callB cx_len cs_len (by rfl) T.b_len (by first | rfl | decide +kernel) (da_cons (de_var (pv 0)) (da_nil))) (de_int)))))) (dss_one (ds_ret (de_bl))) (dss_nil)) (dss_cons (ds_set (i := 1) sc__law_is_web.nd rfl (Or.inl rfl) (de_lst (da_nil))) (dss_cons (ds_for PassesOwn.never rfl (di_seq (de_frz (de_var (pv 0)))) (DG.dy (dg_name (pg_name (i := 2) sc__law_is_web.nd rfl (Or.inl rfl)))) (dss_cons (ds_if (DW.dt (dw_or (dt_not (dt_val (de_isi .tuple (by rfl) T.b_isinstance (by rfl) T.b_tuple (de_var (pv 2))))) (dw_or (dt_cmp (ox_eq hu64) o2_eq (de_var (pv 2)) (de_tup (da_nil)) (nomark _)) (dw_or1 (dt_cmp (ox_in hu65) o2_in (de_bl) (de_lc (own := [("_law_dart", 3)]) rfl sc__law_is_web.nd (di_seq (de_frz (de_var (pv 2)))) (blkOk_by (own := [("_law_dart", 3)]) (N := N__law_is_web) (sc := defScope s__law_is_web) (by decide +kernel)) (fun _ _ _ _ _ => DG.dy (dg_name (pg_name (i := 3) sc__law_is_web.nd rfl (Or.inl rfl)))) (fun _ _ _ _ _ => dts_nil) (fun _ _ _ _ _ => de_callG G__law_is_whole hgd hr (by decide) (by rfl) (fCons_len (fNil_len)) (da_cons (de_var (pv 3)) (da_nil))) (by decide)) (by rfl)))))) (dss_one (ds_ret (de_bl))) (dss_nil)) (dss_cons (ds_if (dt_cmp (ox_ne hu64) o2_ne (de_sub hu1 (de_var (pv 2)) (de_int) (fun _ _ => rfl)) (de_callB (cx_min rfl hu1) (cs_mm min) (by rfl) T.b_min (by first | rfl | decide +kernel) (da_cons (de_var (pv 2)) (da_nil))) (nomark _)) (dss_one (ds_ret (de_bl))) (dss_nil)) (dss_one (ds_expr (de_mut (pe_bm PySem.F.plainAttrs_list PySem.F.slot_list_extend PySem.F.type_list_extend mt_extT (DP.pe (dp_var (pv 1))) (DA.pa (da_cons (de_var (pv 2)) (da_nil)))) mu_extT)))))) (dss_cons (ds_if (DW.dt (dw_or (dt_cmp (ox_ne hu64) o2_ne (de_callB (cx_sorted hu40) cs_sorted (by rfl) T.b_sorted (by first | rfl | decide +kernel) (da_cons (de_var (pv 1)) (da_nil))) (de_lstRg1 rfl (by rfl) T.b_list (by rfl) T.b_range (de_callB cx_len cs_len (by rfl) T.b_len (by first | rfl | decide +kernel) (da_cons (de_var (pv 1)) (da_nil)))) (nomark _)) (dw_or (dt_cmp (ox_eq hu64) o2_eq (de_op op_modN o2_mod (de_callB cx_len cs_len (by rfl) T.b_len (by first | rfl | decide +kernel) (da_cons (de_var (pv 1)) (da_nil))) (de_int)) (de_int) (nomark _)) (dw_or1 (dt_cmp op_gt (o2_cmp _) (de_callB cx_len cs_len (by rfl) T.b_len (by first | rfl | decide +kernel) (da_cons (de_var (pv 1)) (da_nil))) (de_int) (nomark _)))))) (dss_one (ds_ret (de_bl))) (dss_nil)) (dss_cons (ds_if (DW.dt (dw_or (dt_cmp (ox_ne hu64) o2_ne (de_callTy call_list_of cs_list (by rfl) T.b_list (by first | rfl | decide +kernel) (da_cons (de_var (pv 0)) (da_nil))) (de_callB (cx_sortU hu40) cs_sortU (by rfl) T.b_sorted (by first | rfl | decide +kernel) (da_cons (de_var (pv 0)) (da_nil))) (nomark _)) (dw_or1 (dt_not (dt_val (de_callG G__law_is_whole_piece hgd hr (by decide) (by rfl) (fCons_len (fNil_len)) (da_cons (de_var (pv 0)) (da_nil)))))))) (dss_one (ds_ret (de_bl))) (dss_nil)) (dss_one (ds_ret (de_cmp (ox_eq hu64) o2_eq (de_op ox_add o2_add (de_op op_sub o2_sub (de_callB cx_len cs_len (by rfl) T.b_len (by first | rfl | decide +kernel) (da_cons (de_var (pv 0)) (da_nil))) (de_op op_fdivN o2_div (de_callB cx_len cs_len (by rfl) T.b_len (by first | rfl | decide +kernel) (da_cons (de_var (pv 1)) (da_nil))) (de_int))) (de_callB cx_len cs_len (by rfl) T.b_len (by first | rfl | decide +kernel) (da_cons (de_callG G__law_faces hgd hr (by decide) (by rfl) (fCons_len (fNil_len)) (da_cons (de_var (pv 0)) (da_nil))) (da_nil)))) (de_int) (nomark _))))))))
theorem ok__law_is_web {f : Addr} {fd : FuncData} (F : Fun K "_law_is_web" "_law_is_web" s__law_is_web f fd) (mf : mg "_law_is_web" = some (.ref f)) (T : Txt mg) (G__law_faces : DefOk P w K mg base "_law_faces" 3 p__law_faces d__law_faces) (G__law_is_whole_piece : DefOk P w K mg base "_law_is_whole_piece" 2 p__law_is_whole_piece d__law_is_whole_piece) (G__law_is_whole : DefOk P w K mg base "_law_is_whole" 1 p__law_is_whole d__law_is_whole) : DefOk P w K mg base "_law_is_web" 4 p__law_is_web d__law_is_web :=
  ⟨f, fd, fn__law_is_web F T G__law_faces G__law_is_whole_piece G__law_is_whole, mf, F.kp, F.binds (ps := p__law_is_web) fun _ _ _ _ _ _ us hl => match us, hl with | [_], _ => rfl⟩
abbrev s__law_are_numbers : Stmt := top 55
abbrev N__law_are_numbers : List Str := ["_law_thing", "_law_many", "_law_most", "_law_one"]
abbrev p__law_are_numbers : List Str := ["_law_thing", "_law_many", "_law_most"]
theorem sc__law_are_numbers : FnScope N__law_are_numbers p__law_are_numbers (defScope s__law_are_numbers) := ⟨rfl, rfl, rfl, by decide +kernel, rfl, by decide +kernel, by decide +kernel⟩
theorem fn__law_are_numbers {f : Addr} {fd : FuncData} (F : Fun K "_law_are_numbers" "_law_are_numbers" s__law_are_numbers f fd) (T : Txt mg) (G__law_is_whole : DefOk P w K mg base "_law_is_whole" 1 p__law_is_whole d__law_is_whole) : FnD P w K mg base 2 f fd p__law_are_numbers d__law_are_numbers := by
  refine fnD_of (k := 1) (N := N__law_are_numbers) (W := []) (fb := b__law_are_numbers) F sc__law_are_numbers fun cdv A outer s H hgd hr => ?_
  have hu := hr.un
  have hu1 := room_u (n := 1) (k := 1) (u := (A.deeper _).units) (by decide) hu
  have hu40 := room_u (n := 40) (k := 1) (u := (A.deeper _).units) (by decide) hu
  have hu64 := room_u (n := 64) (k := 1) (u := (A.deeper _).units) (by decide) hu
  have hu65 := room_u (n := 65) (k := 1) (u := (A.deeper _).units) (by decide) hu
  exact dss_cons (ds_if (DW.dt (dw_or (dt_not (dt_val (de_isi .tuple (by rfl) T.b_isinstance (by rfl) T.b_tuple (de_var (pv 0))))) (dw_or (dt_cmp (ox_ne hu64) o2_ne (de_callB cx_len cs_len (by rfl) T.b_len (by first | rfl | decide +kernel) (da_cons (de_var (pv 0)) (da_nil))) (de_var (pv 1)) (nomark _)) (dw_or1 (dt_cmp (ox_in hu65) o2_in (de_bl) (de_lc (own := [("_law_one", 3)]) rfl sc__law_are_numbers.nd (di_seq (de_frz (de_var (pv 0)))) (blkOk_by (own := [("_law_one", 3)]) (N := N__law_are_numbers) (sc := defScope s__law_are_numbers) (by decide +kernel)) (fun _ _ _ _ _ => DG.dy (dg_name (pg_name (i := 3) sc__law_are_numbers.nd rfl (Or.inl rfl)))) (fun _ _ _ _ _ => dts_nil) (fun _ _ _ _ _ => de_callG G__law_is_whole hgd hr (by decide) (by rfl) (fCons_len (fNil_len)) (da_cons (de_var (pv 3)) (da_nil))) (by decide)) (by rfl)))))) (dss_one (ds_ret (de_bl))) (dss_nil)) (dss_one (ds_ret (de_cmp (ox_eq hu64) o2_eq (de_lc (own := [("_law_one", 3)]) rfl sc__law_are_numbers.nd (di_seq (de_frz (de_var (pv 0)))) (blkOk_by (own := [("_law_one", 3)]) (N := N__law_are_numbers) (sc := defScope s__law_are_numbers) (by decide +kernel)) (fun _ _ _ _ _ => DG.dy (dg_name (pg_name (i := 3) sc__law_are_numbers.nd rfl (Or.inl rfl)))) (fun _ _ _ _ _ => dts_one (dt_not (dt_chain op_le op_le (de_int) (de_var (pv 3)) (de_var (pv 2))))) (fun _ _ _ _ _ => de_var (pv 3)) (by decide)) (de_lst (da_nil)) (nomark _))))
theorem ok__law_are_numbers {f : Addr} {fd : FuncData} (F : Fun K "_law_are_numbers" "_law_are_numbers" s__law_are_numbers f fd) (mf : mg "_law_are_numbers" = some (.ref f)) (T : Txt mg) (G__law_is_whole : DefOk P w K mg base "_law_is_whole" 1 p__law_is_whole d__law_is_whole) : DefOk P w K mg base "_law_are_numbers" 2 p__law_are_numbers d__law_are_numbers :=
  ⟨f, fd, fn__law_are_numbers F T G__law_is_whole, mf, F.kp, F.binds (ps := p__law_are_numbers) fun _ _ _ _ _ _ us hl => match us, hl with | [_, _, _], _ => rfl⟩
abbrev s__law_are_asks : Stmt := top 56
abbrev N__law_are_asks : List Str := ["_law_places", "_law_thing", "_law_one", "_law_place"]
abbrev p__law_are_asks : List Str := ["_law_places", "_law_thing"]
theorem sc__law_are_asks : FnScope N__law_are_asks p__law_are_asks (defScope s__law_are_asks) := ⟨rfl, rfl, rfl, by decide +kernel, rfl, by decide +kernel, by decide +kernel⟩
theorem fn__law_are_asks {f : Addr} {fd : FuncData} (F : Fun K "_law_are_asks" "_law_are_asks" s__law_are_asks f fd) (T : Txt mg) (G__law_is_whole : DefOk P w K mg base "_law_is_whole" 1 p__law_is_whole d__law_is_whole) : FnD P w K mg base 2 f fd p__law_are_asks d__law_are_asks := by
  refine fnD_of (k := 1) (N := N__law_are_asks) (W := [2]) (fb := b__law_are_asks) F sc__law_are_asks fun cdv A outer s H hgd hr => ?_
  have hu := hr.un
  have hu1 := room_u (n := 1) (k := 1) (u := (A.deeper _).units) (by decide) hu
  have hu40 := room_u (n := 40) (k := 1) (u := (A.deeper _).units) (by decide) hu
  have hu64 := room_u (n := 64) (k := 1) (u := (A.deeper _).units) (by decide) hu
  have hu65 := room_u (n := 65) (k := 1) (u := (A.deeper _).units) (by decide) hu
  exact dss_cons (ds_if (DW.dt (dw_or (dt_not (dt_val (de_isi .tuple (by rfl) T.b_isinstance (by rfl) T.b_tuple (de_var (pv 1))))) (dw_or1 (dt_cmp op_gt (o2_cmp _) (de_callB cx_len cs_len (by rfl) T.b_len (by first | rfl | decide +kernel) (da_cons (de_var (pv 1)) (da_nil))) (de_int) (nomark _))))) (dss_one (ds_ret (de_bl))) (dss_nil)) (dss_cons (ds_for PassesOwn.never rfl (di_seq (de_frz (de_var (pv 1)))) (DG.dy (dg_name (pg_name (i := 2) sc__law_are_asks.nd rfl (Or.inl rfl)))) (dss_cons (ds_if (DW.dt (dw_or (dt_not (dt_val (de_isi .tuple (by rfl) T.b_isinstance (by rfl) T.b_tuple (de_var (pv 2))))) (dw_or1 (dt_cmp (ox_ne hu64) o2_ne (de_callB cx_len cs_len (by rfl) T.b_len (by first | rfl | decide +kernel) (da_cons (de_var (pv 2)) (da_nil))) (de_int) (nomark _))))) (dss_one (ds_ret (de_bl))) (dss_nil)) (dss_cons (ds_if (dt_cmp (ox_in hu65) o2_in (de_bl) (de_lc (own := [("_law_place", 3)]) rfl sc__law_are_asks.nd (di_seq (de_frz (de_var (pv 2)))) (blkOk_by (own := [("_law_place", 3)]) (N := N__law_are_asks) (sc := defScope s__law_are_asks) (by decide +kernel)) (fun _ _ _ _ _ => DG.dy (dg_name (pg_name (i := 3) sc__law_are_asks.nd rfl (Or.inl rfl)))) (fun _ _ _ _ _ => dts_nil) (fun _ _ _ _ _ => de_and (de_callG G__law_is_whole hgd hr (by decide) (by rfl) (fCons_len (fNil_len)) (da_cons (de_var (pv 3)) (da_nil))) (de_one (de_chain op_le op_lt (de_int) (de_var (pv 3)) (de_var (pv 0))))) (by decide)) (by rfl)) (dss_one (ds_ret (de_bl))) (dss_nil)) (dss_one (ds_if (dt_cmp (ox_eq hu64) o2_eq (de_sub hu1 (de_var (pv 2)) (de_int) (fun _ _ => rfl)) (de_sub hu1 (de_var (pv 2)) (de_int) (fun _ _ => rfl)) (nomark _)) (dss_one (ds_ret (de_bl))) (dss_nil)))))) (dss_one (ds_ret (de_bl))))
theorem ok__law_are_asks {f : Addr} {fd : FuncData} (F : Fun K "_law_are_asks" "_law_are_asks" s__law_are_asks f fd) (mf : mg "_law_are_asks" = some (.ref f)) (T : Txt mg) (G__law_is_whole : DefOk P w K mg base "_law_is_whole" 1 p__law_is_whole d__law_is_whole) : DefOk P w K mg base "_law_are_asks" 2 p__law_are_asks d__law_are_asks :=
  ⟨f, fd, fn__law_are_asks F T G__law_is_whole, mf, F.kp, F.binds (ps := p__law_are_asks) fun _ _ _ _ _ _ us hl => match us, hl with | [_, _], _ => rfl⟩
abbrev s__law_is_case : Stmt := top 57
abbrev N__law_is_case : List Str := ["_law_thing", "_law_web", "_law_rooms", "_law_asks", "_law_lengths", "_law_many", "_law_are_right", "_law_side", "_law_place", "_law_whole", "_law_left", "_law_one", "_law_other_here", "_law_tie", "_law_dart", "_law_ask"]
abbrev p__law_is_case : List Str := ["_law_thing"]
theorem sc__law_is_case : FnScope N__law_is_case p__law_is_case (defScope s__law_is_case) := ⟨rfl, rfl, rfl, by decide +kernel, rfl, by decide +kernel, by decide +kernel⟩
theorem fn__law_is_case {f : Addr} {fd : FuncData} (F : Fun K "_law_is_case" "_law_is_case" s__law_is_case f fd) (T : Txt mg) (G__law_far : DefOk P w K mg base "_law_far" 3 p__law_far d__law_far) (G__law_sides : DefOk P w K mg base "_law_sides" 1 p__law_sides d__law_sides) (G__law_spare : DefOk P w K mg base "_law_spare" 4 p__law_spare d__law_spare) (G__law_are_asks : DefOk P w K mg base "_law_are_asks" 2 p__law_are_asks d__law_are_asks) (G__law_are_numbers : DefOk P w K mg base "_law_are_numbers" 2 p__law_are_numbers d__law_are_numbers) (G__law_ties : DefOk P w K mg base "_law_ties" 1 p__law_ties d__law_ties) (G__law_is_web : DefOk P w K mg base "_law_is_web" 4 p__law_is_web d__law_is_web) : FnD P w K mg base 5 f fd p__law_is_case d__law_is_case := by
  refine fnD_of (k := 4) (N := N__law_is_case) (W := [1, 2, 3, 4, 5, 6, 7, 8, 9, 10, 11, 12, 10]) (fb := b__law_is_case) F sc__law_is_case fun cdv A outer s H hgd hr => ?_
  have hu := hr.un
  have hu1 := room_u (n := 1) (k := 4) (u := (A.deeper _).units) (by decide) hu
  have hu40 := room_u (n := 40) (k := 4) (u := (A.deeper _).units) (by decide) hu
  have hu64 := room_u (n := 64) (k := 4) (u := (A.deeper _).units) (by decide) hu
  have hu65 := room_u (n := 65) (k := 4) (u := (A.deeper _).units) (by decide) hu
  exact dss_cons (ds_if (DW.dt (dw_or (dt_not (dt_val (de_isi .tuple (by rfl) T.b_isinstance (by rfl) T.b_tuple (de_var (pv 0))))) (dw_or (dt_cmp (ox_ne hu64) o2_ne (de_callB cx_len cs_len (by rfl) T.b_len (by first | rfl | decide +kernel) (da_cons (de_var (pv 0)) (da_nil))) (de_int) (nomark _)) (dw_or1 (dt_not (dt_val (de_callG G__law_is_web hgd hr (by decide) (by rfl) (fCons_len (fNil_len)) (da_cons (de_sub hu1 (de_var (pv 0)) (de_int) (fun _ _ => rfl)) (da_nil))))))))) (dss_one (ds_ret (de_bl))) (dss_nil)) (dss_cons (ds_asg (de_var (pv 0)) (dg_tup rfl (dgs_cons (dg_name (pg_name (i := 1) sc__law_is_case.nd rfl (Or.inl rfl))) (dgs_cons (dg_name (pg_name (i := 2) sc__law_is_case.nd rfl (Or.inr rfl))) (dgs_cons (dg_name (pg_name (i := 3) sc__law_is_case.nd rfl (Or.inl rfl))) (dgs_cons (dg_name (pg_name (i := 4) sc__law_is_case.nd rfl (Or.inr rfl))) (dgs_nil))))))) (dss_cons (ds_set (i := 5) sc__law_is_case.nd rfl (Or.inl rfl) (de_callG G__law_ties hgd hr (by decide) (by rfl) (fCons_len (fNil_len)) (da_cons (de_var (pv 1)) (da_nil)))) (dss_cons (ds_set (i := 6) sc__law_is_case.nd rfl (Or.inl rfl) (de_and (de_callG G__law_are_numbers hgd hr (by decide) (by rfl) (fCons_len (fCons_len (fCons_len (fNil_len)))) (da_cons (de_var (pv 2)) (da_cons (de_var (pv 5)) (da_cons (de_int) (da_nil))))) (de_one (de_callG G__law_are_numbers hgd hr (by decide) (by rfl) (fCons_len (fCons_len (fCons_len (fNil_len)))) (da_cons (de_var (pv 4)) (da_cons (de_var (pv 5)) (da_cons (de_int) (da_nil)))))))) (dss_cons (ds_if (DW.dt (dw_or (dt_not (dt_val (de_var (pv 6)))) (dw_or1 (dt_not (dt_val (de_callG G__law_are_asks hgd hr (by decide) (by rfl) (fCons_len (fCons_len (fNil_len))) (da_cons (de_callB cx_len cs_len (by rfl) T.b_len (by first | rfl | decide +kernel) (da_cons (de_var (pv 1)) (da_nil))) (da_cons (de_var (pv 3)) (da_nil))))))))) (dss_one (ds_ret (de_bl))) (dss_nil)) (dss_cons (ds_for PassesOwn.never rfl (di_seq (de_frz (de_callG G__law_sides hgd hr (by decide) (by rfl) (fCons_len (fNil_len)) (da_cons (de_callB cx_len cs_len (by rfl) T.b_len (by first | rfl | decide +kernel) (da_cons (de_var (pv 1)) (da_nil))) (da_nil))))) (DG.dy (dg_name (pg_name (i := 7) sc__law_is_case.nd rfl (Or.inl rfl)))) (dss_one (ds_if (dt_cmp op_lt (o2_cmp _) (de_callG G__law_spare hgd hr (by decide) (by rfl) (fCons_len (fCons_len (fCons_len (fCons_len (fNil_len))))) (da_cons (de_var (pv 1)) (da_cons (de_var (pv 2)) (da_cons (de_var (pv 3)) (da_cons (de_var (pv 7)) (da_nil)))))) (de_int) (nomark _)) (dss_one (ds_ret (de_bl))) (dss_nil)))) (dss_cons (ds_for PassesOwn.never rfl (di_rng1 (by rfl) T.b_range (da_cons (de_callB cx_len cs_len (by rfl) T.b_len (by first | rfl | decide +kernel) (da_cons (de_var (pv 1)) (da_nil))) (da_nil))) (DG.dy (dg_name (pg_name (i := 8) sc__law_is_case.nd rfl (Or.inr rfl)))) (dss_cons (ds_set (i := 9) sc__law_is_case.nd rfl (Or.inl rfl) (de_callB (cr_sum rfl) cs_sum (by rfl) T.b_sum (by first | rfl | decide +kernel) (da_cons (de_lc (own := [("_law_dart", 14)]) rfl sc__law_is_case.nd (di_seq (de_frz (de_sub hu1 (de_var (pv 1)) (de_var (pv 8)) (fun _ _ => rfl)))) (blkOk_by (own := [("_law_dart", 14)]) (N := N__law_is_case) (sc := defScope s__law_is_case) (by decide +kernel)) (fun _ _ _ _ _ => DG.dy (dg_name (pg_name (i := 14) sc__law_is_case.nd rfl (Or.inl rfl)))) (fun _ _ _ _ _ => dts_nil) (fun _ _ _ _ _ => de_sub hu1 (de_var (pv 2)) (de_op op_fdivN o2_div (de_var (pv 14)) (de_int)) (fun _ _ => rfl)) (by decide)) (da_nil)))) (dss_one (ds_if (dt_cmp (ox_eq hu64) o2_eq (de_op op_modN o2_mod (de_op ox_add o2_add (de_var (pv 9)) (de_callB cx_len cs_len (by rfl) T.b_len (by first | rfl | decide +kernel) (da_cons (de_lc (own := [("_law_ask", 15)]) rfl sc__law_is_case.nd (di_seq (de_frz (de_var (pv 3)))) (blkOk_by (own := [("_law_ask", 15)]) (N := N__law_is_case) (sc := defScope s__law_is_case) (by decide +kernel)) (fun _ _ _ _ _ => DG.dy (dg_name (pg_name (i := 15) sc__law_is_case.nd rfl (Or.inl rfl)))) (fun _ _ _ _ _ => dts_one (dt_cmp (ox_in hu65) o2_in (de_var (pv 8)) (de_var (pv 15)) (by rfl))) (fun _ _ _ _ _ => de_var (pv 15)) (by decide)) (da_nil)))) (de_int)) (de_int) (nomark _)) (dss_one (ds_ret (de_bl))) (dss_nil))))) (dss_cons (ds_set (i := 10) sc__law_is_case.nd rfl (Or.inl rfl) (de_callB (cr_sum rfl) cs_sum (by rfl) T.b_sum (by first | rfl | decide +kernel) (da_cons (de_lc (own := [("_law_tie", 13)]) rfl sc__law_is_case.nd (di_rng1 (by rfl) T.b_range (da_cons (de_var (pv 5)) (da_nil))) (blkOk_by (own := [("_law_tie", 13)]) (N := N__law_is_case) (sc := defScope s__law_is_case) (by decide +kernel)) (fun _ _ _ _ _ => DG.dy (dg_name (pg_name (i := 13) sc__law_is_case.nd rfl (Or.inl rfl)))) (fun _ _ _ _ _ => dts_nil) (fun _ _ _ _ _ => de_op ox_mul o2_mul (de_sub hu1 (de_var (pv 2)) (de_var (pv 13)) (fun _ _ => rfl)) (de_sub hu1 (de_var (pv 4)) (de_var (pv 13)) (fun _ _ => rfl))) (by decide)) (da_nil)))) (dss_cons (ds_for PassesOwn.never rfl (di_seq (de_frz (de_var (pv 3)))) (DG.dy (dg_tup rfl (dgs_cons (dg_name (pg_name (i := 11) sc__law_is_case.nd rfl (Or.inl rfl))) (dgs_cons (dg_name (pg_name (i := 12) sc__law_is_case.nd rfl (Or.inl rfl))) (dgs_nil))))) (dss_one (ds_set (i := 10) sc__law_is_case.nd rfl (Or.inl rfl) (de_op op_sub o2_sub (de_var (pv 10)) (de_sub hu1 (de_frz (de_callG G__law_far hgd hr (by decide) (by rfl) (fCons_len (fCons_len (fCons_len (fNil_len)))) (da_cons (de_var (pv 1)) (da_cons (de_var (pv 4)) (da_cons (de_var (pv 11)) (da_nil)))))) (de_var (pv 12)) (fun _ _ => rfl)))))) (dss_one (ds_ret (de_cmp op_lt (o2_cmp _) (de_var (pv 10)) (de_int) (nomark _))))))))))))
theorem ok__law_is_case {f : Addr} {fd : FuncData} (F : Fun K "_law_is_case" "_law_is_case" s__law_is_case f fd) (mf : mg "_law_is_case" = some (.ref f)) (T : Txt mg) (G__law_far : DefOk P w K mg base "_law_far" 3 p__law_far d__law_far) (G__law_sides : DefOk P w K mg base "_law_sides" 1 p__law_sides d__law_sides) (G__law_spare : DefOk P w K mg base "_law_spare" 4 p__law_spare d__law_spare) (G__law_are_asks : DefOk P w K mg base "_law_are_asks" 2 p__law_are_asks d__law_are_asks) (G__law_are_numbers : DefOk P w K mg base "_law_are_numbers" 2 p__law_are_numbers d__law_are_numbers) (G__law_ties : DefOk P w K mg base "_law_ties" 1 p__law_ties d__law_ties) (G__law_is_web : DefOk P w K mg base "_law_is_web" 4 p__law_is_web d__law_is_web) : DefOk P w K mg base "_law_is_case" 5 p__law_is_case d__law_is_case :=
  ⟨f, fd, fn__law_is_case F T G__law_far G__law_sides G__law_spare G__law_are_asks G__law_are_numbers G__law_ties G__law_is_web, mf, F.kp, F.binds (ps := p__law_is_case) fun _ _ _ _ _ _ us hl => match us, hl with | [_], _ => rfl⟩
abbrev s_law : Stmt := top 58
abbrev N_law : List Str := ["_law_script", "_law_tape_here", "_law_turn", "_law_told", "_law_k", "_law_web", "_law_rooms", "_law_asks", "_law_lengths"]
abbrev p_law : List Str := ["_law_script"]
theorem sc_law : FnScope N_law p_law (defScope s_law) := ⟨rfl, rfl, rfl, by decide +kernel, rfl, by decide +kernel, by decide +kernel⟩
theorem fn_law {f : Addr} {fd : FuncData} (F : Fun K "law" "law" s_law f fd) (T : Txt mg) (G_off_rim : DefOk P w K mg base "off_rim" 6 p_off_rim d_off_rim) (G__law_draw : DefOk P w K mg base "_law_draw" 1 p__law_draw d__law_draw) (G__law_faces : DefOk P w K mg base "_law_faces" 3 p__law_faces d__law_faces) (G_least_spare : DefOk P w K mg base "least_spare" 4 p_least_spare d_least_spare) (G_odd_places : DefOk P w K mg base "odd_places" 3 p_odd_places d_odd_places) (G_lets_lengths : DefOk P w K mg base "lets_lengths" 4 p_lets_lengths d_lets_lengths) (G_lengths_paper : DefOk P w K mg base "lengths_paper" 5 p_lengths_paper d_lengths_paper) (G__law_is_case : DefOk P w K mg base "_law_is_case" 5 p__law_is_case d__law_is_case) (G_told_cases : DefOk P w K mg base "told_cases" 1 p_told_cases d_told_cases) (G__law_tape : DefOk P w K mg base "_law_tape" 1 p__law_tape d__law_tape) : FnD P w K mg base 7 f fd p_law d_law := by
  refine fnD_of (k := 6) (N := N_law) (W := [1, 2, 3, 4, 5, 6, 7, 8]) (fb := b_law) F sc_law fun cdv A outer s H hgd hr => ?_
  have hu := hr.un
  have hu1 := room_u (n := 1) (k := 6) (u := (A.deeper _).units) (by decide) hu
  have hu40 := room_u (n := 40) (k := 6) (u := (A.deeper _).units) (by decide) hu
  have hu64 := room_u (n := 64) (k := 6) (u := (A.deeper _).units) (by decide) hu
  have hu65 := room_u (n := 65) (k := 6) (u := (A.deeper _).units) (by decide) hu
  exact dss_cons (ds_set (i := 1) sc_law.nd rfl (Or.inl rfl) (de_callG G__law_tape hgd hr (by decide) (by rfl) (fCons_len (fNil_len)) (da_cons (de_var (pv 0)) (da_nil)))) (dss_cons (ds_for PassesOwn.never rfl (di_rng1 (by rfl) T.b_range (da_cons (de_int) (da_nil))) (DG.dy (dg_name (pg_name (i := 2) sc_law.nd rfl (Or.inl rfl)))) (dss_cons (ds_set (i := 3) sc_law.nd rfl (Or.inl rfl) (de_callG0 G_told_cases hgd hr (by decide) (by rfl) rfl)) (dss_cons (ds_if (DW.dt (dw_or (dt_not (dt_val (de_isi .tuple (by rfl) T.b_isinstance (by rfl) T.b_tuple (de_var (pv 3))))) (dw_or1 (dt_not (dt_chain op_le op_le (de_int) (de_callB cx_len cs_len (by rfl) T.b_len (by first | rfl | decide +kernel) (da_cons (de_var (pv 3)) (da_nil))) (de_int)))))) (dss_one (ds_ret (de_bl))) (dss_nil)) (dss_one (ds_for PassesOwn.never rfl (di_rng1 (by rfl) T.b_range (da_cons (de_callB cx_len cs_len (by rfl) T.b_len (by first | rfl | decide +kernel) (da_cons (de_var (pv 3)) (da_nil))) (da_nil))) (DG.dy (dg_name (pg_name (i := 4) sc_law.nd rfl (Or.inl rfl)))) (dss_one (ds_if (DW.dt (dw_or (dt_not (dt_val (de_callG G__law_is_case hgd hr (by decide) (by rfl) (fCons_len (fNil_len)) (da_cons (de_sub hu1 (de_var (pv 3)) (de_var (pv 4)) (fun _ _ => rfl)) (da_nil))))) (dw_or1 (dt_cmp (op_inT hu65) o2_inT (de_sub hu1 (de_var (pv 3)) (de_var (pv 4)) (fun _ _ => rfl)) (de_cut (de_var (pv 3)) (do_none) (do_some (de_var (pv 4)))) (by rfl))))) (dss_one (ds_ret (de_bl))) (dss_nil)))))))) (dss_cons (ds_asg (de_sub hu1 (de_var (pv 3)) (de_callG G__law_draw hgd hr (by decide) (by rfl) (fCons_len (fCons_len (fNil_len))) (da_cons (de_var (pv 1)) (da_cons (de_callB cx_len cs_len (by rfl) T.b_len (by first | rfl | decide +kernel) (da_cons (de_var (pv 3)) (da_nil))) (da_nil)))) (fun _ _ => rfl)) (dg_tup rfl (dgs_cons (dg_name (pg_name (i := 5) sc_law.nd rfl (Or.inl rfl))) (dgs_cons (dg_name (pg_name (i := 6) sc_law.nd rfl (Or.inl rfl))) (dgs_cons (dg_name (pg_name (i := 7) sc_law.nd rfl (Or.inl rfl))) (dgs_cons (dg_name (pg_name (i := 8) sc_law.nd rfl (Or.inl rfl))) (dgs_nil))))))) (dss_cons (ds_if (dt_cmp op_notBl o2_isNotB (de_callG G_lets_lengths hgd hr (by decide) (by rfl) (fCons_len (fCons_len (fCons_len (fCons_len (fNil_len))))) (da_cons (de_var (pv 5)) (da_cons (de_var (pv 6)) (da_cons (de_var (pv 7)) (da_cons (de_callG G_lengths_paper hgd hr (by decide) (by rfl) (fCons_len (fCons_len (fCons_len (fNil_len)))) (da_cons (de_var (pv 5)) (da_cons (de_var (pv 7)) (da_cons (de_var (pv 8)) (da_nil))))) (da_nil)))))) (de_bl) (nomark _)) (dss_one (ds_ret (de_bl))) (dss_nil)) (dss_cons (ds_if (DW.dt (dw_or (dt_cmp op_lt (o2_cmp _) (de_sub hu1 (de_callG G_least_spare hgd hr (by decide) (by rfl) (fCons_len (fCons_len (fCons_len (fNil_len)))) (da_cons (de_var (pv 5)) (da_cons (de_var (pv 6)) (da_cons (de_var (pv 7)) (da_nil))))) (de_int) (fun _ _ => rfl)) (de_int) (nomark _)) (dw_or1 (dt_cmp (ox_ne hu64) o2_ne (de_callG G_odd_places hgd hr (by decide) (by rfl) (fCons_len (fCons_len (fCons_len (fNil_len)))) (da_cons (de_var (pv 5)) (da_cons (de_var (pv 6)) (da_cons (de_var (pv 7)) (da_nil))))) (de_tup (da_nil)) (nomark _))))) (dss_one (ds_ret (de_bl))) (dss_nil)) (dss_one (ds_ret (de_cmp op_notN o2_isNotN (de_callG G_off_rim hgd hr (by decide) (by rfl) (fCons_len (fCons_len (fCons_len (fNil_len)))) (da_cons (de_var (pv 5)) (da_cons (de_callG G__law_draw hgd hr (by decide) (by rfl) (fCons_len (fCons_len (fNil_len))) (da_cons (de_var (pv 1)) (da_cons (de_callB cx_len cs_len (by rfl) T.b_len (by first | rfl | decide +kernel) (da_cons (de_callG G__law_faces hgd hr (by decide) (by rfl) (fCons_len (fNil_len)) (da_cons (de_var (pv 5)) (da_nil))) (da_nil))) (da_nil)))) (da_cons (de_var (pv 7)) (da_nil))))) (de_non) (nomark _))))))))
end
end K72
/-! the meanings of the defs of law_k58_whole_least_spares; printed by gen.py -/
/-! meanings that many laws share; printed by gen.py, then kept -/
namespace RC
open PySem L2 DL
def b__law_draw : FS := fSeq (fIfS (fTest (fOp (dCmp pGt) (fOp dSubs (fVar 0) (fC (.int 2))) (fC (.int 0)))) (fSeq (fAsg (fOp dMod (fOp dSubs (fVar 0) (fC (.int 2))) (fVar 1)) (fgName 2)) (fSeq (fStore (fOp dDiv (fOp dSubs (fVar 0) (fC (.int 2))) (fVar 1)) (fpVar 0) (fC (.int 2))) (fRet (fVar 2)))) (fSkip)) (fSeq (fAsg (fOp dSubs (fVar 0) (fC (.int 1))) (fgName 3)) (fSeq (fStore (fOp dAdd (fVar 3) (fC (.int 1))) (fpVar 0) (fC (.int 1))) (fSeq (fAsg (fC (.int 0)) (fgName 4)) (fSeq (fIfS (fTest (fOp (dCmp pGt) (fCall dLen (fCons (fOp dSubs (fVar 0) (fC (.int 0))) (fNil))) (fC (.int 0)))) (fAsg (fOp dSubs (fOp dSubs (fVar 0) (fC (.int 0))) (fOp dMod (fVar 3) (fCall dLen (fCons (fOp dSubs (fVar 0) (fC (.int 0))) (fNil))))) (fgName 4)) (fSkip)) (fSeq (fIfS (fAnd (fTest (fOp (dCmp pGe) (fVar 4) (fOp dPow (fC (.int 10)) (fC (.int 18))))) (fTest (fOp (dCmp pLt) (fVar 3) (fCall dLen (fCons (fOp dSubs (fVar 0) (fC (.int 0))) (fNil)))))) (fSeq (fStore (fOp dDiv (fVar 4) (fVar 1)) (fpVar 0) (fC (.int 2))) (fRet (fOp dMod (fVar 4) (fVar 1)))) (fSkip)) (fSeq (fAsg (fOp dMod (fOp dPow (fOp dAdd (fOp dAdd (fOp dMod (fVar 4) (fC (.int 1000003))) (fOp dMul (fC (.int 15485863)) (fVar 3))) (fC (.int 101))) (fC (.int 5))) (fC (.int 2147483647))) (fgName 5)) (fSeq (fAsg (fOp dMod (fOp dPow (fOp dAdd (fOp dMul (fVar 5) (fOp dAdd (fOp dMod (fVar 3) (fC (.int 97))) (fC (.int 48271)))) (fVar 3)) (fC (.int 3))) (fC (.int 2147483629))) (fgName 5)) (fRet (fOp dMod (fOp dDiv (fVar 5) (fC (.int 64))) (fVar 1))))))))))
def d__law_draw : Den := denOf 6 2 [2, 3, 4, 4, 5, 5] b__law_draw
def b__law_turn : FS := fSeq (fAsg (fLstRg1 (fVar 1)) (fgName 2)) (fSeq (fAsg (fLst (fNil)) (fgName 3)) (fSeq (fFor (fRng1 (fCons (fVar 1) (fNil))) (fgName 4) (fSeq (fAsg (fMut isLst mPopAt (fpVar 2) (fCons (fCallD d__law_draw (fCons (fVar 0) (fCons (fCall dLen (fCons (fVar 2) (fNil))) (fNil)))) (fNil))) (fgName 5)) (fDrop (fMut isLst mAppend (fpVar 3) (fCons (fOp dAdd (fOp dMul (fC (.int 2)) (fVar 5)) (fCallD d__law_draw (fCons (fVar 0) (fCons (fC (.int 2)) (fNil))))) (fNil)))))) (fRet (fCall dTuple (fCons (fVar 3) (fNil))))))
def d__law_turn : Den := denOf 6 2 [2, 3, 4, 5] b__law_turn
end RC
/-! Webs by their rows: places, next ones; comprehensions over lists of anything. -/
namespace DL
open PySem PySem.Spec L2
/-! ### index of True -/
/-! ### webs -/
structure IsWeb (w : List (List Int)) (n : Nat) : Prop where
  ne : ∀ r ∈ w, r ≠ []
  perm : w.flatten.Perm (up (2 * n))
  pos : 1 ≤ n
  le : n ≤ 12
def spotOf (w : List (List Int)) (d : Int) : Nat := w.findIdx fun r => decide (d ∈ r)
def rowOf (w : List (List Int)) (d : Int) : List Int := (w[spotOf w d]?).getD []
def nextOf (w : List (List Int)) (d : Int) : Int := ((rowOf w d)[((rowOf w d).idxOf d + 1) % (rowOf w d).length]?).getD 0
def otherOf (d : Int) : Int := if d.fmod 2 = 0 then d + 1 else d - 1
section
variable {w : List (List Int)} {n : Nat} (W : IsWeb w n)
include W
theorem IsWeb.nodup : w.flatten.Nodup := W.perm.nodup_iff.mpr (up_nodup _)
theorem IsWeb.mem {d : Int} : d ∈ w.flatten ↔ 0 ≤ d ∧ d < 2 * n := by
  rw [W.perm.mem_iff, up_mem]
  simp
theorem IsWeb.len : w.flatten.length = 2 * n := by rw [W.perm.length_eq, up_length]
theorem IsWeb.row {r : List Int} (h : r ∈ w) : r.length ≤ 24 := by
  have := row_le h
  rw [W.len] at this
  have := W.le
  omega
theorem IsWeb.row_nodup {r : List Int} (h : r ∈ w) : r.Nodup := (List.pairwise_flatten.mp W.nodup).1 r h
/-- the row that it stands in, its place -/
theorem IsWeb.place {p : Nat} {r : List Int} {d : Int} (hp : w[p]? = some r) (hd : d ∈ r) : spotOf w d = p := by
  have hlt := (List.getElem?_eq_some_iff.mp hp).1
  have hr := (List.getElem?_eq_some_iff.mp hp).2
  unfold spotOf
  rw [List.findIdx_eq hlt]
  refine ⟨by rw [hr]; simpa using hd, fun j hj => ?_⟩
  have := (List.pairwise_flatten.mp W.nodup).2
  rw [List.pairwise_iff_getElem] at this
  have := this j p (by omega) hlt hj
  rw [hr] at this
  rw [decide_eq_false_iff_not]
  exact fun z => this d z d hd rfl
theorem IsWeb.at {d : Int} (h : d ∈ w.flatten) : ∃ p r, w[p]? = some r ∧ d ∈ r ∧ spotOf w d = p ∧ rowOf w d = r := by
  obtain ⟨r, hr, hd⟩ := List.mem_flatten.mp h
  obtain ⟨p, hlt, hp⟩ := List.mem_iff_getElem.mp hr
  have hp' : w[p]? = some r := by rw [List.getElem?_eq_getElem hlt, hp]
  have e := W.place hp' hd
  exact ⟨p, r, hp', hd, e, by unfold rowOf; rw [e, hp']; rfl⟩
end
end DL
/-! Loops by their count; dicts by their rows. -/
namespace DL
open PySem PySem.Spec L2
theorem ok_at {α : Type} {fg : FG} {fb : FS} {P : Fl × Fm → Prop} {emb : α → D} (xs : List α) (I : Nat → Fm → Prop) (step : ∀ p x ρ, xs[p]? = some x → I p ρ → Ok (fg (emb x) ρ) fun ρ1 => Ok (fb ρ1) fun x => match x.1 with
    | .nx => I (p + 1) x.2
    | .ct => I (p + 1) x.2
    | .bk => P (.nx, x.2)
    | .ret v => P (.ret v, x.2)) (done : ∀ ρ, I xs.length ρ → P (.nx, ρ)) {ρ : Fm} (h0 : I 0 ρ) : Ok (forD fg fb (xs.map emb) ρ) P := by
  refine ok_for (fun rest ρ => ∃ p, p ≤ xs.length ∧ rest = (xs.drop p).map emb ∧ I p ρ) ?_ ?_ ⟨0, Nat.zero_le _, rfl, h0⟩
  · rintro d r ρ ⟨p, hp, e, hI⟩
    cases hx : xs[p]? with
    | none =>
      rw [List.drop_eq_nil_of_le (List.getElem?_eq_none_iff.mp hx)] at e
      cases e
    | some x =>
      have hlt := (List.getElem?_eq_some_iff.mp hx).1
      rw [List.drop_eq_getElem_cons hlt, (List.getElem?_eq_some_iff.mp hx).2] at e
      injection e with e1 e2
      subst e1 e2
      refine ok_mono (step p x ρ hx hI) fun ρ1 h1 => ok_mono h1 fun y h2 => ?_
      obtain ⟨o, ρ2⟩ := y
      cases o with
      | nx => exact ⟨p + 1, hlt, rfl, h2⟩
      | ct => exact ⟨p + 1, hlt, rfl, h2⟩
      | bk => exact h2
      | ret v => exact h2
  · rintro ρ ⟨p, hp, e, hI⟩
    have hl : xs.length ≤ p := by
      have := congrArg List.length e
      simp at this
      omega
    have : p = xs.length := by omega
    subst this
    exact done ρ hI
theorem ok_iota {n : Nat} {fg : FG} {fb : FS} {P : Fl × Fm → Prop} (I : Nat → Fm → Prop) (step : ∀ p ρ, p < n → I p ρ → Ok (fg (.int (p : Nat)) ρ) fun ρ1 => Ok (fb ρ1) fun x => match x.1 with
    | .nx => I (p + 1) x.2
    | .ct => I (p + 1) x.2
    | .bk => P (.nx, x.2)
    | .ret v => P (.ret v, x.2)) (done : ∀ ρ, I n ρ → P (.nx, ρ)) {ρ : Fm} (h0 : I 0 ρ) : Ok (forD fg fb (iota 0 n) ρ) P := by
  have e : iota 0 n = (List.range n).map fun (i : Nat) => D.int (i : Int) := by simp [iota]
  rw [e]
  refine ok_at (List.range n) I (fun p x ρ hx hI => ?_) (fun ρ h => done ρ (by simpa using h)) h0
  obtain ⟨hlt, hx⟩ := List.getElem?_eq_some_iff.mp hx
  simp at hlt hx
  subst hx
  exact step p ρ hlt hI
/-! ### dicts with whole numbers as keys -/
def kvsOf (f : Int → D) (ds : List Int) : List (Key × D) := ds.map fun d => (Sum.inl d, f d)
@[simp] theorem kvs_len {f : Int → D} {ds : List Int} : (kvsOf f ds).length = ds.length := by simp [kvsOf]
@[simp] theorem kvs_nil {f : Int → D} : kvsOf f [] = [] := rfl
section
variable {w : List (List Int)} {n : Nat} (W : IsWeb w n)
include W
theorem IsWeb.spots {p a : Nat} {r : List Int} {d : Int} (hp : w[p]? = some r) (ha : r[a]? = some d) : spotOf w d = p ∧ rowOf w d = r ∧ r.idxOf d = a := by
  have hd := List.mem_of_getElem? ha
  have e := W.place hp hd
  refine ⟨e, by unfold rowOf; rw [e, hp]; rfl, ?_⟩
  obtain ⟨hlt, hx⟩ := List.getElem?_eq_some_iff.mp ha
  rw [← hx]
  exact (W.row_nodup (List.mem_of_getElem? hp)).idxOf_getElem a hlt
theorem IsWeb.next {p a : Nat} {r : List Int} {d : Int} (hp : w[p]? = some r) (ha : r[a]? = some d) : (a + 1 < r.length → r[a + 1]? = some (nextOf w d)) ∧ (¬ a + 1 < r.length → r[0]? = some (nextOf w d)) := by
  obtain ⟨e1, e2, e3⟩ := W.spots hp ha
  obtain ⟨hlt, hx⟩ := List.getElem?_eq_some_iff.mp ha
  have hm : (a + 1) % r.length < r.length := Nat.mod_lt _ (by omega)
  have en : r[(a + 1) % r.length]? = some (nextOf w d) := by
    unfold nextOf
    rw [e2, e3, List.getElem?_eq_getElem hm]
    rfl
  refine ⟨fun h => by rwa [Nat.mod_eq_of_lt h] at en, fun h => ?_⟩
  have : a + 1 = r.length := by omega
  rwa [this, Nat.mod_self] at en
theorem IsWeb.split {p a : Nat} {r : List Int} {d : Int} (hp : w[p]? = some r) (ha : r[a]? = some d) : d ∉ (w.take p).flatten ++ r.take a ∧ ((w.take p).flatten ++ r.take a).length < 100000 := by
  obtain ⟨h1, h2⟩ := List.getElem?_eq_some_iff.mp hp
  obtain ⟨h3, h4⟩ := List.getElem?_eq_some_iff.mp ha
  have e1 : w = w.take p ++ r :: w.drop (p + 1) := by rw [← h2, ← List.drop_eq_getElem_cons h1, List.take_append_drop]
  have e2 : r = r.take a ++ d :: r.drop (a + 1) := by rw [← h4, ← List.drop_eq_getElem_cons h3, List.take_append_drop]
  have e3 : w.flatten = ((w.take p).flatten ++ r.take a) ++ d :: (r.drop (a + 1) ++ (w.drop (p + 1)).flatten) := by
    conv => lhs; rw [e1]
    rw [List.flatten_append, List.flatten_cons]
    conv => lhs; rw [e2]
    simp only [List.append_assoc, List.cons_append]
  have nd := W.nodup
  have hl := W.len
  have hn := W.le
  rw [e3] at nd hl
  refine ⟨fun z => (List.nodup_append.mp nd).2.2 d z d List.mem_cons_self rfl, ?_⟩
  rw [List.length_append] at hl
  omega
end
end DL
/-! More readings: backwards, kinds, sets, loops in place, zip; rules for comprehensions. -/
namespace DL
open PySem PySem.Spec L2
section
variable {ρ : Fm} {f : FS} {fe fa fb : FE} {fr : FA} {d : D} {ds : List D} {ns : List Int} {i j : Nat}
@[simp] theorem ap_rev : fRev fe ρ = (fe ρ).bind fun x => (cont x.2 x.1).bind fun d => (dRev d).map fun z => (.val z, x.2) := rfl
@[simp] theorem ap_isi {k : Kd} : fIsi k fe ρ = (fe ρ).bind fun x => (cont x.2 x.1).bind fun d => if isX d = true then none else some (.val (.bl (isK k d)), x.2) := rfl
@[simp] theorem isX_non : isX .non = false := rfl
@[simp] theorem isX_bl {b : Bool} : isX (.bl b) = false := rfl
@[simp] theorem isX_int {i : Int} : isX (.int i) = false := rfl
@[simp] theorem isX_str {x : Str} : isX (.str x) = false := rfl
@[simp] theorem isX_tup {ds : List D} : isX (.tup ds) = false := rfl
@[simp] theorem isX_lst {ds : List D} : isX (.lst ds) = false := rfl
@[simp] theorem isX_flst {ds : List D} : isX (.flst ds) = false := rfl
@[simp] theorem isX_dic {kvs : List (Key × D)} : isX (.dic kvs) = false := rfl
@[simp] theorem isX_row {r : List Int} : isX (rowD r) = false := rfl
@[simp] theorem isX_fdic {kvs : List (Key × D)} : isX (.fdic kvs) = false := rfl
@[simp] theorem ap_setLen : fSetLen fe ρ = (fe ρ).bind fun x => (cont x.2 x.1).bind fun d => (intsIn d).bind fun ns => if ns.length ≤ 4000 then some (.val (.int (ascend ns).length), x.2) else none := rfl
@[simp] theorem ap_setSorted : fSetSorted fe ρ = (fe ρ).bind fun x => (cont x.2 x.1).bind fun d => (intsIn d).bind fun ns => if ns.length ≤ 4000 ∧ (ascend ns).length < 64 then some (.val (.lst ((ascend ns).map .int)), x.2) else none := rfl
@[simp] theorem ap_never : fNever ρ = none := rfl
@[simp] theorem ap_forM : fForM i j f ρ = match slot ρ i with
  | some (.lst ds) => loopM i j f [] ds (ρ.set i none)
  | _ => none := rfl
@[simp] theorem ap_forN : fForN i j f ρ = match slot ρ i with
  | some (.lst ds) => loopM i j f [] ds (ρ.set i none)
  | _ => fFor (fSeqI (fVar i)) (fgName j) f ρ := rfl
@[simp] theorem ap_pick : fPick fa fb ρ = (fa ρ).bind fun x => (fb x.2).bind fun y => match x.1, cont y.2 y.1 with
  | .val (.lst ds), some (.int i) => (atI ds i).map fun d => (.val d, y.2)
  | _, _ => none := rfl
@[simp] theorem ap_zip : fZip fr ρ = (fr ρ).bind fun x => (conts x.2 x.1).bind fun ds => match ds with
  | [x1, y] => (fZip.seqS x1).bind fun ds => (fZip.seqS y).map fun es => (zipped ds es, x.2)
  | _ => none := rfl
@[simp] theorem seqS_t : fZip.seqS (.tup ds) = if immL ds = true then some ds else none := rfl
@[simp] theorem seqS_f : fZip.seqS (.flst ds) = if immL ds = true then some ds else none := rfl
@[simp] theorem ap_enum : fEnum fr ρ = (fr ρ).bind fun x => (conts x.2 x.1).bind fun ds => match ds with
  | [.tup ds] => if immL ds = true then some (counted ds, x.2) else none
  | [.flst ds] => if immL ds = true then some (counted ds, x.2) else none
  | _ => none := rfl
@[simp] theorem rev_t : dRev (.tup ds) = if immL ds = true then some (.tup ds.reverse) else none := rfl
@[simp] theorem rev_l : dRev (.lst ds) = if immL ds = true then some (.lst ds.reverse) else none := rfl
@[simp] theorem rev_f : dRev (.flst ds) = if immL ds = true then some (.lst ds.reverse) else none := rfl
@[simp] theorem intsIn_l : intsIn (.lst (ns.map .int)) = some ns := intsOf_ints ns
@[simp] theorem intsIn_f : intsIn (.flst (ns.map .int)) = some ns := intsOf_ints ns
@[simp] theorem intsIn_t : intsIn (.tup (ns.map .int)) = some ns := intsOf_ints ns
@[simp] theorem min2_int {i j : Int} : dMin2 [.int i, .int j] = some (.int (min i j)) := by
  show some (D.int (if j < i then j else i)) = _
  rw [Int.min_def]
  by_cases h : j < i
  · rw [if_pos h, if_neg (by omega)]
  · rw [if_neg h, if_pos (by omega)]
@[simp] theorem max2_int {i j : Int} : dMax2 [.int i, .int j] = some (.int (max i j)) := by
  show some (D.int (if j > i then j else i)) = _
  rw [Int.max_def]
  by_cases h : j > i
  · rw [if_pos h, if_pos (by omega)]
  · rw [if_neg h]
    by_cases h2 : i ≤ j
    · rw [if_pos h2, show i = j by omega]
    · rw [if_neg h2]
@[simp] theorem isB_bl {a b : Bool} : dIsB (.bl a) (.bl b) = some (.bl (decide (a = b))) := rfl
@[simp] theorem isNotB_bl {a b : Bool} : dIsNotB (.bl a) (.bl b) = some (.bl (!decide (a = b))) := rfl
@[simp] theorem int_int {i : Int} : dInt [.int i] = some (.int i) := rfl
@[simp] theorem int_bl {b : Bool} : dInt [.bl b] = some (.int (if b then 1 else 0)) := rfl
@[simp] theorem eq_bl {a b : Bool} : dEq (.bl a) (.bl b) = some (.bl (decide (a = b))) := by
  show some (D.bl (decide (V.bl a = V.bl b))) = _
  simp
@[simp] theorem ne_bl {a b : Bool} : dNe (.bl a) (.bl b) = some (.bl (!decide (a = b))) := by
  show some (D.bl (!decide (V.bl a = V.bl b))) = _
  simp
@[simp] theorem eq_str {i j : Str} : dEq (.str i) (.str j) = some (.bl (decide (i = j))) := by
  show some (D.bl (decide (V.str i = V.str j))) = _
  simp
@[simp] theorem sum_ints : dSum [.lst (ns.map .int)] = some (.int ns.sum) := by
  show (intsOf (ns.map .int)).map _ = _
  rw [intsOf_ints]; rfl
end
@[simp] theorem pLt_eq {i j : Int} : pLt i j = decide (i < j) := rfl
@[simp] theorem pLe_eq {i j : Int} : pLe i j = decide (i ≤ j) := rfl
@[simp] theorem pGt_eq {i j : Int} : pGt i j = decide (j < i) := rfl
@[simp] theorem pGe_eq {i j : Int} : pGe i j = decide (j ≤ i) := rfl
/-! ### loops in place -/
/-! ### comprehensions by an invariant -/
end DL
/-! Rows of darts in plain Lean: a dart put ahead of another one, darts called otherwise, sums over darts. -/
namespace WA
open DL
/-- rows of the darts below m, each once, none void -/
structure Rows (rows : List (List Int)) (m : Nat) : Prop where
  ne : ∀ r ∈ rows, r ≠ []
  perm : rows.flatten.Perm (up m)
section
variable {rows : List (List Int)} {m : Nat} (R : Rows rows m)
include R
theorem Rows.nodup : rows.flatten.Nodup := R.perm.nodup_iff.mpr (up_nodup _)
theorem Rows.mem {d : Int} : d ∈ rows.flatten ↔ 0 ≤ d ∧ d < m := by rw [R.perm.mem_iff, up_mem]
theorem Rows.len : rows.flatten.length = m := by rw [R.perm.length_eq, up_length]
theorem Rows.few : rows.length ≤ m := by
  have := rows_le R.ne
  rwa [R.len] at this
theorem Rows.row {r : List Int} (h : r ∈ rows) : r.length ≤ m := by
  have := row_le h
  rwa [R.len] at this
theorem Rows.row_nodup {r : List Int} (h : r ∈ rows) : r.Nodup := (List.pairwise_flatten.mp R.nodup).1 r h
theorem Rows.at {d : Int} (h : 0 ≤ d ∧ d < m) : ∃ r ∈ rows, d ∈ r := List.mem_flatten.mp (R.mem.mpr h)
end
theorem up_succ (m : Nat) : up (m + 1) = up m ++ [(m : Int)] := by simp [up, List.range_succ]
/-! ### a fresh dart just ahead of a dart -/
def putRow (d f : Int) (r : List Int) : List Int := if d ∈ r then r.take (r.idxOf d) ++ f :: r.drop (r.idxOf d) else r
theorem putRow_ne {d f : Int} {r : List Int} (h : r ≠ []) : putRow d f r ≠ [] := by
  unfold putRow
  split
  · simp
  · exact h
theorem putRow_perm {d f : Int} {r : List Int} (h : d ∈ r) : (putRow d f r).Perm (f :: r) := by
  unfold putRow
  rw [if_pos h]
  refine List.perm_middle.trans ?_
  rw [List.take_append_drop]
theorem put_off {d f : Int} : ∀ {rows : List (List Int)}, d ∉ rows.flatten → rows.map (putRow d f) = rows
  | [], _ => rfl
  | r :: rows, h => by
    rw [List.flatten_cons, List.mem_append, not_or] at h
    rw [List.map_cons, put_off h.2]
    unfold putRow
    rw [if_neg h.1]
theorem put_flat {d f : Int} : ∀ {rows : List (List Int)}, rows.flatten.Nodup → d ∈ rows.flatten → (rows.map (putRow d f)).flatten.Perm (f :: rows.flatten)
  | [], _, h => by simp at h
  | r :: rows, nd, h => by
    rw [List.flatten_cons] at nd h ⊢
    rw [List.map_cons, List.flatten_cons]
    obtain ⟨n1, n2, n3⟩ := List.nodup_append.mp nd
    by_cases hr : d ∈ r
    · rw [put_off fun z => n3 d hr d z rfl]
      exact (putRow_perm hr).append_right _
    · have hd : d ∈ rows.flatten := (List.mem_append.mp h).resolve_left hr
      have e : putRow d f r = r := by unfold putRow; rw [if_neg hr]
      rw [e]
      exact ((put_flat n2 hd).append_left r).trans List.perm_middle
theorem Rows.put {rows : List (List Int)} {m : Nat} (R : Rows rows m) {d : Int} (h : 0 ≤ d ∧ d < m) : Rows (rows.map (putRow d m)) (m + 1) where
  ne r hr := by
    obtain ⟨q, hq, rfl⟩ := List.mem_map.mp hr
    exact putRow_ne (R.ne q hq)
  perm := by
    rw [up_succ]
    exact (put_flat R.nodup (R.mem.mpr h)).trans ((R.perm.cons _).trans (List.perm_append_singleton _ _).symm)
/-! ### darts called otherwise -/
def callBy (C : List Int) (d : Int) : Int := C.getD d.toNat 0
/-! ### ties' darts by pairs -/
def pairs (ts : List Int) : List Int := ts.flatMap fun t => [2 * t, 2 * t + 1]
theorem pairs_up (n : Nat) : pairs (up n) = up (2 * n) := by
  induction n with
  | zero => rfl
  | succ n ih =>
    rw [up_succ, show 2 * (n + 1) = 2 * n + 1 + 1 by omega, up_succ, up_succ]
    unfold pairs at ih ⊢
    rw [List.flatMap_append, ih]
    simp
theorem pairs_perm {a b : List Int} (h : a.Perm b) : (pairs a).Perm (pairs b) := h.flatMap_right _
theorem otherOf_even (t : Int) : otherOf (2 * t) = 2 * t + 1 := by
  have : (2 * t).fmod 2 = 0 := by rw [Int.fmod_eq_emod_of_nonneg _ (by decide)]; omega
  unfold otherOf
  rw [if_pos this]
theorem otherOf_odd (t : Int) : otherOf (2 * t + 1) = 2 * t := by
  have : ¬ (2 * t + 1).fmod 2 = 0 := by rw [Int.fmod_eq_emod_of_nonneg _ (by decide)]; omega
  unfold otherOf
  rw [if_neg this]
  omega
/-! ### sums -/
def tot {α : Type} (g : α → Int) : List α → Int
  | [] => 0
  | a :: l => g a + tot g l
section
variable {α : Type} {g k : α → Int}
theorem tot_append (a b : List α) : tot g (a ++ b) = tot g a + tot g b := by
  induction a with
  | nil => simp [tot]
  | cons x a ih => simp only [List.cons_append, tot, ih]; omega
theorem tot_congr {a : List α} (h : ∀ x ∈ a, g x = k x) : tot g a = tot k a := by
  induction a with
  | nil => rfl
  | cons x a ih => simp only [tot, h x List.mem_cons_self, ih fun y hy => h y (List.mem_cons_of_mem _ hy)]
theorem tot_add (a : List α) : tot (fun x => g x + k x) a = tot g a + tot k a := by
  induction a with
  | nil => rfl
  | cons x a ih => simp only [tot, ih]; omega
theorem tot_zero (a : List α) : tot (fun _ => 0) a = 0 := by
  induction a with
  | nil => rfl
  | cons x a ih => simp only [tot, ih]; omega
theorem tot_one (a : List α) : tot (fun _ => 1) a = a.length := by
  induction a with
  | nil => rfl
  | cons x a ih => simp only [tot, ih, List.length_cons]; omega
end
end WA
namespace RM
open PySem PySem.Spec L2 DL
theorem draw_ok {d : D} {m : Int} (h : IsFeed d) (h1 : 1 ≤ m) (h2 : m < 1073741824) :
    Ok (d__law_draw [d, .int m]) fun ro => ∃ i d', ro.1 = .int i ∧ 0 ≤ i ∧ i < m ∧ IsFeed d' ∧ ro.2 = [some d', some (.int m)] := by
  obtain ⟨cs, a, l, t, rfl⟩ := h
  have hm : m ≠ 0 := by omega
  have hm' : m.natAbs < 1073741824 := by omega
  have fin : ∀ (x : Int) (a' l' t' : Int), ∃ i d', D.int (x.fmod m) = .int i ∧ 0 ≤ i ∧ i < m ∧ IsFeed d' ∧ [some (feedD cs a' l' t'), some (D.int m)] = [some d', some (.int m)] := fun x a' l' t' => ⟨_, _, rfl, Int.fmod_nonneg_of_pos x (by omega), Int.fmod_lt_of_pos x (by omega), ⟨cs, a', l', t', rfl⟩, rfl⟩
  by_cases hl : 0 < l
  · exact ok_mono (P := fun x => x = (D.int (l.fmod m), [some (feedD cs a (l.fdiv m) (t + 1)), some (D.int m)])) (by simp [d__law_draw, b__law_draw, denOf, hm, hm', hl]) fun x e => by rw [e]; exact fin _ _ _ _
  · have gen : ∃ x l', Ok (d__law_draw [feedD cs a l t, .int m]) fun y => y = (D.int (Int.fmod x m), [some (feedD cs (a + 1) l' (t + 1)), some (D.int m)]) := by
      by_cases hc : cs = []
      · subst hc
        exact ⟨_, l, by simp [d__law_draw, b__law_draw, denOf, hm, hm', hl]; rfl⟩
      · obtain ⟨c, ec⟩ := cell_at a hc
        have hlen : (cs.length : Int) ≠ 0 := by have := List.length_pos_iff.mpr hc; omega
        by_cases h3 : 1000000000000000000 ≤ c ∧ a < cs.length
        · exact ⟨c, c.fdiv m, by simp [d__law_draw, b__law_draw, denOf, hm, hm', hl, hc, ec, h3.1, h3.2, hlen]⟩
        · by_cases h4 : 1000000000000000000 ≤ c
          · have h5 : ¬ a < cs.length := fun z => h3 ⟨h4, z⟩
            exact ⟨_, l, by simp [d__law_draw, b__law_draw, denOf, hm, hm', hl, hc, ec, h4, h5, hlen]; rfl⟩
          · exact ⟨_, l, by simp [d__law_draw, b__law_draw, denOf, hm, hm', hl, hc, ec, h4, hlen]; rfl⟩
    obtain ⟨x, l', g⟩ := gen
    exact ok_mono g fun y e => by rw [e]; exact fin _ _ _ _
abbrev lstR (r : List Int) : D := .lst (intsD r)
abbrev flR (r : List Int) : D := .flst (intsD r)
theorem frzL_rows (rows : List (List Int)) : frzL (rows.map lstR) = some (rows.map flR) := by
  induction rows with
  | nil => rfl
  | cons r rows ih => simp [ih]
theorem immL_flR (rows : List (List Int)) : immL (rows.map flR) = true := by
  induction rows with
  | nil => rfl
  | cons r rows ih => simp [ih]
end RM
namespace RM
open PySem PySem.Spec L2 DL
theorem draw_eq {d : D} {m : Int} (h : IsFeed d) (h1 : 1 ≤ m) (h2 : m < 1073741824) :
    ∃ i d', d__law_draw [d, .int m] = some (.int i, [some d', some (.int m)]) ∧ 0 ≤ i ∧ i < m ∧ IsFeed d' ∧ imm d' = false := by
  obtain ⟨⟨r, o⟩, e, i, d', e1, h0, h3, hf, e2⟩ := draw_ok h h1 h2
  cases e1
  cases e2
  exact ⟨i, d', e, h0, h3, hf, hf.imm⟩
end RM
/-! What the program's small functions tell of a web. -/
namespace RM
open PySem PySem.Spec L2 DL
end RM
namespace RM
open PySem PySem.Spec L2 DL
end RM
/-! The fourth family's tape, draws. -/
namespace RD
open PySem PySem.Spec L2 DL WA
def tapeD (cs : List Int) (a l t : Int) : D := .lst [.flst (cs.map .int), .int a, .int l, .int t]
def IsTape (d : D) : Prop := ∃ cs a l t, d = tapeD cs a l t
@[simp] theorem tape_imm (cs : List Int) (a l t : Int) : imm (tapeD cs a l t) = false := rfl
@[simp] theorem tape_0 (cs : List Int) (a l t : Int) : dSubs (tapeD cs a l t) (.int 0) = some (.flst (cs.map .int)) := dSubs_seq (ds := [.flst (cs.map .int), .int a, .int l, .int t]) rfl (by decide) rfl (immL_ints _)
@[simp] theorem tape_1 (cs : List Int) (a l t : Int) : dSubs (tapeD cs a l t) (.int 1) = some (.int a) := rfl
@[simp] theorem tape_2 (cs : List Int) (a l t : Int) : dSubs (tapeD cs a l t) (.int 2) = some (.int l) := rfl
@[simp] theorem tape_3 (cs : List Int) (a l t : Int) : dSubs (tapeD cs a l t) (.int 3) = some (.int t) := rfl
@[simp] theorem tput_1 (cs : List Int) (a l t u : Int) : dStore (tapeD cs a l t) (.int 1) (.int u) = some (tapeD cs u l t) := rfl
@[simp] theorem tput_2 (cs : List Int) (a l t u : Int) : dStore (tapeD cs a l t) (.int 2) (.int u) = some (tapeD cs a u t) := rfl
@[simp] theorem tput_3 (cs : List Int) (a l t u : Int) : dStore (tapeD cs a l t) (.int 3) (.int u) = some (tapeD cs a l u) := rfl
theorem IsTape.imm {d : D} (h : IsTape d) : imm d = false := by obtain ⟨_, _, _, _, rfl⟩ := h; rfl
theorem mul_fm9 {x y : Int} : dMul (.int (x.fmod 2147483629)) (.int y) = some (.int (x.fmod 2147483629 * y)) := by
  have := fmod_in x (m := 2147483629) (by decide)
  exact mul_l (by omega) (by omega)
theorem draw_eq {d : D} {m : Int} (h : IsTape d) (h1 : 1 ≤ m) (h2 : m < 1073741824) :
    ∃ i d', d__law_draw [d, .int m] = some (.int i, [some d', some (.int m)]) ∧ 0 ≤ i ∧ i < m ∧ IsTape d' ∧ imm d' = false := by
  obtain ⟨cs, a, l, t, rfl⟩ := h
  have hm : m ≠ 0 := by omega
  have hm' : m.natAbs < 1073741824 := by omega
  suffices ∃ (x a' l' t' : Int), d__law_draw [tapeD cs a l t, .int m] = some (.int (x.fmod m), [some (tapeD cs a' l' t'), some (.int m)]) by
    obtain ⟨x, a', l', t', e⟩ := this
    exact ⟨_, _, e, Int.fmod_nonneg_of_pos x (by omega), Int.fmod_lt_of_pos x (by omega), ⟨_, _, _, _, rfl⟩, rfl⟩
  by_cases hl : 0 < l
  · exact ⟨l, a, l.fdiv m, t + 1, by simp [d__law_draw, b__law_draw, denOf, hm, hm', hl]⟩
  · by_cases hc : cs = []
    · subst hc
      exact ⟨_, a + 1, l, t + 1, by simp [d__law_draw, b__law_draw, denOf, hm, hm', hl, mul_fm9]; rfl⟩
    · obtain ⟨c, ec⟩ := cell_at a hc
      have hlen : (cs.length : Int) ≠ 0 := by have := List.length_pos_iff.mpr hc; omega
      by_cases h4 : 1000000000000000000 ≤ c
      · by_cases h3 : a + 1 ≤ cs.length
        · exact ⟨c, a + 1, c.fdiv m, t + 1, by simp [d__law_draw, b__law_draw, denOf, hm, hm', hl, hc, ec, h3, h4, hlen]⟩
        · exact ⟨_, a + 1, l, t + 1, by simp [d__law_draw, b__law_draw, denOf, hm, hm', hl, hc, ec, h3, h4, hlen, mul_fm9]; rfl⟩
      · exact ⟨_, a + 1, l, t + 1, by simp [d__law_draw, b__law_draw, denOf, hm, hm', hl, hc, ec, h4, hlen, mul_fm9]; rfl⟩
theorem tape_ok (ns : List Int) : ∃ d, d__law_tape [.flst (ns.map .int)] = some (d, [some (.flst (ns.map .int))]) ∧ IsTape d := by
  have e : cut (ns.map D.int) none (some 63) = (cut ns none (some 63)).map .int := by unfold cut; simp
  have l1 : dList [.flst ((cut ns none (some 63)).map .int)] = some (.lst ((cut ns none (some 63)).map .int)) := if_pos (immL_ints _)
  refine ⟨tapeD (cut ns none (some 63)) 0 0 0, ?_, ⟨_, _, _, _, rfl⟩⟩
  simp [d__law_tape, b__law_tape, denOf, e, l1, big_ok, tapeD]
end RD
/-! Pieces of meanings that many laws share: a row begun with its least, names of darts in a dict, ties popped by draws. -/
namespace WB
open PySem PySem.Spec L2 DL WA RM
/-! ### names in a dict -/
theorem callBy_more {C E : List Int} {d : Int} (h0 : 0 ≤ d) (h : d < C.length) : callBy (C ++ E) d = callBy C d := by
  unfold callBy
  rw [List.getD_eq_getElem?_getD, List.getD_eq_getElem?_getD, List.getElem?_append_left (by omega)]
theorem callBy_new {C E : List Int} {x : Int} : callBy (C ++ x :: E) C.length = x := by
  unfold callBy
  simp
/-! ### ties called by draws -/
/-- names of the darts of the ties so far, of n in all; what is left of the ties -/
structure Named (n : Nat) (C left : List Int) : Prop where
  perm : (C ++ pairs left).Perm (up (2 * n))
  even : C.length = 2 * (n - left.length)
  less : left.length ≤ n
  tied : ∀ (t : Nat), 2 * t < C.length → callBy C (2 * t + 1 : Nat) = otherOf (callBy C (2 * t : Nat))
theorem named_begin (n : Nat) : Named n [] (up n) := ⟨by rw [List.nil_append, pairs_up], by rw [up_length]; simp, by rw [up_length]; exact Nat.le_refl _, fun t h => by simp at h⟩
theorem named_step {n : Nat} {C left : List Int} (N : Named n C left) {i : Nat} {c u : Int} (hc : left[i]? = some c) (hu : u = 0 ∨ u = 1) : Named n (C ++ [2 * c + u, 2 * c + 1 - u]) (left.eraseIdx i) := by
  have lt := (List.getElem?_eq_some_iff.mp hc).1
  have ln := List.length_eraseIdx_of_lt lt
  have hl := N.less
  have he := N.even
  have two : [2 * c + u, 2 * c + 1 - u].Perm [2 * c, 2 * c + 1] := by
    rcases hu with rfl | rfl
    · simp
    · have e1 : 2 * c + 1 - 1 = 2 * c := by omega
      rw [e1]
      exact List.Perm.swap _ _ _
  refine ⟨?_, by rw [List.length_append, ln, he]; simp; omega, by omega, fun t ht => ?_⟩
  · refine List.Perm.trans ?_ N.perm
    rw [List.append_assoc]
    refine List.Perm.append_left _ ((two.append_right _).trans ?_)
    exact (pairs_perm (erase_perm hc)).symm.symm
  · rw [List.length_append] at ht
    by_cases h : 2 * t < C.length
    · have h2 : 2 * t + 1 < C.length := by omega
      rw [callBy_more (by omega) (by omega), callBy_more (by omega) (by omega)]
      exact N.tied t h
    · have e : 2 * t = C.length := by simp at ht; omega
      have a1 : callBy (C ++ [2 * c + u, 2 * c + 1 - u]) (2 * t : Nat) = 2 * c + u := by rw [e]; exact callBy_new
      have a2 : callBy (C ++ [2 * c + u, 2 * c + 1 - u]) (2 * t + 1 : Nat) = 2 * c + 1 - u := by
        rw [e, show C ++ [2 * c + u, 2 * c + 1 - u] = (C ++ [2 * c + u]) ++ [2 * c + 1 - u] by simp, show C.length + 1 = (C ++ [2 * c + u]).length by simp]
        exact callBy_new
      rw [a1, a2]
      rcases hu with rfl | rfl
      · rw [show 2 * c + 0 = 2 * c by omega, otherOf_even]; omega
      · rw [otherOf_odd]; omega
end WB
/-! The faces of a web, as the program walks them. -/
namespace RM
open PySem PySem.Spec L2 DL
/-- seen ones: unlike darts of so many -/
def Seen (m : Nat) (l : List Int) : Prop := l.Nodup ∧ ∀ d ∈ l, 0 ≤ d ∧ d < m
theorem Seen.len {m : Nat} {l : List Int} (h : Seen m l) : l.length ≤ m := by
  have sub : l ⊆ up m := fun d hd => up_mem.mpr (h.2 d hd)
  have := h.1.length_le_of_subset sub
  rwa [up_length] at this
end RM
namespace RM
open PySem PySem.Spec L2 DL
end RM
/-! The walk along a face comes back to where it began. -/
namespace RM
open PySem PySem.Spec L2 DL
end RM
/-! Rings: the walk from an unseen dart comes back to it; the faces by their least unseen darts. -/
namespace RM
open PySem PySem.Spec L2 DL
/-- k steps on -/
def it (f : Int → Int) (d : Int) : Nat → Int
  | 0 => d
  | k + 1 => f (it f d k)
/-! ### by the least unseen -/
end RM
/-! What the faces are: whole rings, all darts among them, each once. -/
namespace RM
open PySem PySem.Spec L2 DL
end RM
/-! Webs that are grown or drawn in tie by tie; loops over whole numbers from some one on. -/
namespace WC
open PySem PySem.Spec L2 DL WA RM WB
/-! ### loops -/
end WC
/-! The fourth family's webs. -/
namespace RD
open PySem PySem.Spec L2 DL WA RM WB WC
end RD
/-! The fourth family's rows settled: a web. -/
namespace RD
open PySem PySem.Spec L2 DL WA RM WB
end RD
/-! The fourth family's webs: grown tie by tie, then settled. -/
namespace RD
open PySem PySem.Spec L2 DL WA RM WB WC
end RD
/-! What goes across a side: the program's counts. -/
namespace RP
open PySem PySem.Spec L2 DL WA RM WB WC
def pairD (a : Int × Int) : D := .tup [.int a.1, .int a.2]
abbrev asksD (as : List (Int × Int)) : D := .tup (as.map pairD)
theorem imm_asks (as : List (Int × Int)) : immL (as.map pairD) = true := immL_mem.mpr fun d hd => by
  obtain ⟨a, _, rfl⟩ := List.mem_map.mp hd
  rfl
/-- the ends of a tie -/
def endsAt (w : List (List Int)) (t : Int) : Int × Int := (spotOf w (2 * t), spotOf w (2 * t + 1))
def itemAt (rs : List Int) (t : Int) : Int := rs.getD t.toNat 0
theorem imm_row (r : List Int) : imm (rowD r) = true := immL_ints r
theorem tot_up_succ (g : Int → Int) (p : Nat) : tot g (up (p + 1)) = tot g (up p) + g p := by
  rw [up_succ, tot_append]
  simp [tot]
end RP
/-! The fourth family's ties, rooms, asks. -/
namespace RD
open PySem PySem.Spec L2 DL WA RM WB WC RP
/-! ### asks -/
end RD
/-! The fourth family's own counts across a side. -/
namespace RD
open PySem PySem.Spec L2 DL WA RM WB WC RP
section
variable {w : List (List Int)} {n : Nat} (W : IsWeb w n)
def spotsD (w : List (List Int)) (l : List Int) : D := .dic (kvsOf (fun d => .int (spotOf w d : Nat)) l)
@[simp] theorem imm_spots (w : List (List Int)) (l : List Int) : imm (spotsD w l) = false := rfl
include W
end
end RD
/-! The fourth family's faces, by its own going along; its rims, and the program's. -/
namespace RF
open PySem PySem.Spec L2 DL WA RM WB WC RP RD
end RF
/-! The second family's draws: their count goes into what is drawn, so it is bounded. -/
namespace RB
open PySem PySem.Spec L2 DL WA RM WB WC RD RF
/-- a tape from which at most k draws were made -/
def IsTk (k : Nat) (d : D) : Prop := ∃ cs a l t, d = tapeD cs a l t ∧ 0 ≤ t ∧ t ≤ (k : Int)
theorem IsTk.imm {k : Nat} {d : D} (h : IsTk k d) : imm d = false := by obtain ⟨_, _, _, _, rfl, _⟩ := h; rfl
theorem IsTk.mono {k k' : Nat} {d : D} (h : IsTk k d) (hk : k ≤ k') : IsTk k' d := by
  obtain ⟨cs, a, l, t, e, h0, h1⟩ := h
  exact ⟨cs, a, l, t, e, h0, by omega⟩
theorem draw_eq {k : Nat} {d : D} {m : Int} (h : IsTk k d) (hk : k ≤ 100000) (h1 : 1 ≤ m) (h2 : m < 1073741824) :
    ∃ i d', RB.d__law_draw [d, .int m] = some (.int i, [some d', some (.int m)]) ∧ 0 ≤ i ∧ i < m ∧ IsTk (k + 1) d' ∧ imm d' = false := by
  obtain ⟨cs, a, l, t, rfl, t0, t1⟩ := h
  have hm : m ≠ 0 := by omega
  have hm' : m.natAbs < 1073741824 := by omega
  suffices ∃ (x a' l' : Int), RB.d__law_draw [tapeD cs a l t, .int m] = some (.int (x.fmod m), [some (tapeD cs a' l' (t + 1)), some (.int m)]) by
    obtain ⟨x, a', l', e⟩ := this
    exact ⟨_, _, e, Int.fmod_nonneg_of_pos x (by omega), Int.fmod_lt_of_pos x (by omega), ⟨_, _, _, _, rfl, by omega, by omega⟩, rfl⟩
  have mixed : ∀ c : Int, dMul (.int (c.fmod 2147483647 + (t + 1))) (.int (2 * (t + 1) + 1)) = some (.int ((c.fmod 2147483647 + (t + 1)) * (2 * (t + 1) + 1))) := fun c => mul_r (by omega) (by omega)
  have mixed0 : dMul (.int (t + 1)) (.int (2 * (t + 1) + 1)) = some (.int ((t + 1) * (2 * (t + 1) + 1))) := mul_r (by omega) (by omega)
  have powed : ∀ c : Int, dPow (.int (c.fmod 2147483647 + 7919 * (t + 1))) (.int 5) = some (.int ((c.fmod 2147483647 + 7919 * (t + 1)) ^ 5)) := fun c => by
    have := fmod_in c (m := 2147483647) (by decide)
    exact pow_int ⟨by decide, by decide, by omega⟩
  by_cases hl : 0 < l
  · exact ⟨l, a, l.fdiv m, by simp [RB.d__law_draw, RB.b__law_draw, denOf, hm, hm', hl]⟩
  · by_cases hc : cs = []
    · subst hc
      exact ⟨_, a + 1, l, by simp [RB.d__law_draw, RB.b__law_draw, denOf, hm, hm', hl, mixed0, powed]; rfl⟩
    · obtain ⟨c, ec⟩ := cell_at a hc
      have hlen : (cs.length : Int) ≠ 0 := by have := List.length_pos_iff.mpr hc; omega
      by_cases h4 : 1000000000000000000 ≤ c
      · by_cases h3 : a + 1 ≤ cs.length
        · exact ⟨c, a + 1, c.fdiv m, by simp [RB.d__law_draw, RB.b__law_draw, denOf, hm, hm', hl, hc, ec, h3, h4, hlen]⟩
        · exact ⟨_, a + 1, l, by simp [RB.d__law_draw, RB.b__law_draw, denOf, hm, hm', hl, hc, ec, h3, h4, hlen, mixed, powed]; rfl⟩
      · exact ⟨_, a + 1, l, by simp [RB.d__law_draw, RB.b__law_draw, denOf, hm, hm', hl, hc, ec, h4, hlen, mixed, powed]; rfl⟩
end RB
/-! What is behind each dart, in a dict; rings by it; darts put ahead. -/
namespace RB
open PySem PySem.Spec L2 DL WA RM WB WC RD RF
/-! ### a dart put ahead of another one -/
end RB
/-! The second family's webs: rows grown tie by tie. -/
namespace RB
open PySem PySem.Spec L2 DL WA RM WB WC RD RF
theorem frz_fl (rows : List (List Int)) : frzL (rows.map flR) = some (rows.map flR) := frzL_id _ (immL_flR rows)
/-- rows as they stand: those of the beginning, those put together later -/
def RowsD (x : D) (rows : List (List Int)) : Prop := x = .lst (rows.map lstR) ∨ x = .lst (rows.map flR) ∨ x = .flst (rows.map flR)
theorem RowsD.frz {x : D} {rows : List (List Int)} (h : RowsD x rows) : frzD x = some (.flst (rows.map flR)) := by
  rcases h with rfl | rfl | rfl
  · simp [frzL_rows]
  · simp [frz_fl]
  · simp [frz_fl]
theorem RowsD.len {x : D} {rows : List (List Int)} (h : RowsD x rows) : dLen [x] = some (.int rows.length) := by
  rcases h with rfl | rfl | rfl <;> simp
end RB
/-! The second family's webs: darts called by a list of even darts' names; then as webs. -/
namespace RB
open PySem PySem.Spec L2 DL WA RM WB WC RP RD RF
/-- the names of all darts, by those of the even ones -/
def namesOf (T : List Int) : List Int := T.flatMap fun e => [e, otherOf e]
theorem names_add (T : List Int) (e : Int) : namesOf (T ++ [e]) = namesOf T ++ [e, otherOf e] := by simp [namesOf]
/-- so the names of ties turn out as pairs -/
theorem pair_names {c u : Int} (hu : u = 0 ∨ u = 1) : [2 * c + u, 2 * c + 1 - u] = [2 * c + u, otherOf (2 * c + u)] := by
  rcases hu with rfl | rfl
  · rw [show 2 * c + 0 = 2 * c by omega, otherOf_even]; simp
  · rw [otherOf_odd]; congr 2; omega
/-! ### as a web -/
/-! ### a web -/
theorem turn_step {n : Nat} {T left : List Int} (N : Named n (namesOf T) left) {i : Nat} {c u : Int} (hc : left[i]? = some c) (hu : u = 0 ∨ u = 1) : Named n (namesOf (T ++ [2 * c + u])) (left.eraseIdx i) := by
  have := named_step N hc hu
  rwa [pair_names hu, ← names_add] at this
end RB
/-! Small facts of data: cuts of lists, texts of rows, pairs. -/
namespace WD
open PySem PySem.Spec L2 DL WA RM WB WC RP
theorem nice_row {r : List Int} {k : Nat} (hl : r.length ≤ k) (h : ∀ d ∈ r, d.natAbs < 10 ^ 12) : Nice 1 (k * 41) (rowD r) := by
  refine (nice_tup (k := 0) (w := 40) (ds := intsD r) fun e he => ?_).mono (by decide) ?_
  · obtain ⟨i, hi, rfl⟩ := List.mem_map.mp he
    exact nice_int (h i hi)
  · rw [List.length_map]
    exact Nat.mul_le_mul hl (Nat.le_refl _)
end WD
/-! Sums over a web's darts place by place; lists of numbers by their places; odd and even. -/
namespace WE
open PySem PySem.Spec L2 DL WA RM WB WC WD RP
/-! ### lists by a function of their places -/
def lstF (L : Nat) (σ : Int → Int) : D := .lst (intsD ((up L).map σ))
@[simp] theorem imm_lstF (L : Nat) (σ : Int → Int) : imm (lstF L σ) = false := rfl
/-! ### odd and even -/
/-! ### a place's darts -/
theorem tot_pick {L : Nat} {q v : Int} (g : Int → Int) (h0 : 0 ≤ q) (h1 : q < L) : tot (fun x => g x * if q = x then v else 0) (up L) = g q * v := by
  induction L with
  | zero => omega
  | succ L ih =>
    rw [tot_up_succ]
    by_cases h : q = (L : Int)
    · subst h
      have : tot (fun x => g x * if (L : Int) = x then v else 0) (up L) = 0 := by
        have := tot_congr (g := fun x => g x * if (L : Int) = x then v else 0) (k := fun _ => 0) (a := up L) fun x hx => by
          have := up_mem.mp hx
          show g x * (if (L : Int) = x then v else 0) = 0
          rw [if_neg (by omega), Int.mul_zero]
        rw [this, tot_zero]
      rw [this, if_pos rfl]; omega
    · rw [ih (by omega), if_neg h]; omega
end WE
/-! The places where rooms and asks come to an odd number: the program's count. -/
namespace RP
open PySem PySem.Spec L2 DL WA RM WB WC WD WE
end RP
/-! The second family's lengths; ends of ties, the program's and the laws'. -/
namespace RB
open PySem PySem.Spec L2 DL WA RM WB WC RP RD RF WE
/-! ### ends -/
end RB
/-! How far places are, tie by tie till nothing turns: in plain Lean. -/
namespace RB
open PySem PySem.Spec L2 DL WA RM WB WC RP RD RF WE
abbrev Far := Int → Option Int
def oD : Option Int → D
  | none => .non
  | some v => .int v
def lstO (L : Nat) (σ : Far) : D := .lst ((up L).map fun x => oD (σ x))
@[simp] theorem lstO_imm (L : Nat) (σ : Far) : imm (lstO L σ) = false := rfl
def setAt (σ : Far) (q : Int) (v : Int) : Far := fun x => if x = q then some v else σ x
/-! ### compared -/
/-! ### steps, sweeps -/
abbrev St := Far × Far × Bool
def hereAt (w : List (List Int)) (p : Nat) : Int := if p % 2 = 0 then (endsAt w (p / 2 : Nat)).1 else (endsAt w (p / 2 : Nat)).2
def thereAt (w : List (List Int)) (p : Nat) : Int := if p % 2 = 0 then (endsAt w (p / 2 : Nat)).2 else (endsAt w (p / 2 : Nat)).1
def stepBy (w : List (List Int)) (rs : List Int) (s : St) (p : Nat) : St := match s.1 (hereAt w p) with
  | none => s
  | some f => if (match s.1 (thereAt w p) with | none => true | some g => decide (f + itemAt rs (p / 2 : Nat) < g)) = true then (setAt s.1 (thereAt w p) (f + itemAt rs (p / 2 : Nat)), setAt s.2.1 (thereAt w p) p, true) else s
/-! ### what falls -/
def pot (L : Nat) (σ : Far) : Int := tot (fun x => match σ x with | none => 1000 | some v => v) (up L)
def cnt (L : Nat) (σ : Far) : Int := tot (fun x => if (σ x).isSome = true then 1 else 0) (up L)
theorem tot_upd {L : Nat} {q v : Int} (g : Int → Int) (h0 : 0 ≤ q) (h1 : q < L) : tot (fun x => if x = q then v else g x) (up L) = tot g (up L) + (v - g q) := by
  have e : tot (fun x => if x = q then v else g x) (up L) = tot (fun x => g x + 1 * (if q = x then v - g q else 0)) (up L) := tot_congr fun x _ => by
    by_cases h : x = q
    · subst h; simp; omega
    · have h' : ¬ q = x := fun z => h z.symm
      simp [h, h']
  rw [e, tot_add, tot_pick (fun _ => 1) h0 h1]
  omega
def valOf : Option Int → Int
  | none => 1000
  | some v => v
theorem pot_set {L : Nat} {σ : Far} {q v : Int} (h0 : 0 ≤ q) (h1 : q < L) : pot L (setAt σ q v) = pot L σ + (v - valOf (σ q)) := by
  have e1 : pot L (setAt σ q v) = tot (fun x => if x = q then v else valOf (σ x)) (up L) := tot_congr fun x _ => by
    unfold setAt
    by_cases h : x = q <;> simp [h]
    cases σ x <;> rfl
  have e2 : pot L σ = tot (fun x => valOf (σ x)) (up L) := tot_congr fun x _ => by cases σ x <;> rfl
  rw [e1, e2]
  exact tot_upd (fun x => valOf (σ x)) h0 h1
theorem cnt_set {L : Nat} {σ : Far} {q v : Int} (h0 : 0 ≤ q) (h1 : q < L) : cnt L (setAt σ q v) = cnt L σ + (1 - if (σ q).isSome = true then 1 else 0) := by
  have e1 : cnt L (setAt σ q v) = tot (fun x => if x = q then 1 else (if (σ x).isSome = true then 1 else 0)) (up L) := tot_congr fun x _ => by
    unfold setAt
    by_cases h : x = q <;> simp [h]
  rw [e1]
  exact tot_upd (fun x => if (σ x).isSome = true then 1 else 0) h0 h1
theorem tot_le {g k : Int → Int} {l : List Int} (h : ∀ x ∈ l, g x ≤ k x) : tot g l ≤ tot k l := by
  induction l with
  | nil => exact Int.le_refl _
  | cons x l ih =>
    have := h x List.mem_cons_self
    have := ih fun y hy => h y (List.mem_cons_of_mem _ hy)
    simp only [tot]
    omega
theorem cnt_le (L : Nat) (σ : Far) : cnt L σ ≤ L := by
  have := tot_le (g := fun x => if (σ x).isSome = true then 1 else 0) (k := fun _ => 1) (l := up L) fun x _ => by
    show (if _ then (1 : Int) else 0) ≤ 1
    split <;> omega
  rw [tot_one, up_length] at this
  exact this
structure Good (L : Nat) (σ : Far) : Prop where
  some1 : 1 ≤ cnt L σ
  small : ∀ x v, σ x = some v → 0 ≤ v ∧ v ≤ 6 * (cnt L σ - 1)
theorem Good.low {L : Nat} {σ : Far} (h : Good L σ) (hL : L ≤ 24) {x v : Int} (e : σ x = some v) : 0 ≤ v ∧ v ≤ 138 := by
  have := h.small x v e
  have := cnt_le L σ
  omega
theorem Good.step {w : List (List Int)} {rs : List Int} {L : Nat} {s : St} {p : Nat} (h : Good L s.1) (hL : L ≤ 24) (hr : 0 ≤ itemAt rs (p / 2 : Nat) ∧ itemAt rs (p / 2 : Nat) ≤ 6) (ht : 0 ≤ thereAt w p ∧ thereAt w p < L) :
    Good L (stepBy w rs s p).1 ∧ (stepBy w rs s p = s ∨ (stepBy w rs s p).2.2 = true ∧ pot L (stepBy w rs s p).1 < pot L s.1) := by
  unfold stepBy
  generalize itemAt rs ((p / 2 : Nat) : Int) = l at hr ⊢
  cases e : s.1 (hereAt w p) with
  | none => exact ⟨h, .inl rfl⟩
  | some f =>
    have hf := h.small _ _ e
    have lf := h.low hL e
    simp only
    cases e2 : s.1 (thereAt w p) with
    | none =>
      simp only [if_true]
      have hp := pot_set (σ := s.1) (v := f + l) ht.1 ht.2
      have hc := cnt_set (σ := s.1) (v := f + l) ht.1 ht.2
      rw [e2] at hp hc
      simp [valOf] at hp hc
      have s1 := h.some1
      refine ⟨⟨by omega, fun x v hx => ?_⟩, .inr ⟨trivial, by omega⟩⟩
      unfold setAt at hx
      split at hx
      · cases hx; omega
      · have := h.small x v hx; omega
    | some g =>
      by_cases c : f + l < g
      · simp only [c, decide_true, if_true]
        have hp := pot_set (σ := s.1) (v := f + l) ht.1 ht.2
        have hc := cnt_set (σ := s.1) (v := f + l) ht.1 ht.2
        rw [e2] at hp hc
        simp [valOf] at hp hc
        have s1 := h.some1
        have sg := h.small _ _ e2
        refine ⟨⟨by omega, fun x v hx => ?_⟩, .inr ⟨trivial, by omega⟩⟩
        unfold setAt at hx
        split at hx
        · cases hx; omega
        · have := h.small x v hx; omega
      · simp only [c, decide_false]
        exact ⟨h, .inl rfl⟩
end RB
/-! How far places are: the program's walk, the laws'. -/
namespace RB
open PySem PySem.Spec L2 DL WA RM WB WC RP RD RF WE
@[simp] theorem isNotN_oD (o : Option Int) : dIsNotN (oD o) .non = some (.bl o.isSome) := by cases o <;> rfl
@[simp] theorem isN_oD (o : Option Int) : dIsN (oD o) .non = some (.bl (!o.isSome)) := by cases o <;> rfl
@[simp] theorem isNotN_int (i : Int) : dIsNotN (.int i) .non = some (.bl true) := rfl
@[simp] theorem isN_int (i : Int) : dIsN (.int i) .non = some (.bl false) := rfl
@[simp] theorem isNotN_non : dIsNotN .non .non = some (.bl false) := rfl
@[simp] theorem isN_non : dIsN .non .non = some (.bl true) := rfl
end RB
/-! Distances told; the chain of places. -/
namespace RB
open PySem PySem.Spec L2 DL WA RM WB WC RP RD RF WE WD
/-! ### a chain of places -/
end RB
/-! Webs that are grown hang together. -/
namespace WF
open PySem PySem.Spec L2 DL WA RM WB WC RD
end WF
/-! How places are come to: back by the darts they were come to by last, at the end. -/
namespace RB
open PySem PySem.Spec L2 DL WA RM WB WC RP RD RF WE
abbrev lenAt (rs : List Int) (p : Nat) : Int := itemAt rs (p / 2 : Nat)
/-- o: the places that were come to, the last ones first -/
structure Came (w : List (List Int)) (n : Nat) (rs : List Int) (one : Int) (σ τ : Far) (o : List Int) : Prop where
  once : o.Nodup
  mem : ∀ x, x ∈ o ↔ (σ x).isSome = true
  base : σ one = some 0
  back : ∀ x ∈ o, x ≠ one → ∃ (p : Nat) (v u : Int), p < 2 * n ∧ τ x = some (p : Int) ∧ thereAt w p = x ∧ σ x = some v ∧ σ (hereAt w p) = some u ∧ u + lenAt rs p ≤ v ∧ (u + lenAt rs p = v → [x, hereAt w p].Sublist o)
theorem sub_erase {x y t : Int} {o : List Int} (h : [x, y].Sublist o) (hx : x ≠ t) (hy : y ≠ t) : [x, y].Sublist (t :: o.erase t) := by
  have := h.erase t
  rw [List.erase_of_not_mem (by simp; exact ⟨fun z => hx z.symm, fun z => hy z.symm⟩)] at this
  exact this.cons t
theorem Came.set {w : List (List Int)} {n : Nat} {rs : List Int} {one : Int} {σ τ : Far} {o : List Int} (c : Came w n rs one σ τ o) (nn : ∀ x v, σ x = some v → 0 ≤ v) {p : Nat} (hp : p < 2 * n) (hl : 0 ≤ lenAt rs p) {f : Int} (hf : σ (hereAt w p) = some f)
    (less : ∀ g, σ (thereAt w p) = some g → f + lenAt rs p < g) : Came w n rs one (setAt σ (thereAt w p) (f + lenAt rs p)) (setAt τ (thereAt w p) p) (thereAt w p :: o.erase (thereAt w p)) := by
  have f0 := nn _ _ hf
  have notOne : thereAt w p ≠ one := fun z => by
    have := less 0 (by rw [z]; exact c.base)
    omega
  have apart : hereAt w p ≠ thereAt w p := fun z => by
    rw [z] at hf
    have := less f hf
    omega
  have hIn : hereAt w p ∈ o := (c.mem _).mpr (by rw [hf]; rfl)
  refine ⟨?_, fun x => ?_, ?_, fun x hx h1 => ?_⟩
  · exact List.nodup_cons.mpr ⟨fun z => (c.once.mem_erase_iff.mp z).1 rfl, c.once.erase _⟩
  · rw [List.mem_cons]
    unfold setAt
    by_cases e : x = thereAt w p
    · simp [e]
    · rw [if_neg e, ← c.mem x, c.once.mem_erase_iff]
      simp [e]
  · unfold setAt
    rw [if_neg fun z => notOne z.symm]
    exact c.base
  · by_cases e : x = thereAt w p
    · subst e
      refine ⟨p, f + lenAt rs p, f, hp, if_pos rfl, rfl, if_pos rfl, ?_, Int.le_refl _, fun _ => ?_⟩
      · unfold setAt; rw [if_neg apart]; exact hf
      · exact List.Sublist.cons_cons _ (List.singleton_sublist.mpr (c.once.mem_erase_iff.mpr ⟨apart, hIn⟩))
    · have hx' : x ∈ o := by
        rcases List.mem_cons.mp hx with z | z
        · exact absurd z e
        · exact (c.once.mem_erase_iff.mp z).2
      obtain ⟨q, v, u, b1, b2, b3, b4, b5, b6, b7⟩ := c.back x hx' h1
      by_cases ey : hereAt w q = thereAt w p
      · have := less u (by rw [← ey]; exact b5)
        refine ⟨q, v, f + lenAt rs p, b1, ?_, b3, ?_, ?_, by omega, fun z => by omega⟩
        · unfold setAt; rw [if_neg e]; exact b2
        · unfold setAt; rw [if_neg e]; exact b4
        · unfold setAt; rw [if_pos ey]
      · refine ⟨q, v, u, b1, ?_, b3, ?_, ?_, b6, fun z => sub_erase (b7 z) e ey⟩
        · unfold setAt; rw [if_neg e]; exact b2
        · unfold setAt; rw [if_neg e]; exact b4
        · unfold setAt; rw [if_neg ey]; exact b5
theorem Came.step {w : List (List Int)} {n : Nat} {rs : List Int} {one : Int} {s : St} {o : List Int} (c : Came w n rs one s.1 s.2.1 o) (nn : ∀ x v, s.1 x = some v → 0 ≤ v) {p : Nat} (hp : p < 2 * n) (hl : 0 ≤ lenAt rs p) :
    ∃ o', Came w n rs one (stepBy w rs s p).1 (stepBy w rs s p).2.1 o' := by
  unfold stepBy
  cases e : s.1 (hereAt w p) with
  | none => exact ⟨o, c⟩
  | some f =>
    simp only
    cases e2 : s.1 (thereAt w p) with
    | none => exact ⟨_, c.set nn hp hl e fun g hg => by rw [e2] at hg; cases hg⟩
    | some g =>
      by_cases d : f + itemAt rs (p / 2 : Nat) < g
      · simp only [d, decide_true, if_true]
        exact ⟨_, c.set nn hp hl e fun g' hg => by rw [e2] at hg; cases hg; exact d⟩
      · simp only [d, decide_false]
        exact ⟨o, c⟩
end RB
/-! A least way, back from its end. -/
namespace RB
open PySem PySem.Spec L2 DL WA RM WB WC RP RD RF WE WF
end RB
/-! The second family's webs hang together; a chain's two ends. -/
namespace RB
open PySem PySem.Spec L2 DL WA RM WB WC RP RD RF WE WF
end RB
/-! The third family's draws: the count of cells goes into what is drawn. -/
namespace RC
open PySem PySem.Spec L2 DL WA RM WB WC
def feed3 (cs : List Int) (a l : Int) : D := .lst [.flst (cs.map .int), .int a, .int l]
/-- a feed of which at most k cells were taken -/
def IsF (k : Nat) (d : D) : Prop := ∃ cs a l, d = feed3 cs a l ∧ 0 ≤ a ∧ a ≤ (k : Int)
@[simp] theorem feed3_imm (cs : List Int) (a l : Int) : imm (feed3 cs a l) = false := rfl
@[simp] theorem feed3_0 (cs : List Int) (a l : Int) : dSubs (feed3 cs a l) (.int 0) = some (.flst (cs.map .int)) := dSubs_seq (ds := [.flst (cs.map .int), .int a, .int l]) rfl (by decide) rfl (immL_ints _)
@[simp] theorem feed3_1 (cs : List Int) (a l : Int) : dSubs (feed3 cs a l) (.int 1) = some (.int a) := rfl
@[simp] theorem feed3_2 (cs : List Int) (a l : Int) : dSubs (feed3 cs a l) (.int 2) = some (.int l) := rfl
@[simp] theorem feed3_p1 (cs : List Int) (a l u : Int) : dStore (feed3 cs a l) (.int 1) (.int u) = some (feed3 cs u l) := rfl
@[simp] theorem feed3_p2 (cs : List Int) (a l u : Int) : dStore (feed3 cs a l) (.int 2) (.int u) = some (feed3 cs a u) := rfl
theorem IsF.imm {k : Nat} {d : D} (h : IsF k d) : imm d = false := by obtain ⟨_, _, _, rfl, _⟩ := h; rfl
theorem IsF.mono {k k' : Nat} {d : D} (h : IsF k d) (hk : k ≤ k') : IsF k' d := by
  obtain ⟨cs, a, l, e, h0, h1⟩ := h
  exact ⟨cs, a, l, e, h0, by omega⟩
theorem draw_eq {k : Nat} {d : D} {m : Int} (h : IsF k d) (hk : k ≤ 100000) (h1 : 1 ≤ m) (h2 : m < 1073741824) :
    ∃ i d', RC.d__law_draw [d, .int m] = some (.int i, [some d', some (.int m)]) ∧ 0 ≤ i ∧ i < m ∧ IsF (k + 1) d' ∧ imm d' = false := by
  obtain ⟨cs, a, l, rfl, a0, a1⟩ := h
  have hm : m ≠ 0 := by omega
  have hm' : m.natAbs < 1073741824 := by omega
  suffices ∃ (x a' l' : Int), (a' = a ∨ a' = a + 1) ∧ RC.d__law_draw [feed3 cs a l, .int m] = some (.int (x.fmod m), [some (feed3 cs a' l'), some (.int m)]) by
    obtain ⟨x, a', l', ha, e⟩ := this
    exact ⟨_, _, e, Int.fmod_nonneg_of_pos x (by omega), Int.fmod_lt_of_pos x (by omega), ⟨_, _, _, rfl, by omega, by omega⟩, rfl⟩
  have m1 : dMul (.int 15485863) (.int a) = some (.int (15485863 * a)) := mul_l (by decide) (by decide)
  have p1 : ∀ c : Int, dPow (.int (c.fmod 1000003 + 15485863 * a + 101)) (.int 5) = some (.int ((c.fmod 1000003 + 15485863 * a + 101) ^ 5)) := fun c => by
    have := fmod_in c (m := 1000003) (by decide)
    exact pow_int ⟨by decide, by decide, by omega⟩
  have p10 : dPow (.int (15485863 * a + 101)) (.int 5) = some (.int ((15485863 * a + 101) ^ 5)) := pow_int ⟨by decide, by decide, by omega⟩
  have ha := fmod_in a (m := 97) (by decide)
  have m2 : ∀ y : Int, dMul (.int (y.fmod 2147483647)) (.int (a.fmod 97 + 48271)) = some (.int (y.fmod 2147483647 * (a.fmod 97 + 48271))) := fun y => mul_r (by omega) (by omega)
  have p2 : ∀ y : Int, dPow (.int (y.fmod 2147483647 * (a.fmod 97 + 48271) + a)) (.int 3) = some (.int ((y.fmod 2147483647 * (a.fmod 97 + 48271) + a) ^ 3)) := fun y => by
    have hy := fmod_in y (m := 2147483647) (by decide)
    have b : y.fmod 2147483647 * (a.fmod 97 + 48271) ≤ 2147483647 * 48368 := Int.mul_le_mul (by omega) (by omega) (by omega) (by decide)
    have b0 : 0 ≤ y.fmod 2147483647 * (a.fmod 97 + 48271) := Int.mul_nonneg (by omega) (by omega)
    exact pow_int ⟨by decide, by decide, by omega⟩
  by_cases hl : 0 < l
  · exact ⟨l, a, l.fdiv m, .inl rfl, by simp [RC.d__law_draw, RC.b__law_draw, denOf, hm, hm', hl]⟩
  · by_cases hc : cs = []
    · subst hc
      exact ⟨_, a + 1, l, .inr rfl, by simp [RC.d__law_draw, RC.b__law_draw, denOf, hm, hm', hl, m1, p10, m2, p2]; rfl⟩
    · obtain ⟨c, ec⟩ := cell_at a hc
      have hlen : (cs.length : Int) ≠ 0 := by have := List.length_pos_iff.mpr hc; omega
      have hpos : 0 < cs.length := List.length_pos_iff.mpr hc
      by_cases h4 : 1000000000000000000 ≤ c
      · by_cases h3 : a < cs.length
        · exact ⟨c, a + 1, c.fdiv m, .inr rfl, by simp [RC.d__law_draw, RC.b__law_draw, denOf, hm, hm', hl, hc, ec, h3, h4, hlen, hpos]⟩
        · exact ⟨_, a + 1, l, .inr rfl, by simp [RC.d__law_draw, RC.b__law_draw, denOf, hm, hm', hl, hc, ec, h3, h4, hlen, hpos, m1, p1, m2, p2]; rfl⟩
      · exact ⟨_, a + 1, l, .inr rfl, by simp [RC.d__law_draw, RC.b__law_draw, denOf, hm, hm', hl, hc, ec, h4, hlen, hpos, m1, p1, m2, p2]; rfl⟩
end RC
/-! The third family: what is behind a dart; rings; darts laid ahead. -/
namespace RC
open PySem PySem.Spec L2 DL WA RM WB WC RD RB
/-- rows that are only read: as a list's lists, or as a web -/
def Reads (x y : D) (emb : List Int → D) (rows : List (List Int)) : Prop := frzD x = some y ∧ ((emb = flR ∧ y = .flst (rows.map flR)) ∨ (emb = rowD ∧ y = webD rows))
theorem Reads.frz {x y : D} {emb : List Int → D} {rows : List (List Int)} (h : Reads x y emb rows) : frzD x = some y := h.1
theorem Reads.imm {x y : D} {emb : List Int → D} {rows : List (List Int)} (h : Reads x y emb rows) : imm y = true := by
  rcases h.2 with ⟨_, rfl⟩ | ⟨_, rfl⟩
  · exact immL_flR rows
  · exact imm_rows rows
/-! ### a dart laid ahead of another one -/
end RC
/-! The third family: turns, webs called by them. -/
namespace RC
open PySem PySem.Spec L2 DL WA RM WB WC RP RD RB
/-! ### a row begun with its least -/
/-- a turn as it stands -/
def TurnD (t : D) (T : List Int) : Prop := t = .lst (intsD T) ∨ t = rowD T
theorem TurnD.seq {t : D} {T : List Int} (h : TurnD t T) : seqOf t = some (intsD T) := by rcases h with rfl | rfl <;> rfl
end RC
/-! The third family: drawn turns, drawn webs. -/
namespace RC
open PySem PySem.Spec L2 DL WA RM WB WC RP RD RB WF
def Tu3 (n k : Nat) (p : Nat) (ρ : Fm) : Prop := ∃ (f : D) (left T : List Int) (o4 o5 : Option D), ρ = [some f, some (.int n), some (.lst (intsD left)), some (.lst (intsD T)), o4, o5] ∧ IsF (k + 2 * p) f ∧ Named n (namesOf T) left ∧ left.length = n - p ∧ T.length = p
theorem turn_ok {d : D} {n k : Nat} (h : IsF k d) (hk : k ≤ 90000) (hn : n ≤ 12) : ∃ (T : List Int) (f : D), RC.d__law_turn [d, .int n] = some (rowD T, [some f, some (.int n)]) ∧ Named n (namesOf T) [] ∧ T.length = n ∧ IsF (k + 24) f := by
  have main : Ok (RC.d__law_turn [d, .int n]) fun z => ∃ (T : List Int) (f : D), z = (rowD T, [some f, some (.int n)]) ∧ Named n (namesOf T) [] ∧ T.length = n ∧ IsF (k + 24) f := by
    have im := h.imm
    have ok1 : okR (n : Int) = true := okR_of' (by omega) (by omega)
    have le1 : (n : Int) ≤ 16777216 := by omega
    simp [RC.d__law_turn, RC.b__law_turn, denOf, ok1, le1, ok_bind]
    refine ok_mono (ok_iota (n := n) (P := fun z => z.1 = .nx ∧ Tu3 n k n z.2) (Tu3 n k) ?_ (fun ρ h => ⟨rfl, h⟩) ⟨d, up n, [], none, none, by rw [iota_up]; rfl, h, named_begin n, by simp [up_length], rfl⟩) ?_
    · rintro p ρ hp ⟨f, left, T, o4, o5, rfl, hf, N, hl, hT⟩
      have imf := hf.imm
      obtain ⟨i5, f5, e5, p5, q5, hf5, im5⟩ := RC.draw_eq hf (m := (left.length : Int)) (by omega) (by omega) (by omega)
      obtain ⟨c5, g5, m5⟩ := pop_ints (ns := left) (i := i5) p5 (by omega) (by omega)
      obtain ⟨u, f6, e6, p6, q6, hf6, im6⟩ := RC.draw_eq hf5 (m := 2) (by omega) (by decide) (by decide)
      have := List.length_eraseIdx_of_lt (l := left) (i := i5.toNat) (by omega)
      have ap := append_l (ds := intsD T) (y := .int (2 * c5 + u)) (big_lt (by simp; omega))
      have m2 : dMul (.int 2) (.int c5) = some (.int (2 * c5)) := mul_l (by decide) (by decide)
      simp [e5, imf, im5, m5, e6, im6, ap, m2]
      exact ⟨f6, left.eraseIdx i5.toNat, T ++ [2 * c5 + u], _, _, by simp; exact ⟨rfl, rfl⟩, hf6.mono (by omega), turn_step N g5 (by omega), by omega, by simp [hT]⟩
    · rintro ⟨o, ρ⟩ ⟨ho, f, left, T, o4, o5, e, hf, N, hl, hT⟩
      have ho : o = .nx := ho
      subst ho
      have e : ρ = _ := e
      subst e
      have ln : left = [] := List.eq_nil_of_length_eq_zero (by omega)
      subst ln
      have imf := hf.imm
      simp [tuple_l, immL_ints]
      exact ⟨T, f, ⟨rfl, rfl⟩, N, hT, hf.mono (by omega)⟩
  obtain ⟨z, e, T, f, rfl, r⟩ := main
  exact ⟨T, f, e, r⟩
end RC
/-! Webs numbered from a dart: places entered one behind the other. -/
namespace RC
open PySem PySem.Spec L2 DL WA RM WB WC RP RD RB WF
/-- a row begun with a dart -/
def ringFrom (r : List Int) (d : Int) : List Int := r.drop (r.idxOf d) ++ r.take (r.idxOf d)
/-- a dart more, where its tie is not there -/
def addE (e : List Int) (x : Int) : List Int := if x ∈ e ∨ otherOf x ∈ e then e else e ++ [x]
def addAll (e l : List Int) : List Int := l.foldl addE e
/-! ### one place behind the other -/
structure St where
  ev : List Int
  en : List (List Int)
def wait (d0 : Int) (s : St) : List Int := d0 :: s.ev.map otherOf
def nextSt (rows : List (List Int)) (d0 : Int) (s : St) (i : Nat) : St := match (wait d0 s)[i]? with
  | none => s
  | some d => if rowOf rows d ∈ s.en then s else ⟨addAll s.ev (ringFrom (rowOf rows d) d), s.en ++ [rowOf rows d]⟩
def stAt (rows : List (List Int)) (d0 : Int) : Nat → St
  | 0 => ⟨[], []⟩
  | i + 1 => nextSt rows d0 (stAt rows d0 i) i
structure Good (rows : List (List Int)) (n : Nat) (d0 : Int) (s : St) (i : Nat) : Prop where
  rng : ∀ e ∈ s.ev, 0 ≤ e ∧ e < 2 * (n : Int)
  nd : (namesOf s.ev).Nodup
  row : ∀ e ∈ s.ev, rowOf rows e ∈ s.en
  web : ∀ r ∈ s.en, r ∈ rows
  all : ∀ d, 0 ≤ d ∧ d < 2 * (n : Int) → rowOf rows d ∈ s.en → d ∈ namesOf s.ev
  done : ∀ (j : Nat) (d : Int), j < i → (wait d0 s)[j]? = some d → rowOf rows d ∈ s.en
  le : i ≤ s.ev.length + 1
section
variable {rows : List (List Int)} {n : Nat} (W : IsWeb rows n) {d0 : Int} (h0 : 0 ≤ d0 ∧ d0 < 2 * (n : Int))
include W
include h0
/-- so many places are come to -/
structure Ends (rows : List (List Int)) (n : Nat) (d0 : Int) (K : Nat) : Prop where
  fin : K = (stAt rows d0 K).ev.length + 1
  on : ∀ i, i < K → i < (stAt rows d0 i).ev.length + 1
  good : ∀ i, i ≤ K → Good rows n d0 (stAt rows d0 i) i
end
end RC
/-! The first ask off a rim: the program's, the law's own. -/
namespace RF
open PySem PySem.Spec L2 DL WA RM WB WC RP RD
end RF
/-! Webs numbered from a dart by the program; likeness of rows. -/
namespace RC
open PySem PySem.Spec L2 DL WA RM WB WC RP RD RB WF
end RC
/-! The turn by which darts are the even ones; numbered from a dart by the laws. -/
namespace RC
open PySem PySem.Spec L2 DL WA RM WB WC RP RD RB WF
end RC
/-! Numbered from a dart by the laws. -/
namespace RC
open PySem PySem.Spec L2 DL WA RM WB WC RP RD RB WF
theorem nice_row {r : List Int} (h : ∀ d ∈ r, d.natAbs < 10 ^ 12) : Nice 1 (r.length * 41) (rowD r) := by
  have := nice_tup (k := 0) (w := 40) (ds := intsD r) fun d hd => by
    obtain ⟨i, hi, rfl⟩ := List.mem_map.1 hd
    exact nice_int (h i hi)
  rwa [List.length_map] at this
end RC
/-! Rows begun otherwise; rows in order; webs whose darts are called otherwise. -/
namespace RC
open PySem PySem.Spec L2 DL WA RM WB WC RP RD RB WF
/-! ### begun otherwise -/
/-! ### rows in order -/
theorem rowLe_le (a b : List Int) : rowLe a b = decide (a ≤ b) := by
  have t : ∀ r : List Int, toP (rowD r) = .tuple (r.map .int) := fun r => by
    show PyData.tuple (toPL (intsD r)) = _
    rw [toPL_map, List.map_map]; rfl
  have lt : PySem.W.dataLt (toP (rowD b)) (toP (rowD a)) = decide (b < a) := by
    rw [t, t, PySem.W.dataLt_tuple, ← PySem.W.dataLt_list]
    exact PySem.W.dataLt_ints b a
  show (!PySem.W.dataLt (toP (rowD b)) (toP (rowD a))) = _
  rw [lt]
  by_cases c : b < a
  · have : ¬ a ≤ b := fun z => List.not_lt.mpr z c
    simp [c, this]
  · have : a ≤ b := List.not_lt.mp c
    simp [c, this]
theorem sortRows_sorted (l : List (List Int)) : (sortRows l).Pairwise (fun a b => a ≤ b) := by
  have := List.pairwise_mergeSort (le := rowLe) (fun a b c h1 h2 => by
    rw [rowLe_le] at *
    simp only [decide_eq_true_iff] at *
    exact List.le_trans h1 h2) (fun a b => by
    rw [rowLe_le, rowLe_le, Bool.or_eq_true, decide_eq_true_eq, decide_eq_true_eq]
    exact List.le_total a b) l
  exact this.imp fun h => by rw [rowLe_le] at h; exact of_decide_eq_true h
/-! ### called otherwise -/
/-- what may call darts: one for each, ties kept -/
structure Calls (n : Nat) (f : Int → Int) : Prop where
  rng : ∀ d, 0 ≤ d ∧ d < 2 * (n : Int) → 0 ≤ f d ∧ f d < 2 * (n : Int)
  inj : ∀ d e, (0 ≤ d ∧ d < 2 * (n : Int)) → (0 ≤ e ∧ e < 2 * (n : Int)) → f d = f e → d = e
  oth : ∀ d, 0 ≤ d ∧ d < 2 * (n : Int) → f (otherOf d) = otherOf (f d)
theorem Calls.comp {n : Nat} {f g : Int → Int} (F : Calls n f) (G : Calls n g) : Calls n fun d => g (f d) :=
  ⟨fun d hd => G.rng _ (F.rng d hd), fun d e hd he h => F.inj d e hd he (G.inj _ _ (F.rng d hd) (F.rng e he) h), fun d hd => by rw [F.oth d hd, G.oth _ (F.rng d hd)]⟩
end RC
/-! The fourth family's webs: grown tie by tie, then settled. -/
namespace RF
open PySem PySem.Spec L2 DL WA RM WB WC RD
end RF
/-! Reading: tuples of ranges. -/
namespace DL
open PySem PySem.Spec L2
section
variable {ρ : Fm} {fa : FE} {fr : FA}
@[simp] theorem ap_tupRg1 : fTupRg1 fa ρ = (fa ρ).bind fun x => (cont x.2 x.1).bind fun d => match d with
  | .int j => if stepOk 0 j 1 = true then some (.val (.tup (stepD 0 1 (stepN 0 j 1))), x.2) else none
  | _ => none := rfl
@[simp] theorem ap_tupRg2 : fTupRg2 fr ρ = (fr ρ).bind fun x => (conts x.2 x.1).bind fun ds => (dSt2 ds).map fun z => (.val (.tup (stepD z.1 1 z.2)), x.2) := rfl
end
theorem st2 {i j : Int} (h : stepOk i j 1 = true) : dSt2 [.int i, .int j] = some (i, stepN i j 1) := if_pos h
end DL
/-! Reading: ranges by any step, lists emptied. -/
namespace DL
open PySem PySem.Spec L2
section
variable {ρ : Fm} {fr : FA}
@[simp] theorem ap_lstRg3 : fLstRg3 fr ρ = (fr ρ).bind fun x => (conts x.2 x.1).bind fun ds => (dSt ds).map fun z => (.val (.lst (stepD z.1 z.2.1 z.2.2)), x.2) := rfl
@[simp] theorem ap_lstRgC : fLstRgC fr ρ = (fr ρ).bind fun x => (conts x.2 x.1).bind fun ds => (dRg ds).map fun z => (.val (.lst (stepD z.1 z.2.1 z.2.2)), x.2) := rfl
@[simp] theorem ap_rng3 : fRng3 fr ρ = (fr ρ).bind fun x => (conts x.2 x.1).bind fun ds => (dRg ds).map fun z => (stepD z.1 z.2.1 z.2.2, x.2) := rfl
@[simp] theorem ap_tupRg3 : fTupRg3 fr ρ = (fr ρ).bind fun x => (conts x.2 x.1).bind fun ds => (dSt ds).map fun z => (.val (.tup (stepD z.1 z.2.1 z.2.2)), x.2) := rfl
@[simp] theorem mClear_l {ds : List D} : mClear (.lst ds) [] = some (.lst [], .non) := rfl
end
end DL
/-! Things of any kind, dicts among them, that are small enough to be shown. -/
namespace DL
open PySem PySem.Spec L2
structure Fit (k w : Nat) (d : D) : Prop where
  no : noExc d = true
  shows : (toP d).showable = true
  deep : (toP d).depth ≤ k
  short : (toP d).leavesShort 13 = true
  big : (toP d).bulk ≤ w
theorem Fit.mono {k k' w w' : Nat} {d : D} (h : Fit k w d) (hk : k ≤ k') (hw : w ≤ w') : Fit k' w' d := ⟨h.no, h.shows, Nat.le_trans h.deep hk, h.short, Nat.le_trans h.big hw⟩
end DL
/-! Reading: what may end with an exception. -/
namespace DL
open PySem PySem.Spec L2
section
variable {ρ : Fm} {fe : FE} {fr : FA} {ft : FT} {fs : FS} {fg : FG} {f g : FSX} {fx gx : FEX} {ax : FAX} {den : DenX} {i : Nat}
@[simp] theorem ap_xRet : xRet fx ρ = (fx ρ).bind fun x => match x.1 with
  | .ok r => (take1 x.2 r).map fun y => (.go (.ret y.1), y.2)
  | .up e => some (.up e, x.2) := rfl
@[simp] theorem ap_xAsg : xAsg fx fg ρ = (fx ρ).bind fun x => match x.1 with
  | .ok r => (take1 x.2 r).bind fun y => (fg y.1 y.2).map fun ρ3 => (.go .nx, ρ3)
  | .up e => some (.up e, x.2) := rfl
@[simp] theorem ap_xDrop : xDrop fx ρ = (fx ρ).map fun x => match x.1 with
  | .ok _ => (.go .nx, x.2)
  | .up e => (.up e, x.2) := rfl
@[simp] theorem ap_xCons : xCons fx ax ρ = (fx ρ).bind fun x => match x.1 with
  | .ok r => (ax x.2).map fun y => match y.1 with
    | .ok rs => (.ok (r :: rs), y.2)
    | .up e => (.up e, y.2)
  | .up e => some (.up e, x.2) := rfl
@[simp] theorem ap_xTup : xTup ax ρ = (ax ρ).bind fun x => match x.1 with
  | .ok rs => (takes x.2 rs).bind fun y => if y.1.length ≤ sizeLine then some (.ok (.val (.tup y.1)), y.2) else none
  | .up e => some (.up e, x.2) := rfl
@[simp] theorem ap_xCall : xCall den ax ρ = (ax ρ).bind fun x => match x.1 with
  | .up e => some (.up e, x.2)
  | .ok rs => (takes x.2 rs).bind fun y => (den y.1).map fun z => match z.1 with
    | .val r => (.ok (.val r), giveBack rs y.1 z.2 y.2)
    | .up e => (.up e, giveBack rs y.1 z.2 y.2) := rfl
@[simp] theorem ap_xRaise {x : Str} {fs : List Str} : xRaise x fs fr ρ = (fr ρ).bind fun z => (takes z.2 z.1).bind fun y => if immL y.1 = true ∧ y.1.length = fs.length then some (.up ⟨x, ((fs.map fun f => (.inr f : Key)).zip y.1).reverse⟩, y.2) else none := rfl
@[simp] theorem ap_fTry {ys : List Str} : fTry f ys fs ρ = (f ρ).bind fun x => match x.1 with
  | .go o => some (o, x.2)
  | .up e => if e.cls ∈ ys then fs x.2 else none := rfl
@[simp] theorem ap_fFld {a dd : Addr} {c f : Str} {kvs : List (Key × D)} (h : slot ρ i = some (.exc a c dd kvs)) : fFld a dd i f ρ = if (kvs.all fun kv => kv.1.isRight) = true then (kvGet kvs (.inr f)).bind fun d => if imm d = true then some (.val d, ρ) else none else none := by
  unfold fFld
  rw [h]
  by_cases q : (kvs.all fun kv => kv.1.isRight) = true
  · rw [if_pos q]
    exact if_pos ⟨rfl, rfl, q⟩
  · rw [if_neg q]
    exact if_neg fun z => q z.2.2
@[simp] theorem imm_exc {a dd : Addr} {c : Str} {kvs : List (Key × D)} : imm (.exc a c dd kvs) = immK kvs := rfl
end
end DL
/-! Reading: exceptions handed on. -/
namespace DL
open PySem PySem.Spec L2
section
variable {ρ : Fm} {fo : FE} {fr : FA} {i : Nat}
@[simp] theorem ap_fIsE {a dd : Addr} {c : Str} {told : Option Bool} : fIsE a c dd told i ρ = match slot ρ i with
  | some (.exc a' _ dd' _) => if a' = a ∧ dd' = dd then told.map fun b => (.val (.bl b), ρ) else none
  | _ => none := rfl
@[simp] theorem ap_countB : fCountB fo fr ρ = ((fo ρ).bind fun x => (cont x.2 x.1).bind lstOf).bind fun _ => fMethR dCntB fo fr ρ := rfl
end
end DL
/-! Plain things that stand still: numbers up to a bound, short texts, tuples, lists. -/
namespace DL
open PySem PySem.Spec L2
def shortS (x : Str) : Bool := (x.cps.toList.all fun c => decide (c < 16 ^ 8)) && decide (x.cps.size ≤ 50)
mutual
def pl (B : Nat) : D → Bool
  | .non => true | .bl _ => true
  | .int i => decide (i.natAbs ≤ B)
  | .str x => shortS x
  | .tup ds => plL B ds
  | .lst _ => false
  | .flst ds => plL B ds
  | .dic _ => false
  | .fdic kvs => plK B kvs
  | .exc _ _ _ _ => false
def plL (B : Nat) : List D → Bool
  | [] => true
  | d :: ds => pl B d && plL B ds
def plK (B : Nat) : List (Key × D) → Bool
  | [] => true
  | (.inl i, d) :: r => decide (i.natAbs ≤ B) && (pl B d && plK B r)
  | (.inr x, d) :: r => shortS x && (pl B d && plK B r)
end
mutual
theorem pl_mono {B B' : Nat} (h : B ≤ B') : ∀ (d : D), pl B d = true → pl B' d = true
  | .non, _ => rfl
  | .bl _, _ => rfl
  | .int i, q => by
    have q : decide (i.natAbs ≤ B) = true := q
    show decide (i.natAbs ≤ B') = true
    rw [decide_eq_true_iff] at q ⊢
    omega
  | .str x, q => q
  | .tup ds, q => plL_mono h ds q
  | .lst _, q => by cases q
  | .flst ds, q => plL_mono h ds q
  | .dic _, q => by cases q
  | .fdic kvs, q => plK_mono h kvs q
  | .exc _ _ _ _, q => by cases q
theorem plL_mono {B B' : Nat} (h : B ≤ B') : ∀ (ds : List D), plL B ds = true → plL B' ds = true
  | [], _ => rfl
  | d :: ds, q => by
    have q : (pl B d && plL B ds) = true := q
    rw [Bool.and_eq_true] at q
    show (pl B' d && plL B' ds) = true
    rw [pl_mono h d q.1, plL_mono h ds q.2]
    rfl
theorem plK_mono {B B' : Nat} (h : B ≤ B') : ∀ (ks : List (Key × D)), plK B ks = true → plK B' ks = true
  | [], _ => rfl
  | (.inl i, d) :: r, q => by
    have q : (decide (i.natAbs ≤ B) && (pl B d && plK B r)) = true := q
    rw [Bool.and_eq_true, Bool.and_eq_true, decide_eq_true_iff] at q
    show (decide (i.natAbs ≤ B') && (pl B' d && plK B' r)) = true
    rw [pl_mono h d q.2.1, plK_mono h r q.2.2, decide_eq_true (by omega)]
    rfl
  | (.inr x, d) :: r, q => by
    have q : (shortS x && (pl B d && plK B r)) = true := q
    rw [Bool.and_eq_true, Bool.and_eq_true] at q
    show (shortS x && (pl B' d && plK B' r)) = true
    rw [pl_mono h d q.2.1, plK_mono h r q.2.2, q.1]
    rfl
end
theorem pl_int {B : Nat} {i : Int} (hB : B < 10 ^ 48) (h : i.natAbs ≤ B) : (PyData.int i).showable = true ∧ (PyData.int i).leavesShort 50 = true := by
  have lt : i.natAbs < 10 ^ 48 := Nat.lt_of_le_of_lt h hB
  constructor
  · show decide (i.natAbs.log2 < 1920) = true
    rw [decide_eq_true_iff]
    by_cases h0 : i.natAbs = 0
    · rw [h0]; decide
    · exact (Nat.log2_lt h0).mpr (Nat.lt_trans lt (Nat.lt_of_lt_of_le (by decide : 10 ^ 48 < 2 ^ 160) (Nat.pow_le_pow_right (by decide) (by decide))))
  · show decide _ = true
    rw [decide_eq_true_iff, PyData.shown_int, PySem.ofString_length]
    have := PySem.int_text_length_le10 (a := i) (k := 48) (by decide) lt
    omega
mutual
theorem pl_all {B : Nat} (hB : B < 10 ^ 48) : ∀ (d : D), pl B d = true → noExc d = true ∧ imm d = true ∧ (toP d).showable = true ∧ (toP d).leavesShort 50 = true
  | .non, _ => ⟨rfl, rfl, rfl, rfl⟩
  | .bl _, _ => ⟨rfl, rfl, rfl, rfl⟩
  | .int i, h => ⟨rfl, rfl, pl_int hB (of_decide_eq_true h)⟩
  | .str x, h => ⟨rfl, rfl, rfl, (Bool.and_eq_true_iff.mp h).1⟩
  | .tup ds, h => by
    obtain ⟨a, b, c, e⟩ := pl_allL hB ds h
    exact ⟨a, b, by simpa [toP, PyData.showable] using c, by simpa [toP, PyData.leavesShort] using e⟩
  | .lst _, h => by cases h
  | .flst ds, h => by
    obtain ⟨a, b, c, e⟩ := pl_allL hB ds h
    exact ⟨a, b, by simpa [toP, PyData.showable] using c, by simpa [toP, PyData.leavesShort] using e⟩
  | .dic _, h => by cases h
  | .fdic kvs, h => by
    obtain ⟨a, b, c, e⟩ := pl_allK hB kvs h
    exact ⟨a, b, by simpa [toP, PyData.showable] using c, by simpa [toP, PyData.leavesShort] using e⟩
  | .exc _ _ _ _, h => by cases h
theorem pl_allL {B : Nat} (hB : B < 10 ^ 48) : ∀ (ds : List D), plL B ds = true → noExcL ds = true ∧ immL ds = true ∧ PyData.showableAll (toPL ds) = true ∧ PyData.leavesShortAll 50 (toPL ds) = true
  | [], _ => ⟨rfl, rfl, rfl, rfl⟩
  | d :: ds, h => by
    have h : (pl B d && plL B ds) = true := h
    rw [Bool.and_eq_true] at h
    obtain ⟨a, b, c, e⟩ := pl_all hB d h.1
    obtain ⟨a', b', c', e'⟩ := pl_allL hB ds h.2
    exact ⟨by simp [noExcL, a, a'], by simp [immL, b, b'], by simp [toPL, PyData.showableAll, c, c'], by simp [toPL, PyData.leavesShortAll, e, e']⟩
theorem pl_allK {B : Nat} (hB : B < 10 ^ 48) : ∀ (ks : List (Key × D)), plK B ks = true → noExcK ks = true ∧ immK ks = true ∧ PyData.showableKv (toPK ks) = true ∧ PyData.leavesShortKv 50 (toPK ks) = true
  | [], _ => ⟨rfl, rfl, rfl, rfl⟩
  | (.inl i, d) :: r, h => by
    have h : (decide (i.natAbs ≤ B) && (pl B d && plK B r)) = true := h
    rw [Bool.and_eq_true, Bool.and_eq_true, decide_eq_true_iff] at h
    obtain ⟨a, b, c, e⟩ := pl_all hB d h.2.1
    obtain ⟨a', b', c', e'⟩ := pl_allK hB r h.2.2
    obtain ⟨p, q⟩ := pl_int hB h.1
    exact ⟨by simp [noExcK, a, a'], by simp [immK, b, b'], by simp [toPK, PyData.showableKv, c, c', p], by simp [toPK, PyData.leavesShortKv, e, e', q]⟩
  | (.inr x, d) :: r, h => by
    have h : (shortS x && (pl B d && plK B r)) = true := h
    rw [Bool.and_eq_true, Bool.and_eq_true] at h
    obtain ⟨a, b, c, e⟩ := pl_all hB d h.2.1
    obtain ⟨a', b', c', e'⟩ := pl_allK hB r h.2.2
    have q : (PyData.str x).leavesShort 50 = true := (Bool.and_eq_true_iff.mp h.1).1
    have p : (PyData.str x).showable = true := rfl
    exact ⟨by simp [noExcK, a, a'], by simp [immK, b, b'], by simp [toPK, PyData.showableKv, c, c', p], by simp [toPK, PyData.leavesShortKv, e, e', q]⟩
end
/-- a plain thing, so deep and so great at most -/
structure Pl (B k w : Nat) (d : D) : Prop where
  pl : pl B d = true
  deep : (toP d).depth ≤ k
  big : (toP d).bulk ≤ w
theorem Pl.mono {B B' k k' w w' : Nat} {d : D} (h : Pl B k w d) (hB : B ≤ B') (hk : k ≤ k') (hw : w ≤ w') : Pl B' k' w' d := ⟨pl_mono hB d h.pl, Nat.le_trans h.deep hk, Nat.le_trans h.big hw⟩
end DL
/-! things of any kind, bent; printed by gen.py, then kept -/
/-! Odd things; things bent. -/
namespace RV
open PySem PySem.Spec L2 DL WA RD
/-! ### rows of things -/
structure Pls (B k w : Nat) (ds : List D) : Prop where
  pl : plL B ds = true
  deep : PyData.depthAll (toPL ds) ≤ k
  big : PyData.bulkAll (toPL ds) ≤ w
theorem toPL_app : ∀ a b : List D, toPL (a ++ b) = toPL a ++ toPL b
  | [], b => rfl
  | x :: a, b => by simp [toPL, toPL_app a b]
theorem plL_app {B : Nat} : ∀ a b : List D, plL B (a ++ b) = (plL B a && plL B b)
  | [], b => rfl
  | x :: a, b => by simp [plL, plL_app a b, Bool.and_assoc]
theorem depth_app : ∀ a b : List PyData, PyData.depthAll (a ++ b) = max (PyData.depthAll a) (PyData.depthAll b)
  | [], b => by simp [PyData.depthAll]
  | x :: a, b => by simp [PyData.depthAll, depth_app a b, Nat.max_assoc]
theorem bulk_app : ∀ a b : List PyData, PyData.bulkAll (a ++ b) = PyData.bulkAll a + PyData.bulkAll b
  | [], b => by simp [PyData.bulkAll]
  | x :: a, b => by simp only [PyData.bulkAll, List.cons_append, bulk_app a b]; omega
section
variable {B k w w' : Nat} {a b ds : List D} {d : D}
theorem Pls.nil : Pls B k 0 [] := ⟨rfl, by simp [toPL, PyData.depthAll], by simp [toPL, PyData.bulkAll]⟩
theorem Pls.one (h : Pl B k w d) : Pls B k (w + 1) [d] := ⟨by simp [plL, h.pl], by simpa [toPL, PyData.depthAll] using h.deep, by
  have := h.big
  simp only [toPL, PyData.bulkAll]
  omega⟩
theorem Pls.split (n : Nat) (h : Pls B k w ds) : ∃ u v, u + v ≤ w ∧ Pls B k u (ds.take n) ∧ Pls B k v (ds.drop n) := by
  have e := List.take_append_drop n ds
  have p := h.pl
  have q := h.deep
  have r := h.big
  rw [← e] at p q r
  rw [plL_app, Bool.and_eq_true] at p
  rw [toPL_app, depth_app, Nat.max_le] at q
  rw [toPL_app, bulk_app] at r
  exact ⟨_, _, r, ⟨p.1, q.1, Nat.le_refl _⟩, ⟨p.2, q.2, Nat.le_refl _⟩⟩
theorem Pls.mono {B' k' : Nat} (h : Pls B k w ds) (hB : B ≤ B') (hk : k ≤ k') (hw : w ≤ w') : Pls B' k' w' ds := ⟨plL_mono hB ds h.pl, Nat.le_trans h.deep hk, Nat.le_trans h.big hw⟩
theorem Pls.tup (h : Pls B k w ds) : Pl B (k + 1) w (.tup ds) := ⟨h.pl, by simpa [toP, PyData.depth] using h.deep, by simpa [toP, PyData.bulk] using h.big⟩
theorem Pls.flst (h : Pls B k w ds) : Pl B (k + 1) w (.flst ds) := ⟨h.pl, by simpa [toP, PyData.depth] using h.deep, by simpa [toP, PyData.bulk] using h.big⟩
theorem Pls.len (h : Pls B k w ds) : ds.length ≤ w := by
  refine Nat.le_trans ?_ h.big
  clear h
  induction ds with
  | nil => exact Nat.zero_le _
  | cons x xs ih =>
    simp only [toPL, PyData.bulkAll, List.length_cons]
    omega
theorem Pls.imm (hB : B < 10 ^ 48) (h : Pls B k w ds) : immL ds = true := (pl_allL hB ds h.pl).2.1
theorem Pls.at (h : Pls B k w ds) {i : Nat} (e : ds[i]? = some d) : ∃ u v x, u + (x + 1) + v ≤ w ∧ Pls B k u (ds.take i) ∧ Pl B k x d ∧ Pls B k v (ds.drop (i + 1)) := by
  obtain ⟨u, v, uv, h1, h2⟩ := h.split i
  have lt := (List.getElem?_eq_some_iff.mp e).1
  have eD : ds.drop i = d :: ds.drop (i + 1) := by
    rw [List.drop_eq_getElem_cons lt, (List.getElem?_eq_some_iff.mp e).2]
  rw [eD] at h2
  have p := h2.pl
  have q := h2.deep
  have r := h2.big
  simp only [plL, Bool.and_eq_true] at p
  simp only [toPL, PyData.depthAll] at q
  simp only [toPL, PyData.bulkAll] at r
  exact ⟨u, _, _, by omega, h1, ⟨p.1, by omega, Nat.le_refl _⟩, ⟨p.2, by omega, Nat.le_refl _⟩⟩
end
end RV
/-! Things bent. -/
/-! Which plain things are asks. -/
/-! Plain things: webs, asks, rows. -/
/-! All sides without place 0, sorted; the least of rows of spares. -/
namespace K58
open PySem PySem.Spec L2 DL WA RM WB WC RP RD RC
/-- all sides of places 1 .. p, as they are made -/
def sidesU : Nat → List (List Int)
  | 0 => [[]]
  | p + 1 => sidesU p ++ (sidesU p).map fun s => s ++ [((p + 1 : Nat) : Int)]
theorem sides_first : ∀ p, ∃ r, sidesU p = [] :: r ∧ ∀ s ∈ r, s ≠ []
  | 0 => ⟨[], rfl, fun _ h => nomatch h⟩
  | p + 1 => by
    obtain ⟨r, e, h⟩ := sides_first p
    refine ⟨r ++ (sidesU p).map fun s => s ++ [((p + 1 : Nat) : Int)], ?_, fun s hs => ?_⟩
    · show sidesU p ++ _ = _
      conv => lhs; arg 1; rw [e]
      rfl
    · rcases List.mem_append.mp hs with m | m
      · exact h s m
      · obtain ⟨q, _, rfl⟩ := List.mem_map.mp m
        exact List.append_ne_nil_of_right_ne_nil _ (by simp)
/-- such sides but the void one, as they are sorted -/
def sidesS (p : Nat) : List (List Int) := (sortRows (sidesU p)).tail
theorem sort_first (p : Nat) : sortRows (sidesU p) = [] :: sidesS p := by
  obtain ⟨r, e, _⟩ := sides_first p
  have pm := sortRows_perm (sidesU p)
  have st := sortRows_sorted (sidesU p)
  have m : [] ∈ sortRows (sidesU p) := pm.mem_iff.mpr (by rw [e]; exact List.mem_cons_self)
  unfold sidesS
  cases hS : sortRows (sidesU p) with
  | nil => rw [hS] at m; cases m
  | cons h t =>
    rw [hS] at m st
    have : h = [] := by
      rcases List.mem_cons.mp m with z | z
      · exact z.symm
      · have le := (List.pairwise_cons.mp st).1 _ z
        cases h with
        | nil => rfl
        | cons x h => exact absurd le (List.not_le.mpr (List.nil_lt_cons x h))
    rw [this]; rfl
/-! ### sorted, as it is told -/
theorem sortV_rows (r : List (List Int)) : dSortV [.lst (([] :: r).map rowD)] = some (.lst ((sortRows ([] :: r)).map rowD)) := by
  have noD : ∀ l : List (List Int), noDicL (l.map rowD) = true := by
    intro l
    induction l with
    | nil => rfl
    | cons x l ih =>
      show (noDicL (intsD x) && noDicL (l.map rowD)) = true
      rw [noDic_ints, ih]; rfl
  have c2 : voidFirst (([] :: r).map rowD) = true := by
    show (r.map rowD).all tupQ = true
    rw [List.all_eq_true]
    intro d hd
    obtain ⟨x, _, rfl⟩ := List.mem_map.mp hd
    rfl
  have c3 : allAlike ((([] :: r).map rowD).map toP) = true := by
    unfold allAlike
    refine List.all_eq_true.mpr fun d hd => List.all_eq_true.mpr fun e he => ?_
    obtain ⟨d', hd', rfl⟩ := List.mem_map.mp hd
    obtain ⟨x, _, rfl⟩ := List.mem_map.mp hd'
    obtain ⟨e', he', rfl⟩ := List.mem_map.mp he
    obtain ⟨y, _, rfl⟩ := List.mem_map.mp he'
    exact alikeAll_ints x y
  have c4 : ∀ d ∈ ([] :: r).map rowD, (toP d).depth ≤ 32 := fun d hd => by
    obtain ⟨x, _, rfl⟩ := List.mem_map.mp hd
    exact depth_row x
  show (if _ then some (D.lst ((([] :: r).map rowD).mergeSort (PySem.W.dataLe false toP))) else none) = _
  rw [if_pos ⟨noD _, imm_rows _, c2, c3, c4⟩]
  refine congrArg (fun z => some (D.lst z)) ?_
  exact (List.map_mergeSort (f := rowD) (r := rowLe) (s := PySem.W.dataLe false toP) fun a _ b _ => rfl).symm
theorem sort_sides (p : Nat) : dSortV [.lst ((sidesU p).map rowD)] = some (.lst (([] :: sidesS p).map rowD)) := by
  obtain ⟨r, e, _⟩ := sides_first p
  have := sortV_rows r
  rw [← e, sort_first] at this
  exact this
end K58
/-! Numbering goes along with other names. -/
namespace RC
open PySem PySem.Spec L2 DL WA RM WB WC RP RD RB WF
/-! ### the numbering itself -/
end RC
/-! What comes of a web by numbering; mirrored webs; likeness of webs; sorted numbers. -/
namespace RC
open PySem PySem.Spec L2 DL WA RM WB WC RP RD RB WF
/-! ### numbered -/
/-! ### mirrored -/
/-! ### likeness -/
theorem eq_rows {r q : List Int} (hr : ∀ d ∈ r, d.natAbs < 10 ^ 12) (hq : ∀ d ∈ q, d.natAbs < 10 ^ 12) : dEqB (rowD r) (rowD q) = some (decide (r = q)) := by
  show (if noDic (rowD r) = true ∧ noDic (rowD q) = true ∧ SeqAt.shaped (toP (rowD r)) = true ∧ SeqAt.shaped (toP (rowD q)) = true then some (PyData.eqv (.tuple (toPL (intsD r))) (.tuple (toPL (intsD q)))) else none) = _
  rw [if_pos ⟨noDic_ints r, noDic_ints q, (nice_row hr).shaped (by decide), (nice_row hq).shaped (by decide)⟩]
  simp only [PyData.eqv, eqvAll_ints]
/-! ### sorted numbers -/
theorem sorted_all {l : List Int} {n : Nat} (h : l.Perm (up n)) : dSorted [.lst (intsD l)] = some (.lst (intsD (up n))) := by
  have c3 : sortable ((intsD l).map toP) = true := by
    unfold sortable
    rw [Bool.or_eq_true]
    refine .inr (List.all_eq_true.mpr fun d hd => ?_)
    simp at hd
    obtain ⟨i, _, rfl⟩ := hd
    rfl
  have c4 : allAlike ((intsD l).map toP) = true := by
    refine List.all_eq_true.mpr fun d hd => List.all_eq_true.mpr fun e he => ?_
    simp at hd he
    obtain ⟨i, _, rfl⟩ := hd
    obtain ⟨j, _, rfl⟩ := he
    rfl
  have c5 : ∀ d ∈ intsD l, (toP d).depth ≤ 32 := fun d hd => by
    obtain ⟨i, _, rfl⟩ := List.mem_map.1 hd
    exact Nat.zero_le _
  have srt : (intsD l).mergeSort (PySem.W.dataLe false toP) = intsD (l.mergeSort fun a b => decide (a ≤ b)) := by
    have le := PySem.W.dataLe_int (fun i : Int => i)
    refine (List.map_mergeSort (f := D.int) (fun a _ b _ => ?_)).symm
    exact (congrFun (congrFun le a) b).symm
  have ms : l.mergeSort (fun a b => decide (a ≤ b)) = up n := by
    have p1 := List.pairwise_mergeSort (le := fun a b : Int => decide (a ≤ b)) (fun a b c h1 h2 => by
      simp only [decide_eq_true_iff] at h1 h2 ⊢; omega) (fun a b => by
      rw [Bool.or_eq_true, decide_eq_true_iff, decide_eq_true_iff]; omega) l
    have p2 : (up n).Pairwise fun a b : Int => decide (a ≤ b) = true := by
      unfold up
      refine List.pairwise_map.mpr ((List.pairwise_lt_range).imp fun h => ?_)
      rw [decide_eq_true_iff]; omega
    refine List.Perm.eq_of_pairwise (fun a b _ _ h1 h2 => ?_) p1 p2 ((List.mergeSort_perm _ _).trans h)
    rw [decide_eq_true_iff] at h1 h2
    omega
  show (if noDicL (intsD l) = true ∧ immL (intsD l) = true ∧ sortable ((intsD l).map toP) = true ∧ allAlike ((intsD l).map toP) = true ∧ (∀ d ∈ intsD l, (toP d).depth ≤ 32) then some (D.lst ((intsD l).mergeSort (PySem.W.dataLe false toP))) else none) = _
  rw [if_pos ⟨noDic_ints l, immL_ints l, c3, c4, c5⟩, srt, ms]
end RC
/-! The told cases: worked out. -/
namespace K72
open PySem PySem.Spec L2 DL RP RC
mutual
def eqD : D → D → Bool
  | .int a, .int b => decide (a = b)
  | .bl a, .bl b => decide (a = b)
  | .non, .non => true
  | .str a, .str b => decide (a = b)
  | .tup a, .tup b => eqL a b
  | .lst a, .lst b => eqL a b
  | .flst a, .flst b => eqL a b
  | _, _ => false
def eqL : List D → List D → Bool
  | [], [] => true
  | x :: xs, y :: ys => eqD x y && eqL xs ys
  | _, _ => false
end
mutual
theorem eqD_ok : ∀ (x y : D), eqD x y = true → x = y
  | .int a, y, h => by cases y <;> first | (rw [of_decide_eq_true h]) | cases h
  | .bl a, y, h => by cases y <;> first | (rw [of_decide_eq_true h]) | cases h
  | .non, y, h => by cases y <;> first | rfl | cases h
  | .str a, y, h => by cases y <;> first | (rw [of_decide_eq_true h]) | cases h
  | .tup a, y, h => by
    cases y with
    | tup b => rw [eqL_ok a b h]
    | _ => cases h
  | .lst a, y, h => by
    cases y with
    | lst b => rw [eqL_ok a b h]
    | _ => cases h
  | .flst a, y, h => by
    cases y with
    | flst b => rw [eqL_ok a b h]
    | _ => cases h
  | .dic a, y, h => by cases y <;> cases h
  | .fdic a, y, h => by cases y <;> cases h
  | .exc _ _ _ _, y, h => by cases y <;> cases h
theorem eqL_ok : ∀ (x y : List D), eqL x y = true → x = y
  | [], [], _ => rfl
  | [], _ :: _, h => by cases h
  | _ :: _, [], h => by cases h
  | x :: xs, y :: ys, h => by
    have h : (eqD x y && eqL xs ys) = true := h
    rw [Bool.and_eq_true] at h
    rw [eqD_ok x y h.1, eqL_ok xs ys h.2]
end
def eqF : Fm → List D → Bool
  | [], [] => true
  | some x :: xs, y :: ys => eqD x y && eqF xs ys
  | _, _ => false
theorem eqF_ok : ∀ (x : Fm) (y : List D), eqF x y = true → x = y.map some
  | [], [], _ => rfl
  | [], _ :: _, h => by cases h
  | none :: _, [], h => by cases h
  | some _ :: _, [], h => by cases h
  | none :: _, _ :: _, h => by cases h
  | some x :: xs, y :: ys, h => by
    have h : (eqD x y && eqF xs ys) = true := h
    rw [Bool.and_eq_true] at h
    rw [eqD_ok x y h.1, eqF_ok xs ys h.2]; rfl
/-- a call's answer, and what it leaves of what it was handed -/
def eqV : Option (D × Fm) → D → List D → Bool
  | some (x, ρ), y, as => eqD x y && eqF ρ as
  | none, _, _ => false
theorem eqV_ok {z : Option (D × Fm)} {y : D} {as : List D} (h : eqV z y as = true) : z = some (y, as.map some) := by
  match z, h with
  | some (x, ρ), h =>
    have h : (eqD x y && eqF ρ as) = true := h
    rw [Bool.and_eq_true] at h
    rw [eqD_ok x y h.1, eqF_ok ρ as h.2]
/-- a function told otherwise where its answer is known -/
def known (f : List D → Option D) (ts : List (List D × D)) : List D → Option D := fun x => match ts with
  | [] => f x
  | (a, b) :: ts => if eqL x a = true then some b else known f ts x
theorem known_same {f : List D → Option D} : ∀ {ts : List (List D × D)}, (∀ t ∈ ts, f t.1 = some t.2) → f = known f ts
  | [], _ => rfl
  | (a, b) :: ts, h => by
    funext x
    show f x = if eqL x a = true then some b else known f ts x
    by_cases c : eqL x a = true
    · rw [if_pos c, eqL_ok x a c]
      exact h (a, b) List.mem_cons_self
    · rw [if_neg c]
      exact congrFun (known_same fun t ht => h t (List.mem_cons_of_mem _ ht)) x
def w1 : List (List Int) := [[0, 2, 4], [1, 7], [3, 9], [5, 11], [6, 10, 8]]
def r1 : List Int := [1, 1, 1, 1, 1, 1]
def a1 : List (Int × Int) := [(1, 2), (2, 3), (1, 3), (0, 4)]
def l1 : List Int := [1, 1, 1, 1, 1, 1]
def c1 : D := .tup [webD w1, rowD r1, asksD a1, rowD l1]
def d1 : List Int := [0, 2, 4, 1, 7, 3, 9, 5, 11, 6, 10, 8]
def w2 : List (List Int) := [[0, 2, 4], [1, 12], [3, 9], [5, 11], [6, 10, 8], [7, 13]]
def r2 : List Int := [1, 1, 1, 1, 1, 1, 1]
def a2 : List (Int × Int) := [(5, 2), (2, 3), (5, 3), (0, 4)]
def l2 : List Int := [1, 1, 1, 1, 1, 1, 0]
def c2 : D := .tup [webD w2, rowD r2, asksD a2, rowD l2]
def d2 : List Int := [0, 2, 4, 1, 12, 3, 9, 5, 11, 6, 10, 8, 7, 13]
def w3 : List (List Int) := [[0, 2, 4], [1, 7, 12], [3, 9], [5, 11], [6, 10, 8], [13]]
def r3 : List Int := [1, 1, 1, 1, 1, 1, 2]
def a3 : List (Int × Int) := [(5, 2), (2, 3), (5, 3), (0, 4)]
def l3 : List Int := [1, 1, 1, 1, 1, 1, 0]
def c3 : D := .tup [webD w3, rowD r3, asksD a3, rowD l3]
def d3 : List Int := [0, 2, 4, 1, 7, 12, 3, 9, 5, 11, 6, 10, 8, 13]
def t4 : List (List Int) := [[], [1], [1, 2], [1, 2, 3], [1, 2, 3, 4], [1, 2, 4], [1, 3], [1, 3, 4], [1, 4], [2], [2, 3], [2, 3, 4], [2, 4], [3], [3, 4], [4]]
def t5 : List (List Int) := [[], [1], [1, 2], [1, 2, 3], [1, 2, 3, 4], [1, 2, 3, 4, 5], [1, 2, 3, 5], [1, 2, 4], [1, 2, 4, 5], [1, 2, 5], [1, 3], [1, 3, 4], [1, 3, 4, 5], [1, 3, 5], [1, 4], [1, 4, 5], [1, 5], [2], [2, 3], [2, 3, 4], [2, 3, 4, 5], [2, 3, 5], [2, 4], [2, 4, 5], [2, 5], [3], [3, 4], [3, 4, 5], [3, 5], [4], [4, 5], [5]]
def pv_all_sides (sv : List D → Option D) : Den := denOf 4 1 [1, 2, 1] (fSeq (fAsg (fLst (fCons (fTup (fNil)) (fNil))) (fgName 1)) (fSeq (fFor (fRng2 (fCons (fC (.int 1)) (fCons (fVar 0) (fNil)))) (fgName 2) (fAsg (fOp dCatS (fVar 1) (fLc [3] (fSeqI (fFrz (fVar 1))) (fgName 3) (fYes) (fOp dAdd (fVar 3) (fTup (fCons (fVar 2) (fNil)))))) (fgName 1))) (fRet (fCall sv (fCons (fVar 1) (fNil))))))
def pv_rows_of_spares (sv : List D → Option D) : Den := denOf 10 3 [3, 4, 5, 6, 7, 8, 6] (fSeq (fAsg (fLc [9] (fRng1 (fCons (fCallD d_ties_in (fCons (fVar 0) (fNil))) (fNil))) (fgName 9) (fYes) (fCallD d_ends_of (fCons (fVar 0) (fCons (fVar 9) (fNil))))) (fgName 3)) (fSeq (fAsg (fLst (fNil)) (fgName 4)) (fSeq (fFor (fSeqI (fFrz (fCallD (pv_all_sides sv) (fCons (fCall dLen (fCons (fVar 0) (fNil))) (fNil))))) (fgName 5) (fSeq (fAsg (fC (.int 0)) (fgName 6)) (fSeq (fFor (fZip (fCons (fFrz (fVar 3)) (fCons (fFrz (fVar 1)) fNil))) (fgTup 2 (fgCons (fgName 7) (fgCons (fgName 8) (fgNil)))) (fIfS (fTest (fCallD d_is_parted (fCons (fVar 5) (fCons (fVar 7) (fNil))))) (fAsg (fOp dAdd (fVar 6) (fVar 8)) (fgName 6)) (fSkip))) (fDrop (fMut isLst mAppend (fpVar 4) (fCons (fTup (fCons (fOp dSub (fVar 6) (fCallD d_asks_across (fCons (fVar 2) (fCons (fVar 5) (fNil))))) (fCons (fVar 5) (fNil)))) (fNil))))))) (fRet (fVar 4)))))
def pv_least_spare (sv : List D → Option D) : Den := denOf 3 3 [] (fSeq (fIfS (fTest (fOp (dCmp pGt) (fCall dLen (fCons (fVar 0) (fNil))) (fC (.int 8)))) (fNever) (fSkip)) (fSeq (fIfS (fTest (fOp dEq (fCall dLen (fCons (fVar 0) (fNil))) (fC (.int 1)))) (fRet (fTup (fCons (fC (.int 0)) (fCons (fTup (fNil)) (fNil))))) (fSkip)) (fRet (fCall dMinD (fCons (fCut (fCallD (pv_rows_of_spares sv) (fCons (fVar 0) (fCons (fVar 1) (fCons (fVar 2) (fNil))))) (foSome (fC (.int 1))) (foNone)) (fNil))))))
def pv__law_sides (sv : List D → Option D) : Den := denOf 4 1 [1, 2, 1] (fSeq (fAsg (fLst (fCons (fTup (fNil)) (fNil))) (fgName 1)) (fSeq (fFor (fRng2 (fCons (fC (.int 1)) (fCons (fVar 0) (fNil)))) (fgName 2) (fAsg (fOp dCatS (fVar 1) (fLc [3] (fSeqI (fFrz (fVar 1))) (fgName 3) (fYes) (fOp dAdd (fVar 3) (fTup (fCons (fVar 2) (fNil)))))) (fgName 1))) (fRet (fCut (fCall sv (fCons (fVar 1) (fNil))) (foSome (fC (.int 1))) (foNone)))))
def pv__law_is_web (so : List D → Option D) (su : List D → Option D) : Den := denOf 4 1 [1, 2] (fSeq (fIfS (fOr (fNot (fTest (fIsi .tuple (fVar 0)))) (fNot (fTest (fBl (fChain pLe pLe (fC (.int 1)) (fCall dLen (fCons (fVar 0) (fNil))) (fC (.int 8))))))) (fRet (fC (.bl false))) (fSkip)) (fSeq (fAsg (fLst (fNil)) (fgName 1)) (fSeq (fFor (fSeqI (fFrz (fVar 0))) (fgName 2) (fSeq (fIfS (fOr (fNot (fTest (fIsi .tuple (fVar 2)))) (fOr (fTest (fOp dEq (fVar 2) (fTup (fNil)))) (fTest (fOp dIn (fC (.bl false)) (fLc [3] (fSeqI (fFrz (fVar 2))) (fgName 3) (fYes) (fCallD d__law_is_whole (fCons (fVar 3) (fNil)))))))) (fRet (fC (.bl false))) (fSkip)) (fSeq (fIfS (fTest (fOp dNe (fOp dSubs (fVar 2) (fC (.int 0))) (fCall (dMm min) (fCons (fVar 2) (fNil))))) (fRet (fC (.bl false))) (fSkip)) (fDrop (fMut isLst mExtT (fpVar 1) (fCons (fVar 2) (fNil))))))) (fSeq (fIfS (fOr (fTest (fOp dNe (fCall so (fCons (fVar 1) (fNil))) (fLstRg1 (fCall dLen (fCons (fVar 1) (fNil)))))) (fOr (fTest (fOp dEq (fOp dMod (fCall dLen (fCons (fVar 1) (fNil))) (fC (.int 2))) (fC (.int 1)))) (fTest (fOp (dCmp pGt) (fCall dLen (fCons (fVar 1) (fNil))) (fC (.int 24)))))) (fRet (fC (.bl false))) (fSkip)) (fSeq (fIfS (fOr (fTest (fOp dNe (fCall dList (fCons (fVar 0) (fNil))) (fCall su (fCons (fVar 0) (fNil))))) (fNot (fTest (fCallD d__law_is_whole_piece (fCons (fVar 0) (fNil)))))) (fRet (fC (.bl false))) (fSkip)) (fRet (fOp dEq (fOp dAdd (fOp dSub (fCall dLen (fCons (fVar 0) (fNil))) (fOp dDiv (fCall dLen (fCons (fVar 1) (fNil))) (fC (.int 2)))) (fCall dLen (fCons (fCallD d__law_faces (fCons (fVar 0) (fNil))) (fNil)))) (fC (.int 2)))))))))
def pv__law_is_case (so : List D → Option D) (su : List D → Option D) (sv : List D → Option D) : Den := denOf 16 1 [1, 2, 3, 4, 5, 6, 7, 8, 9, 10, 11, 12, 10] (fSeq (fIfS (fOr (fNot (fTest (fIsi .tuple (fVar 0)))) (fOr (fTest (fOp dNe (fCall dLen (fCons (fVar 0) (fNil))) (fC (.int 4)))) (fNot (fTest (fCallD (pv__law_is_web so su) (fCons (fOp dSubs (fVar 0) (fC (.int 0))) (fNil))))))) (fRet (fC (.bl false))) (fSkip)) (fSeq (fAsg (fVar 0) (fgTup 4 (fgCons (fgName 1) (fgCons (fgName 2) (fgCons (fgName 3) (fgCons (fgName 4) (fgNil))))))) (fSeq (fAsg (fCallD d__law_ties (fCons (fVar 1) (fNil))) (fgName 5)) (fSeq (fAsg (fBl (fAnd (fTest (fCallD d__law_are_numbers (fCons (fVar 2) (fCons (fVar 5) (fCons (fC (.int 6)) (fNil)))))) (fTest (fCallD d__law_are_numbers (fCons (fVar 4) (fCons (fVar 5) (fCons (fC (.int 6)) (fNil)))))))) (fgName 6)) (fSeq (fIfS (fOr (fNot (fTest (fVar 6))) (fNot (fTest (fCallD d__law_are_asks (fCons (fCall dLen (fCons (fVar 1) (fNil))) (fCons (fVar 3) (fNil))))))) (fRet (fC (.bl false))) (fSkip)) (fSeq (fFor (fSeqI (fFrz (fCallD (pv__law_sides sv) (fCons (fCall dLen (fCons (fVar 1) (fNil))) (fNil))))) (fgName 7) (fIfS (fTest (fOp (dCmp pLt) (fCallD d__law_spare (fCons (fVar 1) (fCons (fVar 2) (fCons (fVar 3) (fCons (fVar 7) (fNil)))))) (fC (.int 0)))) (fRet (fC (.bl false))) (fSkip))) (fSeq (fFor (fRng1 (fCons (fCall dLen (fCons (fVar 1) (fNil))) (fNil))) (fgName 8) (fSeq (fAsg (fCall dSum (fCons (fLc [14] (fSeqI (fFrz (fOp dSubs (fVar 1) (fVar 8)))) (fgName 14) (fYes) (fOp dSubs (fVar 2) (fOp dDiv (fVar 14) (fC (.int 2))))) (fNil))) (fgName 9)) (fIfS (fTest (fOp dEq (fOp dMod (fOp dAdd (fVar 9) (fCall dLen (fCons (fLc [15] (fSeqI (fFrz (fVar 3))) (fgName 15) (fTest (fOp dIn (fVar 8) (fVar 15))) (fVar 15)) (fNil)))) (fC (.int 2))) (fC (.int 1)))) (fRet (fC (.bl false))) (fSkip)))) (fSeq (fAsg (fCall dSum (fCons (fLc [13] (fRng1 (fCons (fVar 5) (fNil))) (fgName 13) (fYes) (fOp dMul (fOp dSubs (fVar 2) (fVar 13)) (fOp dSubs (fVar 4) (fVar 13)))) (fNil))) (fgName 10)) (fSeq (fFor (fSeqI (fFrz (fVar 3))) (fgTup 2 (fgCons (fgName 11) (fgCons (fgName 12) (fgNil)))) (fAsg (fOp dSub (fVar 10) (fOp dSubs (fFrz (fCallD d__law_far (fCons (fVar 1) (fCons (fVar 4) (fCons (fVar 11) (fNil)))))) (fVar 12))) (fgName 10))) (fRet (fOp (dCmp pLt) (fVar 10) (fC (.int 0)))))))))))))
theorem e_least_spare : d_least_spare = pv_least_spare dSortV := rfl
theorem e__law_is_case : d__law_is_case = pv__law_is_case dSorted dSortU dSortV := rfl
end K72
/-! The told cases: worked out, what is sorted. -/
namespace K72
open PySem PySem.Spec L2 DL RP RC
def so : List D → Option D := known dSorted [([.lst (intsD d1)], .lst (intsD (up 12))), ([.lst (intsD d2)], .lst (intsD (up 14))), ([.lst (intsD d3)], .lst (intsD (up 14)))]
def su : List D → Option D := known dSortU [([webD w1], .lst (w1.map rowD)), ([webD w2], .lst (w2.map rowD)), ([webD w3], .lst (w3.map rowD))]
def sv : List D → Option D := known dSortV [([.lst ((K58.sidesU 4).map rowD)], .lst (t4.map rowD)), ([.lst ((K58.sidesU 5).map rowD)], .lst (t5.map rowD))]
theorem sorts_same {a b : List (List Int)} (p : a.isPerm b = true) (o : b.Pairwise fun x y => x ≤ y) : sortRows a = b :=
  List.Perm.eq_of_pairwise (fun x y _ _ h1 h2 => List.le_antisymm h1 h2) (sortRows_sorted a) o ((sortRows_perm a).trans (List.isPerm_iff.mp p))
theorem up_sorted {w : List (List Int)} (ne : ∀ r ∈ w, r ≠ []) (o : w.Pairwise fun x y => x ≤ y) : dSortU [webD w] = some (.lst (w.map rowD)) := by
  have := sorted_rows ne
  rw [sorts_same (List.isPerm_iff.mpr (List.Perm.refl w)) o] at this
  exact this
theorem so_same : dSorted = so := known_same fun t ht => by
  simp only [List.mem_cons, List.not_mem_nil, or_false] at ht
  rcases ht with rfl | rfl | rfl
  · exact sorted_all (List.isPerm_iff.mp (by decide +kernel))
  · exact sorted_all (List.isPerm_iff.mp (by decide +kernel))
  · exact sorted_all (List.isPerm_iff.mp (by decide +kernel))
theorem su_same : dSortU = su := known_same fun t ht => by
  simp only [List.mem_cons, List.not_mem_nil, or_false] at ht
  rcases ht with rfl | rfl | rfl
  · exact up_sorted (by decide) (by decide +kernel)
  · exact up_sorted (by decide) (by decide +kernel)
  · exact up_sorted (by decide) (by decide +kernel)
theorem sv_same : dSortV = sv := known_same fun t ht => by
  simp only [List.mem_cons, List.not_mem_nil, or_false] at ht
  rcases ht with rfl | rfl
  · have := K58.sort_sides 4
    rw [← K58.sort_first, sorts_same (b := t4) (by decide +kernel) (by decide +kernel)] at this
    exact this
  · have := K58.sort_sides 5
    rw [← K58.sort_first, sorts_same (b := t5) (by decide +kernel) (by decide +kernel)] at this
    exact this
end K72
/-! The told cases: worked out, all that the law asks of them. -/
namespace K72
open PySem PySem.Spec L2 DL RP RC
theorem someD {z : Option D} {y : D} (h : eqL [z.getD .non] [y] = true) (ne : eqD .non y = false) : z = some y := by
  have e := (List.cons.inj (eqL_ok _ _ h)).1
  cases z with
  | some x => rw [show x = y from e]
  | none =>
    have e : D.non = y := e
    rw [← e] at ne
    cases ne
theorem told_ok : d_told_cases [] = some (.tup [c1, c2, c3], []) := eqV_ok (as := []) (by decide +kernel)
/-- what a call answers -/
def ans (z : Option (D × Fm)) : D := (z.map fun x => x.1).getD .non
theorem case1_ok : d__law_is_case [c1] = some (.bl true, [some c1]) := by
  rw [e__law_is_case, so_same, su_same, sv_same]
  exact eqV_ok (as := [c1]) (by decide +kernel)
def pa1 : D := ans (d_lengths_paper [webD w1, asksD a1, rowD l1])
theorem paper1_ok : d_lengths_paper [webD w1, asksD a1, rowD l1] = some (pa1, [some (webD w1), some (asksD a1), some (rowD l1)]) := eqV_ok (as := [webD w1, asksD a1, rowD l1]) (by decide +kernel)
theorem paper1_imm : imm pa1 = true := by decide +kernel
theorem lets1_ok : d_lets_lengths [webD w1, rowD r1, asksD a1, pa1] = some (.bl true, [some (webD w1), some (rowD r1), some (asksD a1), some pa1]) := eqV_ok (as := [webD w1, rowD r1, asksD a1, pa1]) (by decide +kernel)
def ls1 : D := ans (pv_least_spare sv [webD w1, rowD r1, asksD a1])
theorem least1_ok : d_least_spare [webD w1, rowD r1, asksD a1] = some (ls1, [some (webD w1), some (rowD r1), some (asksD a1)]) := by
  rw [e_least_spare, sv_same]
  exact eqV_ok (as := [webD w1, rowD r1, asksD a1]) (by decide +kernel)
theorem least1_imm : imm ls1 = true := by decide +kernel
theorem least1_0 : dSubs ls1 (.int 0) = some (.int 0) := by
  exact someD (by decide +kernel) rfl
theorem odd1_ok : d_odd_places [webD w1, rowD r1, asksD a1] = some (.tup [], [some (webD w1), some (rowD r1), some (asksD a1)]) := eqV_ok (as := [webD w1, rowD r1, asksD a1]) (by decide +kernel)
def fa1 : D := ans (d__law_faces [webD w1])
theorem faces1_ok : d__law_faces [webD w1] = some (fa1, [some (webD w1)]) := eqV_ok (as := [webD w1]) (by decide +kernel)
theorem faces1_len : dLen [fa1] = some (.int 3) := by
  exact someD (by decide +kernel) rfl
def of10 : D := ans (d_off_rim [webD w1, .int 0, asksD a1])
theorem off10_ok : d_off_rim [webD w1, .int 0, asksD a1] = some (of10, [some (webD w1), some (.int 0), some (asksD a1)]) := eqV_ok (as := [webD w1, .int 0, asksD a1]) (by decide +kernel)
theorem off10_not : dIsNotN of10 .non = some (.bl true) := someD (by decide +kernel) rfl
theorem off10_imm : imm of10 = true := by decide +kernel
def of11 : D := ans (d_off_rim [webD w1, .int 1, asksD a1])
theorem off11_ok : d_off_rim [webD w1, .int 1, asksD a1] = some (of11, [some (webD w1), some (.int 1), some (asksD a1)]) := eqV_ok (as := [webD w1, .int 1, asksD a1]) (by decide +kernel)
theorem off11_not : dIsNotN of11 .non = some (.bl true) := someD (by decide +kernel) rfl
theorem off11_imm : imm of11 = true := by decide +kernel
def of12 : D := ans (d_off_rim [webD w1, .int 2, asksD a1])
theorem off12_ok : d_off_rim [webD w1, .int 2, asksD a1] = some (of12, [some (webD w1), some (.int 2), some (asksD a1)]) := eqV_ok (as := [webD w1, .int 2, asksD a1]) (by decide +kernel)
theorem off12_not : dIsNotN of12 .non = some (.bl true) := someD (by decide +kernel) rfl
theorem off12_imm : imm of12 = true := by decide +kernel
theorem case2_ok : d__law_is_case [c2] = some (.bl true, [some c2]) := by
  rw [e__law_is_case, so_same, su_same, sv_same]
  exact eqV_ok (as := [c2]) (by decide +kernel)
def pa2 : D := ans (d_lengths_paper [webD w2, asksD a2, rowD l2])
theorem paper2_ok : d_lengths_paper [webD w2, asksD a2, rowD l2] = some (pa2, [some (webD w2), some (asksD a2), some (rowD l2)]) := eqV_ok (as := [webD w2, asksD a2, rowD l2]) (by decide +kernel)
theorem paper2_imm : imm pa2 = true := by decide +kernel
theorem lets2_ok : d_lets_lengths [webD w2, rowD r2, asksD a2, pa2] = some (.bl true, [some (webD w2), some (rowD r2), some (asksD a2), some pa2]) := eqV_ok (as := [webD w2, rowD r2, asksD a2, pa2]) (by decide +kernel)
def ls2 : D := ans (pv_least_spare sv [webD w2, rowD r2, asksD a2])
theorem least2_ok : d_least_spare [webD w2, rowD r2, asksD a2] = some (ls2, [some (webD w2), some (rowD r2), some (asksD a2)]) := by
  rw [e_least_spare, sv_same]
  exact eqV_ok (as := [webD w2, rowD r2, asksD a2]) (by decide +kernel)
theorem least2_imm : imm ls2 = true := by decide +kernel
theorem least2_0 : dSubs ls2 (.int 0) = some (.int 0) := by
  exact someD (by decide +kernel) rfl
theorem odd2_ok : d_odd_places [webD w2, rowD r2, asksD a2] = some (.tup [], [some (webD w2), some (rowD r2), some (asksD a2)]) := eqV_ok (as := [webD w2, rowD r2, asksD a2]) (by decide +kernel)
def fa2 : D := ans (d__law_faces [webD w2])
theorem faces2_ok : d__law_faces [webD w2] = some (fa2, [some (webD w2)]) := eqV_ok (as := [webD w2]) (by decide +kernel)
theorem faces2_len : dLen [fa2] = some (.int 3) := by
  exact someD (by decide +kernel) rfl
def of20 : D := ans (d_off_rim [webD w2, .int 0, asksD a2])
theorem off20_ok : d_off_rim [webD w2, .int 0, asksD a2] = some (of20, [some (webD w2), some (.int 0), some (asksD a2)]) := eqV_ok (as := [webD w2, .int 0, asksD a2]) (by decide +kernel)
theorem off20_not : dIsNotN of20 .non = some (.bl true) := someD (by decide +kernel) rfl
theorem off20_imm : imm of20 = true := by decide +kernel
def of21 : D := ans (d_off_rim [webD w2, .int 1, asksD a2])
theorem off21_ok : d_off_rim [webD w2, .int 1, asksD a2] = some (of21, [some (webD w2), some (.int 1), some (asksD a2)]) := eqV_ok (as := [webD w2, .int 1, asksD a2]) (by decide +kernel)
theorem off21_not : dIsNotN of21 .non = some (.bl true) := someD (by decide +kernel) rfl
theorem off21_imm : imm of21 = true := by decide +kernel
def of22 : D := ans (d_off_rim [webD w2, .int 2, asksD a2])
theorem off22_ok : d_off_rim [webD w2, .int 2, asksD a2] = some (of22, [some (webD w2), some (.int 2), some (asksD a2)]) := eqV_ok (as := [webD w2, .int 2, asksD a2]) (by decide +kernel)
theorem off22_not : dIsNotN of22 .non = some (.bl true) := someD (by decide +kernel) rfl
theorem off22_imm : imm of22 = true := by decide +kernel
theorem case3_ok : d__law_is_case [c3] = some (.bl true, [some c3]) := by
  rw [e__law_is_case, so_same, su_same, sv_same]
  exact eqV_ok (as := [c3]) (by decide +kernel)
def pa3 : D := ans (d_lengths_paper [webD w3, asksD a3, rowD l3])
theorem paper3_ok : d_lengths_paper [webD w3, asksD a3, rowD l3] = some (pa3, [some (webD w3), some (asksD a3), some (rowD l3)]) := eqV_ok (as := [webD w3, asksD a3, rowD l3]) (by decide +kernel)
theorem paper3_imm : imm pa3 = true := by decide +kernel
theorem lets3_ok : d_lets_lengths [webD w3, rowD r3, asksD a3, pa3] = some (.bl true, [some (webD w3), some (rowD r3), some (asksD a3), some pa3]) := eqV_ok (as := [webD w3, rowD r3, asksD a3, pa3]) (by decide +kernel)
def ls3 : D := ans (pv_least_spare sv [webD w3, rowD r3, asksD a3])
theorem least3_ok : d_least_spare [webD w3, rowD r3, asksD a3] = some (ls3, [some (webD w3), some (rowD r3), some (asksD a3)]) := by
  rw [e_least_spare, sv_same]
  exact eqV_ok (as := [webD w3, rowD r3, asksD a3]) (by decide +kernel)
theorem least3_imm : imm ls3 = true := by decide +kernel
theorem least3_0 : dSubs ls3 (.int 0) = some (.int 0) := by
  exact someD (by decide +kernel) rfl
theorem odd3_ok : d_odd_places [webD w3, rowD r3, asksD a3] = some (.tup [], [some (webD w3), some (rowD r3), some (asksD a3)]) := eqV_ok (as := [webD w3, rowD r3, asksD a3]) (by decide +kernel)
def fa3 : D := ans (d__law_faces [webD w3])
theorem faces3_ok : d__law_faces [webD w3] = some (fa3, [some (webD w3)]) := eqV_ok (as := [webD w3]) (by decide +kernel)
theorem faces3_len : dLen [fa3] = some (.int 3) := by
  exact someD (by decide +kernel) rfl
def of30 : D := ans (d_off_rim [webD w3, .int 0, asksD a3])
theorem off30_ok : d_off_rim [webD w3, .int 0, asksD a3] = some (of30, [some (webD w3), some (.int 0), some (asksD a3)]) := eqV_ok (as := [webD w3, .int 0, asksD a3]) (by decide +kernel)
theorem off30_not : dIsNotN of30 .non = some (.bl true) := someD (by decide +kernel) rfl
theorem off30_imm : imm of30 = true := by decide +kernel
def of31 : D := ans (d_off_rim [webD w3, .int 1, asksD a3])
theorem off31_ok : d_off_rim [webD w3, .int 1, asksD a3] = some (of31, [some (webD w3), some (.int 1), some (asksD a3)]) := eqV_ok (as := [webD w3, .int 1, asksD a3]) (by decide +kernel)
theorem off31_not : dIsNotN of31 .non = some (.bl true) := someD (by decide +kernel) rfl
theorem off31_imm : imm of31 = true := by decide +kernel
def of32 : D := ans (d_off_rim [webD w3, .int 2, asksD a3])
theorem off32_ok : d_off_rim [webD w3, .int 2, asksD a3] = some (of32, [some (webD w3), some (.int 2), some (asksD a3)]) := eqV_ok (as := [webD w3, .int 2, asksD a3]) (by decide +kernel)
theorem off32_not : dIsNotN of32 .non = some (.bl true) := someD (by decide +kernel) rfl
theorem off32_imm : imm of32 = true := by decide +kernel
theorem get0 : dSubs (.tup [c1, c2, c3]) (.int 0) = some c1 := rfl
theorem get1 : dSubs (.tup [c1, c2, c3]) (.int 1) = some c2 := rfl
theorem get2 : dSubs (.tup [c1, c2, c3]) (.int 2) = some c3 := rfl
theorem cut0 : dCut (.tup [c1, c2, c3]) none (some 0) = some (.tup []) := someD (by decide +kernel) rfl
theorem cut1 : dCut (.tup [c1, c2, c3]) none (some 1) = some (.tup [c1]) := someD (by decide +kernel) rfl
theorem cut2 : dCut (.tup [c1, c2, c3]) none (some 2) = some (.tup [c1, c2]) := someD (by decide +kernel) rfl
theorem in0 : dInT c1 (.tup []) = some (.bl false) := someD (by decide +kernel) rfl
theorem in1 : dInT c2 (.tup [c1]) = some (.bl false) := someD (by decide +kernel) rfl
theorem in2 : dInT c3 (.tup [c1, c2]) = some (.bl false) := someD (by decide +kernel) rfl
end K72
/-! The told cases: the law. -/
namespace K72
open PySem PySem.Spec L2 DL WA RM WB WC RP RD RC
theorem sn {a b : FS} {x y : Fm} (h : a x = some (.nx, y)) : fSeq a b x = b y := by unfold fSeq; rw [h]; rfl
def s0 : FS := fAsg (fCallD d__law_tape (fCons (fVar 0) (fNil))) (fgName 1)
def s1b0 : FS := fAsg (fCallD d_told_cases fNil) (fgName 3)
def s1b1 : FS := fIfS (fOr (fNot (fTest (fIsi .tuple (fVar 3)))) (fNot (fTest (fBl (fChain pLe pLe (fC (.int 3)) (fCall dLen (fCons (fVar 3) (fNil))) (fC (.int 20))))))) (fRet (fC (.bl false))) (fSkip)
def s1b2b0 : FS := fIfS (fOr (fNot (fTest (fCallD d__law_is_case (fCons (fOp dSubs (fVar 3) (fVar 4)) (fNil))))) (fTest (fOp dInT (fOp dSubs (fVar 3) (fVar 4)) (fCut (fVar 3) (foNone) (foSome (fVar 4)))))) (fRet (fC (.bl false))) (fSkip)
def s1b2b : FS := s1b2b0
def s1b2 : FS := fFor (fRng1 (fCons (fCall dLen (fCons (fVar 3) (fNil))) (fNil))) (fgName 4) s1b2b
def s1b : FS := fSeq s1b0 (fSeq s1b1 s1b2)
def s1 : FS := fFor (fRng1 (fCons (fC (.int 2)) (fNil))) (fgName 2) s1b
def s2 : FS := fAsg (fOp dSubs (fVar 3) (fCallD d__law_draw (fCons (fVar 1) (fCons (fCall dLen (fCons (fVar 3) (fNil))) (fNil))))) (fgTup 4 (fgCons (fgName 5) (fgCons (fgName 6) (fgCons (fgName 7) (fgCons (fgName 8) (fgNil))))))
def s3 : FS := fIfS (fTest (fOp dIsNotB (fCallD d_lets_lengths (fCons (fVar 5) (fCons (fVar 6) (fCons (fVar 7) (fCons (fCallD d_lengths_paper (fCons (fVar 5) (fCons (fVar 7) (fCons (fVar 8) (fNil))))) (fNil)))))) (fC (.bl true)))) (fRet (fC (.bl false))) (fSkip)
def s4 : FS := fIfS (fOr (fTest (fOp (dCmp pLt) (fOp dSubs (fCallD d_least_spare (fCons (fVar 5) (fCons (fVar 6) (fCons (fVar 7) (fNil))))) (fC (.int 0))) (fC (.int 0)))) (fTest (fOp dNe (fCallD d_odd_places (fCons (fVar 5) (fCons (fVar 6) (fCons (fVar 7) (fNil))))) (fTup (fNil))))) (fRet (fC (.bl false))) (fSkip)
def s5 : FS := fRet (fOp dIsNotN (fCallD d_off_rim (fCons (fVar 5) (fCons (fCallD d__law_draw (fCons (fVar 1) (fCons (fCall dLen (fCons (fCallD d__law_faces (fCons (fVar 5) (fNil))) (fNil))) (fNil)))) (fCons (fVar 7) (fNil))))) (fC .non))
def s : FS := fSeq s0 (fSeq s1 (fSeq s2 (fSeq s3 (fSeq s4 s5))))
theorem law_split : d_law = denOf 9 1 [1, 2, 3, 4, 5, 6, 7, 8] s := rfl
abbrev TD : D := .tup [c1, c2, c3]
theorem imT : imm TD = true := rfl
theorem im1 : imm c1 = true := rfl
theorem im2 : imm c2 = true := rfl
theorem im3 : imm c3 = true := rfl
/-- one of the cases, and what the law asks of it -/
structure Csd (c : D) where
  (w : List (List Int)) (r l : List Int) (a : List (Int × Int)) (pa ls fa : D)
  eq : c = .tup [webD w, rowD r, asksD a, rowD l]
  paper : d_lengths_paper [webD w, asksD a, rowD l] = some (pa, [some (webD w), some (asksD a), some (rowD l)])
  ipa : imm pa = true
  lets : d_lets_lengths [webD w, rowD r, asksD a, pa] = some (.bl true, [some (webD w), some (rowD r), some (asksD a), some pa])
  least : d_least_spare [webD w, rowD r, asksD a] = some (ls, [some (webD w), some (rowD r), some (asksD a)])
  ils : imm ls = true
  ls0 : dSubs ls (.int 0) = some (.int 0)
  odd : d_odd_places [webD w, rowD r, asksD a] = some (.tup [], [some (webD w), some (rowD r), some (asksD a)])
  faces : d__law_faces [webD w] = some (fa, [some (webD w)])
  len : dLen [fa] = some (.int 3)
  off : ∀ i : Int, 0 ≤ i → i < 3 → ∃ z, d_off_rim [webD w, .int i, asksD a] = some (z, [some (webD w), some (.int i), some (asksD a)]) ∧ dIsNotN z .non = some (.bl true) ∧ imm z = true
def cs1 : Csd c1 := ⟨w1, r1, l1, a1, pa1, ls1, fa1, rfl, paper1_ok, paper1_imm, lets1_ok, least1_ok, least1_imm, least1_0, odd1_ok, faces1_ok, faces1_len, fun i i0 i1 => by
  have : i = 0 ∨ i = 1 ∨ i = 2 := by omega
  rcases this with rfl | rfl | rfl
  · exact ⟨_, off10_ok, off10_not, off10_imm⟩
  · exact ⟨_, off11_ok, off11_not, off11_imm⟩
  · exact ⟨_, off12_ok, off12_not, off12_imm⟩⟩
def cs2 : Csd c2 := ⟨w2, r2, l2, a2, pa2, ls2, fa2, rfl, paper2_ok, paper2_imm, lets2_ok, least2_ok, least2_imm, least2_0, odd2_ok, faces2_ok, faces2_len, fun i i0 i1 => by
  have : i = 0 ∨ i = 1 ∨ i = 2 := by omega
  rcases this with rfl | rfl | rfl
  · exact ⟨_, off20_ok, off20_not, off20_imm⟩
  · exact ⟨_, off21_ok, off21_not, off21_imm⟩
  · exact ⟨_, off22_ok, off22_not, off22_imm⟩⟩
def cs3 : Csd c3 := ⟨w3, r3, l3, a3, pa3, ls3, fa3, rfl, paper3_ok, paper3_imm, lets3_ok, least3_ok, least3_imm, least3_0, odd3_ok, faces3_ok, faces3_len, fun i i0 i1 => by
  have : i = 0 ∨ i = 1 ∨ i = 2 := by omega
  rcases this with rfl | rfl | rfl
  · exact ⟨_, off30_ok, off30_not, off30_imm⟩
  · exact ⟨_, off31_ok, off31_not, off31_imm⟩
  · exact ⟨_, off32_ok, off32_not, off32_imm⟩⟩
theorem case_step {c : D} {p : Int} {P : List D} (g : dSubs TD (.int p) = some c) (ic : imm c = true) (e : d__law_is_case [c] = some (.bl true, [some c])) (ct : dCut TD none (some p) = some (.tup P)) (iP : immL P = true) (no : dInT c (.tup P) = some (.bl false)) (o0 o1 o2 o5 o6 o7 o8 : Option D) :
    s1b2b [o0, o1, o2, some TD, some (.int p), o5, o6, o7, o8] = some (.nx, [o0, o1, o2, some TD, some (.int p), o5, o6, o7, o8]) := by
  have it := imT
  generalize TD = T at *
  simp [s1b2b, s1b2b0, g, ic, e, ct, iP, no, it]
theorem turn_ok (o0 o1 o2 o3 o4 o5 o6 o7 o8 : Option D) : ∃ o4', s1b [o0, o1, o2, o3, o4, o5, o6, o7, o8] = some (.nx, [o0, o1, o2, some TD, o4', o5, o6, o7, o8]) := by
  have it := imT
  have t0 : s1b0 [o0, o1, o2, o3, o4, o5, o6, o7, o8] = some (.nx, [o0, o1, o2, some TD, o4, o5, o6, o7, o8]) := by
    have e : d_told_cases [] = some (TD, []) := told_ok
    generalize TD = T at *
    simp [s1b0, e, it]
  have ln : dLen [TD] = some (.int 3) := rfl
  have isk : isK .tuple TD = true := rfl
  have isx : isX TD = false := rfl
  have t1 : s1b1 [o0, o1, o2, some TD, o4, o5, o6, o7, o8] = some (.nx, [o0, o1, o2, some TD, o4, o5, o6, o7, o8]) := by
    generalize TD = T at *
    simp [s1b1, isk, isx, ln, it, fChain]
  have t2 : Ok (s1b2 [o0, o1, o2, some TD, o4, o5, o6, o7, o8]) fun z => z.1 = .nx ∧ ∃ o4', z.2 = [o0, o1, o2, some TD, o4', o5, o6, o7, o8] := by
    have ok3 : okR 3 = true := rfl
    have st0 := case_step get0 im1 case1_ok cut0 rfl in0 o0 o1 o2 o5 o6 o7 o8
    have st1 := case_step get1 im2 case2_ok cut1 rfl in1 o0 o1 o2 o5 o6 o7 o8
    have st2 := case_step get2 im3 case3_ok cut2 rfl in2 o0 o1 o2 o5 o6 o7 o8
    obtain ⟨BD, hBD⟩ : ∃ BD, s1b2b = BD := ⟨_, rfl⟩
    unfold s1b2
    rw [hBD] at st0 st1 st2 ⊢
    generalize TD = T at *
    simp [ln, it, ok3, ok_bind]
    refine ok_iota (n := 3) (P := fun z => z.1 = .nx ∧ ∃ o4', z.2 = [o0, o1, o2, some T, o4', o5, o6, o7, o8]) (fun _ ρ => ∃ o4', ρ = [o0, o1, o2, some T, o4', o5, o6, o7, o8]) ?_ (fun ρ h => ⟨rfl, h⟩) ⟨o4, rfl⟩
    rintro p ρ hp ⟨o4', rfl⟩
    refine ⟨[o0, o1, o2, some T, some (.int (p : Nat)), o5, o6, o7, o8], by simp, ?_⟩
    have : p = 0 ∨ p = 1 ∨ p = 2 := by omega
    rcases this with rfl | rfl | rfl
    · exact ⟨_, st0, _, rfl⟩
    · exact ⟨_, st1, _, rfl⟩
    · exact ⟨_, st2, _, rfl⟩
  obtain ⟨⟨o, ρ⟩, t2, ho, o4', er⟩ := t2
  have ho : o = .nx := ho
  have er : ρ = _ := er
  subst ho er
  refine ⟨o4', ?_⟩
  unfold s1b
  rw [sn t0, sn t1, t2]
theorem end_ok {c : D} (C : Csd c) {f : D} (hf : IsTape f) (o0 o2 o3 o4 : Option D) : ∃ ρ, fSeq s3 (fSeq s4 s5) [o0, some f, o2, o3, o4, some (webD C.w), some (rowD C.r), some (asksD C.a), some (rowD C.l)] = some (.ret (.bl true), ρ) := by
  have iw := imm_rows C.w
  have ir := imm_row C.r
  have il := imm_row C.l
  have ia := imm_asks C.a
  have imf := hf.imm
  obtain ⟨i, f1, e1, i0, i1, hf1, im1⟩ := RD.draw_eq hf (m := 3) (by decide) (by decide)
  obtain ⟨z, of, nt, iz⟩ := C.off i i0 i1
  have h1 := C.paper
  have h2 := C.lets
  have h3 := C.least
  have h4 := C.ls0
  have h5 := C.odd
  have h6 := C.faces
  have h7 := C.len
  have j1 := C.ipa
  have j2 := C.ils
  have nb : dIsNotB (.bl true) (.bl true) = some (.bl false) := rfl
  have nv : dNe (.tup []) (.tup []) = some (.bl false) := by
    have := RC.eq_rows (r := []) (q := []) (by simp) (by simp)
    show (dEqB (rowD []) (rowD [])).map _ = _
    rw [this]; rfl
  generalize C.pa = PA at *
  generalize C.ls = LS at *
  generalize C.fa = FA at *
  have t3 : s3 [o0, some f, o2, o3, o4, some (webD C.w), some (rowD C.r), some (asksD C.a), some (rowD C.l)] = some (.nx, [o0, some f, o2, o3, o4, some (webD C.w), some (rowD C.r), some (asksD C.a), some (rowD C.l)]) := by
    simp [s3, h1, h2, iw, ir, il, ia, j1, nb]
  have t4 : s4 [o0, some f, o2, o3, o4, some (webD C.w), some (rowD C.r), some (asksD C.a), some (rowD C.l)] = some (.nx, [o0, some f, o2, o3, o4, some (webD C.w), some (rowD C.r), some (asksD C.a), some (rowD C.l)]) := by
    simp [s4, h3, h4, h5, iw, ir, ia, j2, nv, big_ok]
  refine ⟨[o0, some f1, o2, o3, o4, some (webD C.w), some (rowD C.r), some (asksD C.a), some (rowD C.l)], ?_⟩
  rw [sn t3, sn t4]
  simp [s5, h6, h7, imf, e1, im1, of, nt, iz, iw, ia]
theorem law_true (ns : List Int) (hl : ns.length ≤ 63) : ∃ ρ', d_law [.flst (ns.map .int)] = some (.bl true, ρ') := by
  rw [law_split]
  have main : Ok (denOf 9 1 [1, 2, 3, 4, 5, 6, 7, 8] s [.flst (ns.map .int)]) fun z => z.1 = .bl true := by
    obtain ⟨f0, e0, hf0⟩ := tape_ok ns
    have im0 := hf0.imm
    have q0 : s0 [some (.flst (intsD ns)), none, none, none, none, none, none, none, none] = some (.nx, [some (.flst (intsD ns)), some f0, none, none, none, none, none, none, none]) := by
      simp [s0, e0, im0]
    have q1 : Ok (s1 [some (.flst (intsD ns)), some f0, none, none, none, none, none, none, none]) fun z => z.1 = .nx ∧ ∃ o2 o4, z.2 = [some (.flst (intsD ns)), some f0, o2, some TD, o4, none, none, none, none] := by
      have ok2 : okR 2 = true := rfl
      have st := turn_ok (some (.flst (intsD ns))) (some f0)
      obtain ⟨BD, hBD⟩ : ∃ BD, s1b = BD := ⟨_, rfl⟩
      unfold s1
      rw [hBD] at st ⊢
      generalize TD = T at *
      simp [ok2, ok_bind]
      refine ok_iota (n := 2) (P := fun z => z.1 = .nx ∧ ∃ o2 o4, z.2 = [some (.flst (intsD ns)), some f0, o2, some T, o4, none, none, none, none]) (fun p ρ => ∃ o2 o3 o4, ρ = [some (.flst (intsD ns)), some f0, o2, o3, o4, none, none, none, none] ∧ (1 ≤ p → o3 = some T)) ?_ (fun ρ h => ?_) ⟨none, none, none, rfl, fun h => absurd h (by decide)⟩
      · rintro p ρ hp ⟨o2, o3, o4, rfl, _⟩
        refine ⟨[some (.flst (intsD ns)), some f0, some (.int (p : Nat)), o3, o4, none, none, none, none], by simp, ?_⟩
        obtain ⟨o4', e⟩ := st (some (.int (p : Nat))) o3 o4 none none none none
        exact ⟨_, e, _, _, _, rfl, fun _ => rfl⟩
      · obtain ⟨o2, o3, o4, e, h3⟩ := h
        rw [h3 (by decide)] at e
        exact ⟨rfl, o2, o4, e⟩
    obtain ⟨⟨o, ρ⟩, q1, ho, o2, o4, er⟩ := q1
    have ho : o = .nx := ho
    have er : ρ = _ := er
    subst ho er
    obtain ⟨i, f1, e1, i0, i1, hf1, im1⟩ := RD.draw_eq hf0 (m := 3) (by decide) (by decide)
    obtain ⟨c, C, gc⟩ : ∃ c, ∃ C : Csd c, dSubs TD (.int i) = some c := by
      have : i = 0 ∨ i = 1 ∨ i = 2 := by omega
      rcases this with rfl | rfl | rfl
      · exact ⟨_, cs1, get0⟩
      · exact ⟨_, cs2, get1⟩
      · exact ⟨_, cs3, get2⟩
    have ec := C.eq
    rw [ec] at gc
    have q2 : s2 [some (.flst (intsD ns)), some f0, o2, some TD, o4, none, none, none, none] = some (.nx, [some (.flst (intsD ns)), some f1, o2, some TD, o4, some (webD C.w), some (rowD C.r), some (asksD C.a), some (rowD C.l)]) := by
      have ln : dLen [TD] = some (.int 3) := rfl
      have it := imT
      have iw := imm_rows C.w
      have ir := imm_row C.r
      have il := imm_row C.l
      have ia := imm_asks C.a
      generalize TD = T at *
      simp [s2, ln, it, im0, e1, im1, gc, iw, ir, il, ia]
    obtain ⟨ρ, e⟩ := end_ok C hf1 (some (.flst (intsD ns))) o2 (some TD) o4
    refine ⟨(.bl true, params [1, 2, 3, 4, 5, 6, 7, 8] 1 ρ), ?_, rfl⟩
    show (s [some (.flst (intsD ns)), none, none, none, none, none, none, none, none]).bind _ = _
    unfold s
    rw [sn q0, sn q1, sn q2, e]
    rfl
  obtain ⟨⟨r, o⟩, e, h⟩ := main
  cases h
  exact ⟨o, e⟩
end K72
namespace K72
open PySem PySem.Spec L2 DL
theorem all_mk {l : PySem.W.OpenLaw} {w : World} {K : PySem.W.Frag} {h : Heap} {mg : Str → Option Value} {fa : Addr} (X : K.In h) (G : h.Ns mainGlobals mg) (hfa : mg "law" = some (.ref fa))
    {f0 f1 f2 f3 f4 f5 f6 f7 f8 f9 f10 f11 f12 f13 f14 f15 f16 f17 f18 f19 f20 f21 f22 f23 f24 f25 f26 f27 f28 f29 f30 f31 f32 f33 f34 f35 f36 f37 f38 f39 f40 f41 f42 f43 f44 f45 : Addr}
    {od0 an0 : Option Addr} {sl0 : Array (Option Value)} {oc0 kV0 dc0 pm0 cd0 ct0 : Value}
    {od1 an1 : Option Addr} {sl1 : Array (Option Value)} {oc1 kV1 dc1 pm1 cd1 ct1 : Value}
    {od2 an2 : Option Addr} {sl2 : Array (Option Value)} {oc2 kV2 dc2 pm2 cd2 ct2 : Value}
    {od3 an3 : Option Addr} {sl3 : Array (Option Value)} {oc3 kV3 dc3 pm3 cd3 ct3 : Value}
    {od4 an4 : Option Addr} {sl4 : Array (Option Value)} {oc4 kV4 dc4 pm4 cd4 ct4 : Value}
    {od5 an5 : Option Addr} {sl5 : Array (Option Value)} {oc5 kV5 dc5 pm5 cd5 ct5 : Value}
    {od6 an6 : Option Addr} {sl6 : Array (Option Value)} {oc6 kV6 dc6 pm6 cd6 ct6 : Value}
    {od7 an7 : Option Addr} {sl7 : Array (Option Value)} {oc7 kV7 dc7 pm7 cd7 ct7 : Value}
    {od8 an8 : Option Addr} {sl8 : Array (Option Value)} {oc8 kV8 dc8 pm8 cd8 ct8 : Value}
    {od9 an9 : Option Addr} {sl9 : Array (Option Value)} {oc9 kV9 dc9 pm9 cd9 ct9 : Value}
    {od10 an10 : Option Addr} {sl10 : Array (Option Value)} {oc10 kV10 dc10 pm10 cd10 ct10 : Value}
    {od11 an11 : Option Addr} {sl11 : Array (Option Value)} {oc11 kV11 dc11 pm11 cd11 ct11 : Value}
    {od12 an12 : Option Addr} {sl12 : Array (Option Value)} {oc12 kV12 dc12 pm12 cd12 ct12 : Value}
    {od13 an13 : Option Addr} {sl13 : Array (Option Value)} {oc13 kV13 dc13 pm13 cd13 ct13 : Value}
    {od14 an14 : Option Addr} {sl14 : Array (Option Value)} {oc14 kV14 dc14 pm14 cd14 ct14 : Value}
    {od15 an15 : Option Addr} {sl15 : Array (Option Value)} {oc15 kV15 dc15 pm15 cd15 ct15 : Value}
    {od16 an16 : Option Addr} {sl16 : Array (Option Value)} {oc16 kV16 dc16 pm16 cd16 ct16 : Value}
    {od17 an17 : Option Addr} {sl17 : Array (Option Value)} {oc17 kV17 dc17 pm17 cd17 ct17 : Value}
    {od18 an18 : Option Addr} {sl18 : Array (Option Value)} {oc18 kV18 dc18 pm18 cd18 ct18 : Value}
    {od19 an19 : Option Addr} {sl19 : Array (Option Value)} {oc19 kV19 dc19 pm19 cd19 ct19 : Value}
    {od20 an20 : Option Addr} {sl20 : Array (Option Value)} {oc20 kV20 dc20 pm20 cd20 ct20 : Value}
    {od21 an21 : Option Addr} {sl21 : Array (Option Value)} {oc21 kV21 dc21 pm21 cd21 ct21 : Value}
    {od22 an22 : Option Addr} {sl22 : Array (Option Value)} {oc22 kV22 dc22 pm22 cd22 ct22 : Value}
    {od23 an23 : Option Addr} {sl23 : Array (Option Value)} {oc23 kV23 dc23 pm23 cd23 ct23 : Value}
    {od24 an24 : Option Addr} {sl24 : Array (Option Value)} {oc24 kV24 dc24 pm24 cd24 ct24 : Value}
    {od25 an25 : Option Addr} {sl25 : Array (Option Value)} {oc25 kV25 dc25 pm25 cd25 ct25 : Value}
    {od26 an26 : Option Addr} {sl26 : Array (Option Value)} {oc26 kV26 dc26 pm26 cd26 ct26 : Value}
    {od27 an27 : Option Addr} {sl27 : Array (Option Value)} {oc27 kV27 dc27 pm27 cd27 ct27 : Value}
    {od28 an28 : Option Addr} {sl28 : Array (Option Value)} {oc28 kV28 dc28 pm28 cd28 ct28 : Value}
    {od29 an29 : Option Addr} {sl29 : Array (Option Value)} {oc29 kV29 dc29 pm29 cd29 ct29 : Value}
    {od30 an30 : Option Addr} {sl30 : Array (Option Value)} {oc30 kV30 dc30 pm30 cd30 ct30 : Value}
    {od31 an31 : Option Addr} {sl31 : Array (Option Value)} {oc31 kV31 dc31 pm31 cd31 ct31 : Value}
    {od32 an32 : Option Addr} {sl32 : Array (Option Value)} {oc32 kV32 dc32 pm32 cd32 ct32 : Value}
    {od33 an33 : Option Addr} {sl33 : Array (Option Value)} {oc33 kV33 dc33 pm33 cd33 ct33 : Value}
    {od34 an34 : Option Addr} {sl34 : Array (Option Value)} {oc34 kV34 dc34 pm34 cd34 ct34 : Value}
    {od35 an35 : Option Addr} {sl35 : Array (Option Value)} {oc35 kV35 dc35 pm35 cd35 ct35 : Value}
    {od36 an36 : Option Addr} {sl36 : Array (Option Value)} {oc36 kV36 dc36 pm36 cd36 ct36 : Value}
    {od37 an37 : Option Addr} {sl37 : Array (Option Value)} {oc37 kV37 dc37 pm37 cd37 ct37 : Value}
    {od38 an38 : Option Addr} {sl38 : Array (Option Value)} {oc38 kV38 dc38 pm38 cd38 ct38 : Value}
    {od39 an39 : Option Addr} {sl39 : Array (Option Value)} {oc39 kV39 dc39 pm39 cd39 ct39 : Value}
    {od40 an40 : Option Addr} {sl40 : Array (Option Value)} {oc40 kV40 dc40 pm40 cd40 ct40 : Value}
    {od41 an41 : Option Addr} {sl41 : Array (Option Value)} {oc41 kV41 dc41 pm41 cd41 ct41 : Value}
    {od42 an42 : Option Addr} {sl42 : Array (Option Value)} {oc42 kV42 dc42 pm42 cd42 ct42 : Value}
    {od43 an43 : Option Addr} {sl43 : Array (Option Value)} {oc43 kV43 dc43 pm43 cd43 ct43 : Value}
    {od44 an44 : Option Addr} {sl44 : Array (Option Value)} {oc44 kV44 dc44 pm44 cd44 ct44 : Value}
    {od45 an45 : Option Addr} {sl45 : Array (Option Value)} {oc45 kV45 dc45 pm45 cd45 ct45 : Value}
    (a0 : PySem.W.nsIn K mainGlobals "told_cases" = some (some (.ref f0)))
    (l0 : K.lookup f0 = some ⟨oc0, od0, .func (PySem.W.fnOf "told_cases" "told_cases" (defArgs s_told_cases) (defBody s_told_cases) (defScope s_told_cases) .none kV0 dc0 pm0 an0 cd0 ct0), sl0⟩) (c0 : PySem.W.codeIn K cd0 "told_cases" = true) (k0 : PySem.W.keepIn K (.ref f0) = true)
    (a1 : PySem.W.nsIn K mainGlobals "darts_in_rows" = some (some (.ref f1)))
    (l1 : K.lookup f1 = some ⟨oc1, od1, .func (PySem.W.fnOf "darts_in_rows" "darts_in_rows" (defArgs s_darts_in_rows) (defBody s_darts_in_rows) (defScope s_darts_in_rows) .none kV1 dc1 pm1 an1 cd1 ct1), sl1⟩) (c1 : PySem.W.codeIn K cd1 "darts_in_rows" = true) (k1 : PySem.W.keepIn K (.ref f1) = true)
    (a2 : PySem.W.nsIn K mainGlobals "ties_in" = some (some (.ref f2)))
    (l2 : K.lookup f2 = some ⟨oc2, od2, .func (PySem.W.fnOf "ties_in" "ties_in" (defArgs s_ties_in) (defBody s_ties_in) (defScope s_ties_in) .none kV2 dc2 pm2 an2 cd2 ct2), sl2⟩) (c2 : PySem.W.codeIn K cd2 "ties_in" = true) (k2 : PySem.W.keepIn K (.ref f2) = true)
    (a3 : PySem.W.nsIn K mainGlobals "other_of" = some (some (.ref f3)))
    (l3 : K.lookup f3 = some ⟨oc3, od3, .func (PySem.W.fnOf "other_of" "other_of" (defArgs s_other_of) (defBody s_other_of) (defScope s_other_of) .none kV3 dc3 pm3 an3 cd3 ct3), sl3⟩) (c3 : PySem.W.codeIn K cd3 "other_of" = true) (k3 : PySem.W.keepIn K (.ref f3) = true)
    (a4 : PySem.W.nsIn K mainGlobals "place_of" = some (some (.ref f4)))
    (l4 : K.lookup f4 = some ⟨oc4, od4, .func (PySem.W.fnOf "place_of" "place_of" (defArgs s_place_of) (defBody s_place_of) (defScope s_place_of) .none kV4 dc4 pm4 an4 cd4 ct4), sl4⟩) (c4 : PySem.W.codeIn K cd4 "place_of" = true) (k4 : PySem.W.keepIn K (.ref f4) = true)
    (a5 : PySem.W.nsIn K mainGlobals "ends_of" = some (some (.ref f5)))
    (l5 : K.lookup f5 = some ⟨oc5, od5, .func (PySem.W.fnOf "ends_of" "ends_of" (defArgs s_ends_of) (defBody s_ends_of) (defScope s_ends_of) .none kV5 dc5 pm5 an5 cd5 ct5), sl5⟩) (c5 : PySem.W.codeIn K cd5 "ends_of" = true) (k5 : PySem.W.keepIn K (.ref f5) = true)
    (a6 : PySem.W.nsIn K mainGlobals "next_around" = some (some (.ref f6)))
    (l6 : K.lookup f6 = some ⟨oc6, od6, .func (PySem.W.fnOf "next_around" "next_around" (defArgs s_next_around) (defBody s_next_around) (defScope s_next_around) .none kV6 dc6 pm6 an6 cd6 ct6), sl6⟩) (c6 : PySem.W.codeIn K cd6 "next_around" = true) (k6 : PySem.W.keepIn K (.ref f6) = true)
    (a7 : PySem.W.nsIn K mainGlobals "next_along" = some (some (.ref f7)))
    (l7 : K.lookup f7 = some ⟨oc7, od7, .func (PySem.W.fnOf "next_along" "next_along" (defArgs s_next_along) (defBody s_next_along) (defScope s_next_along) .none kV7 dc7 pm7 an7 cd7 ct7), sl7⟩) (c7 : PySem.W.codeIn K cd7 "next_along" = true) (k7 : PySem.W.keepIn K (.ref f7) = true)
    (a8 : PySem.W.nsIn K mainGlobals "faces" = some (some (.ref f8)))
    (l8 : K.lookup f8 = some ⟨oc8, od8, .func (PySem.W.fnOf "faces" "faces" (defArgs s_faces) (defBody s_faces) (defScope s_faces) .none kV8 dc8 pm8 an8 cd8 ct8), sl8⟩) (c8 : PySem.W.codeIn K cd8 "faces" = true) (k8 : PySem.W.keepIn K (.ref f8) = true)
    (a9 : PySem.W.nsIn K mainGlobals "rim_places" = some (some (.ref f9)))
    (l9 : K.lookup f9 = some ⟨oc9, od9, .func (PySem.W.fnOf "rim_places" "rim_places" (defArgs s_rim_places) (defBody s_rim_places) (defScope s_rim_places) .none kV9 dc9 pm9 an9 cd9 ct9), sl9⟩) (c9 : PySem.W.codeIn K cd9 "rim_places" = true) (k9 : PySem.W.keepIn K (.ref f9) = true)
    (a10 : PySem.W.nsIn K mainGlobals "is_whole" = some (some (.ref f10)))
    (l10 : K.lookup f10 = some ⟨oc10, od10, .func (PySem.W.fnOf "is_whole" "is_whole" (defArgs s_is_whole) (defBody s_is_whole) (defScope s_is_whole) .none kV10 dc10 pm10 an10 cd10 ct10), sl10⟩) (c10 : PySem.W.codeIn K cd10 "is_whole" = true) (k10 : PySem.W.keepIn K (.ref f10) = true)
    (a11 : PySem.W.nsIn K mainGlobals "off_rim" = some (some (.ref f11)))
    (l11 : K.lookup f11 = some ⟨oc11, od11, .func (PySem.W.fnOf "off_rim" "off_rim" (defArgs s_off_rim) (defBody s_off_rim) (defScope s_off_rim) .none kV11 dc11 pm11 an11 cd11 ct11), sl11⟩) (c11 : PySem.W.codeIn K cd11 "off_rim" = true) (k11 : PySem.W.keepIn K (.ref f11) = true)
    (a12 : PySem.W.nsIn K mainGlobals "is_parted" = some (some (.ref f12)))
    (l12 : K.lookup f12 = some ⟨oc12, od12, .func (PySem.W.fnOf "is_parted" "is_parted" (defArgs s_is_parted) (defBody s_is_parted) (defScope s_is_parted) .none kV12 dc12 pm12 an12 cd12 ct12), sl12⟩) (c12 : PySem.W.codeIn K cd12 "is_parted" = true) (k12 : PySem.W.keepIn K (.ref f12) = true)
    (a13 : PySem.W.nsIn K mainGlobals "asks_across" = some (some (.ref f13)))
    (l13 : K.lookup f13 = some ⟨oc13, od13, .func (PySem.W.fnOf "asks_across" "asks_across" (defArgs s_asks_across) (defBody s_asks_across) (defScope s_asks_across) .none kV13 dc13 pm13 an13 cd13 ct13), sl13⟩) (c13 : PySem.W.codeIn K cd13 "asks_across" = true) (k13 : PySem.W.keepIn K (.ref f13) = true)
    (a14 : PySem.W.nsIn K mainGlobals "all_sides" = some (some (.ref f14)))
    (l14 : K.lookup f14 = some ⟨oc14, od14, .func (PySem.W.fnOf "all_sides" "all_sides" (defArgs s_all_sides) (defBody s_all_sides) (defScope s_all_sides) .none kV14 dc14 pm14 an14 cd14 ct14), sl14⟩) (c14 : PySem.W.codeIn K cd14 "all_sides" = true) (k14 : PySem.W.keepIn K (.ref f14) = true)
    (a15 : PySem.W.nsIn K mainGlobals "rows_of_spares" = some (some (.ref f15)))
    (l15 : K.lookup f15 = some ⟨oc15, od15, .func (PySem.W.fnOf "rows_of_spares" "rows_of_spares" (defArgs s_rows_of_spares) (defBody s_rows_of_spares) (defScope s_rows_of_spares) .none kV15 dc15 pm15 an15 cd15 ct15), sl15⟩) (c15 : PySem.W.codeIn K cd15 "rows_of_spares" = true) (k15 : PySem.W.keepIn K (.ref f15) = true)
    (a16 : PySem.W.nsIn K mainGlobals "least_spare" = some (some (.ref f16)))
    (l16 : K.lookup f16 = some ⟨oc16, od16, .func (PySem.W.fnOf "least_spare" "least_spare" (defArgs s_least_spare) (defBody s_least_spare) (defScope s_least_spare) .none kV16 dc16 pm16 an16 cd16 ct16), sl16⟩) (c16 : PySem.W.codeIn K cd16 "least_spare" = true) (k16 : PySem.W.keepIn K (.ref f16) = true)
    (a17 : PySem.W.nsIn K mainGlobals "odd_places" = some (some (.ref f17)))
    (l17 : K.lookup f17 = some ⟨oc17, od17, .func (PySem.W.fnOf "odd_places" "odd_places" (defArgs s_odd_places) (defBody s_odd_places) (defScope s_odd_places) .none kV17 dc17 pm17 an17 cd17 ct17), sl17⟩) (c17 : PySem.W.codeIn K cd17 "odd_places" = true) (k17 : PySem.W.keepIn K (.ref f17) = true)
    (a18 : PySem.W.nsIn K mainGlobals "ends_of_ties" = some (some (.ref f18)))
    (l18 : K.lookup f18 = some ⟨oc18, od18, .func (PySem.W.fnOf "ends_of_ties" "ends_of_ties" (defArgs s_ends_of_ties) (defBody s_ends_of_ties) (defScope s_ends_of_ties) .none kV18 dc18 pm18 an18 cd18 ct18), sl18⟩) (c18 : PySem.W.codeIn K cd18 "ends_of_ties" = true) (k18 : PySem.W.keepIn K (.ref f18) = true)
    (a19 : PySem.W.nsIn K mainGlobals "far_by_ends" = some (some (.ref f19)))
    (l19 : K.lookup f19 = some ⟨oc19, od19, .func (PySem.W.fnOf "far_by_ends" "far_by_ends" (defArgs s_far_by_ends) (defBody s_far_by_ends) (defScope s_far_by_ends) .none kV19 dc19 pm19 an19 cd19 ct19), sl19⟩) (c19 : PySem.W.codeIn K cd19 "far_by_ends" = true) (k19 : PySem.W.keepIn K (.ref f19) = true)
    (a20 : PySem.W.nsIn K mainGlobals "distances" = some (some (.ref f20)))
    (l20 : K.lookup f20 = some ⟨oc20, od20, .func (PySem.W.fnOf "distances" "distances" (defArgs s_distances) (defBody s_distances) (defScope s_distances) .none kV20 dc20 pm20 an20 cd20 ct20), sl20⟩) (c20 : PySem.W.codeIn K cd20 "distances" = true) (k20 : PySem.W.keepIn K (.ref f20) = true)
    (a21 : PySem.W.nsIn K mainGlobals "are_numbers" = some (some (.ref f21)))
    (l21 : K.lookup f21 = some ⟨oc21, od21, .func (PySem.W.fnOf "are_numbers" "are_numbers" (defArgs s_are_numbers) (defBody s_are_numbers) (defScope s_are_numbers) .none kV21 dc21 pm21 an21 cd21 ct21), sl21⟩) (c21 : PySem.W.codeIn K cd21 "are_numbers" = true) (k21 : PySem.W.keepIn K (.ref f21) = true)
    (a22 : PySem.W.nsIn K mainGlobals "is_lengths_paper" = some (some (.ref f22)))
    (l22 : K.lookup f22 = some ⟨oc22, od22, .func (PySem.W.fnOf "is_lengths_paper" "is_lengths_paper" (defArgs s_is_lengths_paper) (defBody s_is_lengths_paper) (defScope s_is_lengths_paper) .none kV22 dc22 pm22 an22 cd22 ct22), sl22⟩) (c22 : PySem.W.codeIn K cd22 "is_lengths_paper" = true) (k22 : PySem.W.keepIn K (.ref f22) = true)
    (a23 : PySem.W.nsIn K mainGlobals "is_steep" = some (some (.ref f23)))
    (l23 : K.lookup f23 = some ⟨oc23, od23, .func (PySem.W.fnOf "is_steep" "is_steep" (defArgs s_is_steep) (defBody s_is_steep) (defScope s_is_steep) .none kV23 dc23 pm23 an23 cd23 ct23), sl23⟩) (c23 : PySem.W.codeIn K cd23 "is_steep" = true) (k23 : PySem.W.keepIn K (.ref f23) = true)
    (a24 : PySem.W.nsIn K mainGlobals "lets_lengths" = some (some (.ref f24)))
    (l24 : K.lookup f24 = some ⟨oc24, od24, .func (PySem.W.fnOf "lets_lengths" "lets_lengths" (defArgs s_lets_lengths) (defBody s_lets_lengths) (defScope s_lets_lengths) .none kV24 dc24 pm24 an24 cd24 ct24), sl24⟩) (c24 : PySem.W.codeIn K cd24 "lets_lengths" = true) (k24 : PySem.W.keepIn K (.ref f24) = true)
    (a25 : PySem.W.nsIn K mainGlobals "lengths_paper" = some (some (.ref f25)))
    (l25 : K.lookup f25 = some ⟨oc25, od25, .func (PySem.W.fnOf "lengths_paper" "lengths_paper" (defArgs s_lengths_paper) (defBody s_lengths_paper) (defScope s_lengths_paper) .none kV25 dc25 pm25 an25 cd25 ct25), sl25⟩) (c25 : PySem.W.codeIn K cd25 "lengths_paper" = true) (k25 : PySem.W.keepIn K (.ref f25) = true)
    (a26 : PySem.W.nsIn K mainGlobals "_law_tape" = some (some (.ref f26)))
    (l26 : K.lookup f26 = some ⟨oc26, od26, .func (PySem.W.fnOf "_law_tape" "_law_tape" (defArgs s__law_tape) (defBody s__law_tape) (defScope s__law_tape) .none kV26 dc26 pm26 an26 cd26 ct26), sl26⟩) (c26 : PySem.W.codeIn K cd26 "_law_tape" = true) (k26 : PySem.W.keepIn K (.ref f26) = true)
    (a27 : PySem.W.nsIn K mainGlobals "_law_draw" = some (some (.ref f27)))
    (l27 : K.lookup f27 = some ⟨oc27, od27, .func (PySem.W.fnOf "_law_draw" "_law_draw" (defArgs s__law_draw) (defBody s__law_draw) (defScope s__law_draw) .none kV27 dc27 pm27 an27 cd27 ct27), sl27⟩) (c27 : PySem.W.codeIn K cd27 "_law_draw" = true) (k27 : PySem.W.keepIn K (.ref f27) = true)
    (a28 : PySem.W.nsIn K mainGlobals "_law_other" = some (some (.ref f28)))
    (l28 : K.lookup f28 = some ⟨oc28, od28, .func (PySem.W.fnOf "_law_other" "_law_other" (defArgs s__law_other) (defBody s__law_other) (defScope s__law_other) .none kV28 dc28 pm28 an28 cd28 ct28), sl28⟩) (c28 : PySem.W.codeIn K cd28 "_law_other" = true) (k28 : PySem.W.keepIn K (.ref f28) = true)
    (a29 : PySem.W.nsIn K mainGlobals "_law_spots" = some (some (.ref f29)))
    (l29 : K.lookup f29 = some ⟨oc29, od29, .func (PySem.W.fnOf "_law_spots" "_law_spots" (defArgs s__law_spots) (defBody s__law_spots) (defScope s__law_spots) .none kV29 dc29 pm29 an29 cd29 ct29), sl29⟩) (c29 : PySem.W.codeIn K cd29 "_law_spots" = true) (k29 : PySem.W.keepIn K (.ref f29) = true)
    (a30 : PySem.W.nsIn K mainGlobals "_law_along" = some (some (.ref f30)))
    (l30 : K.lookup f30 = some ⟨oc30, od30, .func (PySem.W.fnOf "_law_along" "_law_along" (defArgs s__law_along) (defBody s__law_along) (defScope s__law_along) .none kV30 dc30 pm30 an30 cd30 ct30), sl30⟩) (c30 : PySem.W.codeIn K cd30 "_law_along" = true) (k30 : PySem.W.keepIn K (.ref f30) = true)
    (a31 : PySem.W.nsIn K mainGlobals "_law_ties" = some (some (.ref f31)))
    (l31 : K.lookup f31 = some ⟨oc31, od31, .func (PySem.W.fnOf "_law_ties" "_law_ties" (defArgs s__law_ties) (defBody s__law_ties) (defScope s__law_ties) .none kV31 dc31 pm31 an31 cd31 ct31), sl31⟩) (c31 : PySem.W.codeIn K cd31 "_law_ties" = true) (k31 : PySem.W.keepIn K (.ref f31) = true)
    (a32 : PySem.W.nsIn K mainGlobals "_law_ends" = some (some (.ref f32)))
    (l32 : K.lookup f32 = some ⟨oc32, od32, .func (PySem.W.fnOf "_law_ends" "_law_ends" (defArgs s__law_ends) (defBody s__law_ends) (defScope s__law_ends) .none kV32 dc32 pm32 an32 cd32 ct32), sl32⟩) (c32 : PySem.W.codeIn K cd32 "_law_ends" = true) (k32 : PySem.W.keepIn K (.ref f32) = true)
    (a33 : PySem.W.nsIn K mainGlobals "_law_faces" = some (some (.ref f33)))
    (l33 : K.lookup f33 = some ⟨oc33, od33, .func (PySem.W.fnOf "_law_faces" "_law_faces" (defArgs s__law_faces) (defBody s__law_faces) (defScope s__law_faces) .none kV33 dc33 pm33 an33 cd33 ct33), sl33⟩) (c33 : PySem.W.codeIn K cd33 "_law_faces" = true) (k33 : PySem.W.keepIn K (.ref f33) = true)
    (a34 : PySem.W.nsIn K mainGlobals "_law_parts" = some (some (.ref f34)))
    (l34 : K.lookup f34 = some ⟨oc34, od34, .func (PySem.W.fnOf "_law_parts" "_law_parts" (defArgs s__law_parts) (defBody s__law_parts) (defScope s__law_parts) .none kV34 dc34 pm34 an34 cd34 ct34), sl34⟩) (c34 : PySem.W.codeIn K cd34 "_law_parts" = true) (k34 : PySem.W.keepIn K (.ref f34) = true)
    (a35 : PySem.W.nsIn K mainGlobals "_law_room" = some (some (.ref f35)))
    (l35 : K.lookup f35 = some ⟨oc35, od35, .func (PySem.W.fnOf "_law_room" "_law_room" (defArgs s__law_room) (defBody s__law_room) (defScope s__law_room) .none kV35 dc35 pm35 an35 cd35 ct35), sl35⟩) (c35 : PySem.W.codeIn K cd35 "_law_room" = true) (k35 : PySem.W.keepIn K (.ref f35) = true)
    (a36 : PySem.W.nsIn K mainGlobals "_law_spare" = some (some (.ref f36)))
    (l36 : K.lookup f36 = some ⟨oc36, od36, .func (PySem.W.fnOf "_law_spare" "_law_spare" (defArgs s__law_spare) (defBody s__law_spare) (defScope s__law_spare) .none kV36 dc36 pm36 an36 cd36 ct36), sl36⟩) (c36 : PySem.W.codeIn K cd36 "_law_spare" = true) (k36 : PySem.W.keepIn K (.ref f36) = true)
    (a37 : PySem.W.nsIn K mainGlobals "_law_sides" = some (some (.ref f37)))
    (l37 : K.lookup f37 = some ⟨oc37, od37, .func (PySem.W.fnOf "_law_sides" "_law_sides" (defArgs s__law_sides) (defBody s__law_sides) (defScope s__law_sides) .none kV37 dc37 pm37 an37 cd37 ct37), sl37⟩) (c37 : PySem.W.codeIn K cd37 "_law_sides" = true) (k37 : PySem.W.keepIn K (.ref f37) = true)
    (a38 : PySem.W.nsIn K mainGlobals "_law_far" = some (some (.ref f38)))
    (l38 : K.lookup f38 = some ⟨oc38, od38, .func (PySem.W.fnOf "_law_far" "_law_far" (defArgs s__law_far) (defBody s__law_far) (defScope s__law_far) .none kV38 dc38 pm38 an38 cd38 ct38), sl38⟩) (c38 : PySem.W.codeIn K cd38 "_law_far" = true) (k38 : PySem.W.keepIn K (.ref f38) = true)
    (a39 : PySem.W.nsIn K mainGlobals "_law_is_whole" = some (some (.ref f39)))
    (l39 : K.lookup f39 = some ⟨oc39, od39, .func (PySem.W.fnOf "_law_is_whole" "_law_is_whole" (defArgs s__law_is_whole) (defBody s__law_is_whole) (defScope s__law_is_whole) .none kV39 dc39 pm39 an39 cd39 ct39), sl39⟩) (c39 : PySem.W.codeIn K cd39 "_law_is_whole" = true) (k39 : PySem.W.keepIn K (.ref f39) = true)
    (a40 : PySem.W.nsIn K mainGlobals "_law_is_whole_piece" = some (some (.ref f40)))
    (l40 : K.lookup f40 = some ⟨oc40, od40, .func (PySem.W.fnOf "_law_is_whole_piece" "_law_is_whole_piece" (defArgs s__law_is_whole_piece) (defBody s__law_is_whole_piece) (defScope s__law_is_whole_piece) .none kV40 dc40 pm40 an40 cd40 ct40), sl40⟩) (c40 : PySem.W.codeIn K cd40 "_law_is_whole_piece" = true) (k40 : PySem.W.keepIn K (.ref f40) = true)
    (a41 : PySem.W.nsIn K mainGlobals "_law_is_web" = some (some (.ref f41)))
    (l41 : K.lookup f41 = some ⟨oc41, od41, .func (PySem.W.fnOf "_law_is_web" "_law_is_web" (defArgs s__law_is_web) (defBody s__law_is_web) (defScope s__law_is_web) .none kV41 dc41 pm41 an41 cd41 ct41), sl41⟩) (c41 : PySem.W.codeIn K cd41 "_law_is_web" = true) (k41 : PySem.W.keepIn K (.ref f41) = true)
    (a42 : PySem.W.nsIn K mainGlobals "_law_are_numbers" = some (some (.ref f42)))
    (l42 : K.lookup f42 = some ⟨oc42, od42, .func (PySem.W.fnOf "_law_are_numbers" "_law_are_numbers" (defArgs s__law_are_numbers) (defBody s__law_are_numbers) (defScope s__law_are_numbers) .none kV42 dc42 pm42 an42 cd42 ct42), sl42⟩) (c42 : PySem.W.codeIn K cd42 "_law_are_numbers" = true) (k42 : PySem.W.keepIn K (.ref f42) = true)
    (a43 : PySem.W.nsIn K mainGlobals "_law_are_asks" = some (some (.ref f43)))
    (l43 : K.lookup f43 = some ⟨oc43, od43, .func (PySem.W.fnOf "_law_are_asks" "_law_are_asks" (defArgs s__law_are_asks) (defBody s__law_are_asks) (defScope s__law_are_asks) .none kV43 dc43 pm43 an43 cd43 ct43), sl43⟩) (c43 : PySem.W.codeIn K cd43 "_law_are_asks" = true) (k43 : PySem.W.keepIn K (.ref f43) = true)
    (a44 : PySem.W.nsIn K mainGlobals "_law_is_case" = some (some (.ref f44)))
    (l44 : K.lookup f44 = some ⟨oc44, od44, .func (PySem.W.fnOf "_law_is_case" "_law_is_case" (defArgs s__law_is_case) (defBody s__law_is_case) (defScope s__law_is_case) .none kV44 dc44 pm44 an44 cd44 ct44), sl44⟩) (c44 : PySem.W.codeIn K cd44 "_law_is_case" = true) (k44 : PySem.W.keepIn K (.ref f44) = true)
    (a45 : PySem.W.nsIn K mainGlobals "law" = some (some (.ref f45)))
    (l45 : K.lookup f45 = some ⟨oc45, od45, .func (PySem.W.fnOf "law" "law" (defArgs s_law) (defBody s_law) (defScope s_law) .none kV45 dc45 pm45 an45 cd45 ct45), sl45⟩) (c45 : PySem.W.codeIn K cd45 "law" = true) (k45 : PySem.W.keepIn K (.ref f45) = true)
    {tk_MOST_LENGTH : Tok} (y_MOST_LENGTH : PySem.W.nsIn K mainGlobals "MOST_LENGTH" = some (some (.int 400 tk_MOST_LENGTH)))
    {tk_MOST_PLACES : Tok} (y_MOST_PLACES : PySem.W.nsIn K mainGlobals "MOST_PLACES" = some (some (.int 8 tk_MOST_PLACES)))
    (z_abs : PySem.W.nsIn K mainGlobals "abs" = some none)
    (z_all : PySem.W.nsIn K mainGlobals "all" = some none)
    (z_bool : PySem.W.nsIn K mainGlobals "bool" = some none)
    (z_enumerate : PySem.W.nsIn K mainGlobals "enumerate" = some none)
    (z_int : PySem.W.nsIn K mainGlobals "int" = some none)
    (z_isinstance : PySem.W.nsIn K mainGlobals "isinstance" = some none)
    (z_len : PySem.W.nsIn K mainGlobals "len" = some none)
    (z_list : PySem.W.nsIn K mainGlobals "list" = some none)
    (z_min : PySem.W.nsIn K mainGlobals "min" = some none)
    (z_range : PySem.W.nsIn K mainGlobals "range" = some none)
    (z_set : PySem.W.nsIn K mainGlobals "set" = some none)
    (z_sorted : PySem.W.nsIn K mainGlobals "sorted" = some none)
    (z_sum : PySem.W.nsIn K mainGlobals "sum" = some none)
    (z_tuple : PySem.W.nsIn K mainGlobals "tuple" = some none)
    (z_zip : PySem.W.nsIn K mainGlobals "zip" = some none)
    : ∃ fd : FuncData, (∀ (s : Shared) (v : Value), BindsTo s fd ⟨[v], []⟩ [("_law_script", v)]) ∧ ∀ base : Heap, K.In base → base.Ns mainGlobals mg → FnD l.prog w K mg base 7 fa fd ["_law_script"] d_law := by
  have e := hfa.symm.trans (PySem.W.mg_of X G a45)
  cases e
  have T : Txt mg := ⟨PySem.W.mg_none_of X G z_abs, PySem.W.mg_none_of X G z_all, PySem.W.mg_none_of X G z_bool, PySem.W.mg_none_of X G z_enumerate, PySem.W.mg_none_of X G z_int, PySem.W.mg_none_of X G z_isinstance, PySem.W.mg_none_of X G z_len, PySem.W.mg_none_of X G z_list, PySem.W.mg_none_of X G z_min, PySem.W.mg_none_of X G z_range, PySem.W.mg_none_of X G z_set, PySem.W.mg_none_of X G z_sorted, PySem.W.mg_none_of X G z_sum, PySem.W.mg_none_of X G z_tuple, PySem.W.mg_none_of X G z_zip, ⟨_, PySem.W.mg_of X G y_MOST_LENGTH⟩, ⟨_, PySem.W.mg_of X G y_MOST_PLACES⟩⟩
  have G0 : ∀ base, DefOk l.prog w K mg base "told_cases" 1 p_told_cases d_told_cases := fun base => ok_told_cases (fun_mk (st := s_told_cases) l0 c0 k0) (PySem.W.mg_of X G a0) T 
  have G1 : ∀ base, DefOk l.prog w K mg base "darts_in_rows" 1 p_darts_in_rows d_darts_in_rows := fun base => ok_darts_in_rows (fun_mk (st := s_darts_in_rows) l1 c1 k1) (PySem.W.mg_of X G a1) T 
  have G2 : ∀ base, DefOk l.prog w K mg base "ties_in" 2 p_ties_in d_ties_in := fun base => ok_ties_in (fun_mk (st := s_ties_in) l2 c2 k2) (PySem.W.mg_of X G a2) T (G1 base)
  have G3 : ∀ base, DefOk l.prog w K mg base "other_of" 1 p_other_of d_other_of := fun base => ok_other_of (fun_mk (st := s_other_of) l3 c3 k3) (PySem.W.mg_of X G a3) T 
  have G4 : ∀ base, DefOk l.prog w K mg base "place_of" 1 p_place_of d_place_of := fun base => ok_place_of (fun_mk (st := s_place_of) l4 c4 k4) (PySem.W.mg_of X G a4) T 
  have G5 : ∀ base, DefOk l.prog w K mg base "ends_of" 2 p_ends_of d_ends_of := fun base => ok_ends_of (fun_mk (st := s_ends_of) l5 c5 k5) (PySem.W.mg_of X G a5) T (G4 base)
  have G6 : ∀ base, DefOk l.prog w K mg base "next_around" 2 p_next_around d_next_around := fun base => ok_next_around (fun_mk (st := s_next_around) l6 c6 k6) (PySem.W.mg_of X G a6) T (G4 base)
  have G7 : ∀ base, DefOk l.prog w K mg base "next_along" 3 p_next_along d_next_along := fun base => ok_next_along (fun_mk (st := s_next_along) l7 c7 k7) (PySem.W.mg_of X G a7) T (G6 base) (G3 base)
  have G8 : ∀ base, DefOk l.prog w K mg base "faces" 4 p_faces d_faces := fun base => ok_faces (fun_mk (st := s_faces) l8 c8 k8) (PySem.W.mg_of X G a8) T (G2 base) (G7 base)
  have G9 : ∀ base, DefOk l.prog w K mg base "rim_places" 5 p_rim_places d_rim_places := fun base => ok_rim_places (fun_mk (st := s_rim_places) l9 c9 k9) (PySem.W.mg_of X G a9) T (G8 base) (G4 base)
  have G10 : ∀ base, DefOk l.prog w K mg base "is_whole" 1 p_is_whole d_is_whole := fun base => ok_is_whole (fun_mk (st := s_is_whole) l10 c10 k10) (PySem.W.mg_of X G a10) T 
  have G11 : ∀ base, DefOk l.prog w K mg base "off_rim" 6 p_off_rim d_off_rim := fun base => ok_off_rim (fun_mk (st := s_off_rim) l11 c11 k11) (PySem.W.mg_of X G a11) T (G9 base)
  have G12 : ∀ base, DefOk l.prog w K mg base "is_parted" 1 p_is_parted d_is_parted := fun base => ok_is_parted (fun_mk (st := s_is_parted) l12 c12 k12) (PySem.W.mg_of X G a12) T 
  have G13 : ∀ base, DefOk l.prog w K mg base "asks_across" 2 p_asks_across d_asks_across := fun base => ok_asks_across (fun_mk (st := s_asks_across) l13 c13 k13) (PySem.W.mg_of X G a13) T (G12 base)
  have G14 : ∀ base, DefOk l.prog w K mg base "all_sides" 1 p_all_sides d_all_sides := fun base => ok_all_sides (fun_mk (st := s_all_sides) l14 c14 k14) (PySem.W.mg_of X G a14) T 
  have G15 : ∀ base, DefOk l.prog w K mg base "rows_of_spares" 3 p_rows_of_spares d_rows_of_spares := fun base => ok_rows_of_spares (fun_mk (st := s_rows_of_spares) l15 c15 k15) (PySem.W.mg_of X G a15) T (G14 base) (G13 base) (G12 base) (G2 base) (G5 base)
  have G16 : ∀ base, DefOk l.prog w K mg base "least_spare" 4 p_least_spare d_least_spare := fun base => ok_least_spare (fun_mk (st := s_least_spare) l16 c16 k16) (PySem.W.mg_of X G a16) T (G15 base)
  have G17 : ∀ base, DefOk l.prog w K mg base "odd_places" 3 p_odd_places d_odd_places := fun base => ok_odd_places (fun_mk (st := s_odd_places) l17 c17 k17) (PySem.W.mg_of X G a17) T (G2 base) (G5 base)
  have G18 : ∀ base, DefOk l.prog w K mg base "ends_of_ties" 3 p_ends_of_ties d_ends_of_ties := fun base => ok_ends_of_ties (fun_mk (st := s_ends_of_ties) l18 c18 k18) (PySem.W.mg_of X G a18) T (G2 base) (G5 base)
  have G19 : ∀ base, DefOk l.prog w K mg base "far_by_ends" 1 p_far_by_ends d_far_by_ends := fun base => ok_far_by_ends (fun_mk (st := s_far_by_ends) l19 c19 k19) (PySem.W.mg_of X G a19) T 
  have G20 : ∀ base, DefOk l.prog w K mg base "distances" 4 p_distances d_distances := fun base => ok_distances (fun_mk (st := s_distances) l20 c20 k20) (PySem.W.mg_of X G a20) T (G19 base) (G18 base)
  have G21 : ∀ base, DefOk l.prog w K mg base "are_numbers" 2 p_are_numbers d_are_numbers := fun base => ok_are_numbers (fun_mk (st := s_are_numbers) l21 c21 k21) (PySem.W.mg_of X G a21) T (G10 base)
  have G22 : ∀ base, DefOk l.prog w K mg base "is_lengths_paper" 3 p_is_lengths_paper d_is_lengths_paper := fun base => ok_is_lengths_paper (fun_mk (st := s_is_lengths_paper) l22 c22 k22) (PySem.W.mg_of X G a22) T (G21 base) (G2 base)
  have G23 : ∀ base, DefOk l.prog w K mg base "is_steep" 3 p_is_steep d_is_steep := fun base => ok_is_steep (fun_mk (st := s_is_steep) l23 c23 k23) (PySem.W.mg_of X G a23) T (G5 base)
  have G24 : ∀ base, DefOk l.prog w K mg base "lets_lengths" 4 p_lets_lengths d_lets_lengths := fun base => ok_lets_lengths (fun_mk (st := s_lets_lengths) l24 c24 k24) (PySem.W.mg_of X G a24) T (G23 base) (G22 base)
  have G25 : ∀ base, DefOk l.prog w K mg base "lengths_paper" 5 p_lengths_paper d_lengths_paper := fun base => ok_lengths_paper (fun_mk (st := s_lengths_paper) l25 c25 k25) (PySem.W.mg_of X G a25) T (G20 base)
  have G26 : ∀ base, DefOk l.prog w K mg base "_law_tape" 1 p__law_tape d__law_tape := fun base => ok__law_tape (fun_mk (st := s__law_tape) l26 c26 k26) (PySem.W.mg_of X G a26) T 
  have G27 : ∀ base, DefOk l.prog w K mg base "_law_draw" 1 p__law_draw d__law_draw := fun base => ok__law_draw (fun_mk (st := s__law_draw) l27 c27 k27) (PySem.W.mg_of X G a27) T 
  have G28 : ∀ base, DefOk l.prog w K mg base "_law_other" 1 p__law_other d__law_other := fun base => ok__law_other (fun_mk (st := s__law_other) l28 c28 k28) (PySem.W.mg_of X G a28) T 
  have G29 : ∀ base, DefOk l.prog w K mg base "_law_spots" 1 p__law_spots d__law_spots := fun base => ok__law_spots (fun_mk (st := s__law_spots) l29 c29 k29) (PySem.W.mg_of X G a29) T 
  have G30 : ∀ base, DefOk l.prog w K mg base "_law_along" 2 p__law_along d__law_along := fun base => ok__law_along (fun_mk (st := s__law_along) l30 c30 k30) (PySem.W.mg_of X G a30) T (G28 base)
  have G31 : ∀ base, DefOk l.prog w K mg base "_law_ties" 1 p__law_ties d__law_ties := fun base => ok__law_ties (fun_mk (st := s__law_ties) l31 c31 k31) (PySem.W.mg_of X G a31) T 
  have G32 : ∀ base, DefOk l.prog w K mg base "_law_ends" 2 p__law_ends d__law_ends := fun base => ok__law_ends (fun_mk (st := s__law_ends) l32 c32 k32) (PySem.W.mg_of X G a32) T (G31 base) (G29 base)
  have G33 : ∀ base, DefOk l.prog w K mg base "_law_faces" 3 p__law_faces d__law_faces := fun base => ok__law_faces (fun_mk (st := s__law_faces) l33 c33 k33) (PySem.W.mg_of X G a33) T (G31 base) (G30 base)
  have G34 : ∀ base, DefOk l.prog w K mg base "_law_parts" 1 p__law_parts d__law_parts := fun base => ok__law_parts (fun_mk (st := s__law_parts) l34 c34 k34) (PySem.W.mg_of X G a34) T 
  have G35 : ∀ base, DefOk l.prog w K mg base "_law_room" 3 p__law_room d__law_room := fun base => ok__law_room (fun_mk (st := s__law_room) l35 c35 k35) (PySem.W.mg_of X G a35) T (G32 base) (G34 base)
  have G36 : ∀ base, DefOk l.prog w K mg base "_law_spare" 4 p__law_spare d__law_spare := fun base => ok__law_spare (fun_mk (st := s__law_spare) l36 c36 k36) (PySem.W.mg_of X G a36) T (G35 base) (G34 base)
  have G37 : ∀ base, DefOk l.prog w K mg base "_law_sides" 1 p__law_sides d__law_sides := fun base => ok__law_sides (fun_mk (st := s__law_sides) l37 c37 k37) (PySem.W.mg_of X G a37) T 
  have G38 : ∀ base, DefOk l.prog w K mg base "_law_far" 3 p__law_far d__law_far := fun base => ok__law_far (fun_mk (st := s__law_far) l38 c38 k38) (PySem.W.mg_of X G a38) T (G32 base)
  have G39 : ∀ base, DefOk l.prog w K mg base "_law_is_whole" 1 p__law_is_whole d__law_is_whole := fun base => ok__law_is_whole (fun_mk (st := s__law_is_whole) l39 c39 k39) (PySem.W.mg_of X G a39) T 
  have G40 : ∀ base, DefOk l.prog w K mg base "_law_is_whole_piece" 2 p__law_is_whole_piece d__law_is_whole_piece := fun base => ok__law_is_whole_piece (fun_mk (st := s__law_is_whole_piece) l40 c40 k40) (PySem.W.mg_of X G a40) T (G28 base) (G29 base)
  have G41 : ∀ base, DefOk l.prog w K mg base "_law_is_web" 4 p__law_is_web d__law_is_web := fun base => ok__law_is_web (fun_mk (st := s__law_is_web) l41 c41 k41) (PySem.W.mg_of X G a41) T (G33 base) (G40 base) (G39 base)
  have G42 : ∀ base, DefOk l.prog w K mg base "_law_are_numbers" 2 p__law_are_numbers d__law_are_numbers := fun base => ok__law_are_numbers (fun_mk (st := s__law_are_numbers) l42 c42 k42) (PySem.W.mg_of X G a42) T (G39 base)
  have G43 : ∀ base, DefOk l.prog w K mg base "_law_are_asks" 2 p__law_are_asks d__law_are_asks := fun base => ok__law_are_asks (fun_mk (st := s__law_are_asks) l43 c43 k43) (PySem.W.mg_of X G a43) T (G39 base)
  have G44 : ∀ base, DefOk l.prog w K mg base "_law_is_case" 5 p__law_is_case d__law_is_case := fun base => ok__law_is_case (fun_mk (st := s__law_is_case) l44 c44 k44) (PySem.W.mg_of X G a44) T (G38 base) (G37 base) (G36 base) (G43 base) (G42 base) (G31 base) (G41 base)
  exact ⟨_, fun s v => .of_eq (by rfl), fun base _ _ => fn_law (fun_mk (st := s_law) l45 c45 k45) T (G11 base) (G27 base) (G33 base) (G16 base) (G17 base) (G24 base) (G25 base) (G44 base) (G0 base) (G26 base)⟩
end K72
open PySem PySem.W PyProof.Rows
set_option maxRecDepth 100000 in
set_option maxHeartbeats 0 in
theorem PySem.Challenge.cw_rimasks_k72_cases_told_holds : PySem.Challenge.rw_rimasks_k72_cases_told.Holds := by
  w_on; o_law; k_head; (case hw => w_witness2)
  k_fill
  refine DL.law_end (l := PySem.Challenge.rw_rimasks_k72_cases_told) (n := 63) (k := 7) (x := "_law_script") (den := K72.d_law) ⟨rfl, by decide, rfl, ⟨rfl, by decide, by decide⟩, ?F, K72.law_true⟩ fun w h Y => PySem.W.kIn_of Y
  case F =>
    intro w mg fa h KX G hmg
    refine' K72.all_mk KX G hmg ?a0 ?l0 ?c0 ?k0 ?a1 ?l1 ?c1 ?k1 ?a2 ?l2 ?c2 ?k2 ?a3 ?l3 ?c3 ?k3 ?a4 ?l4 ?c4 ?k4 ?a5 ?l5 ?c5 ?k5 ?a6 ?l6 ?c6 ?k6 ?a7 ?l7 ?c7 ?k7 ?a8 ?l8 ?c8 ?k8 ?a9 ?l9 ?c9 ?k9 ?a10 ?l10 ?c10 ?k10 ?a11 ?l11 ?c11 ?k11 ?a12 ?l12 ?c12 ?k12 ?a13 ?l13 ?c13 ?k13 ?a14 ?l14 ?c14 ?k14 ?a15 ?l15 ?c15 ?k15 ?a16 ?l16 ?c16 ?k16 ?a17 ?l17 ?c17 ?k17 ?a18 ?l18 ?c18 ?k18 ?a19 ?l19 ?c19 ?k19 ?a20 ?l20 ?c20 ?k20 ?a21 ?l21 ?c21 ?k21 ?a22 ?l22 ?c22 ?k22 ?a23 ?l23 ?c23 ?k23 ?a24 ?l24 ?c24 ?k24 ?a25 ?l25 ?c25 ?k25 ?a26 ?l26 ?c26 ?k26 ?a27 ?l27 ?c27 ?k27 ?a28 ?l28 ?c28 ?k28 ?a29 ?l29 ?c29 ?k29 ?a30 ?l30 ?c30 ?k30 ?a31 ?l31 ?c31 ?k31 ?a32 ?l32 ?c32 ?k32 ?a33 ?l33 ?c33 ?k33 ?a34 ?l34 ?c34 ?k34 ?a35 ?l35 ?c35 ?k35 ?a36 ?l36 ?c36 ?k36 ?a37 ?l37 ?c37 ?k37 ?a38 ?l38 ?c38 ?k38 ?a39 ?l39 ?c39 ?k39 ?a40 ?l40 ?c40 ?k40 ?a41 ?l41 ?c41 ?k41 ?a42 ?l42 ?c42 ?k42 ?a43 ?l43 ?c43 ?k43 ?a44 ?l44 ?c44 ?k44 ?a45 ?l45 ?c45 ?k45 ?y_MOST_LENGTH ?y_MOST_PLACES ?z_abs ?z_all ?z_bool ?z_enumerate ?z_int ?z_isinstance ?z_len ?z_list ?z_min ?z_range ?z_set ?z_sorted ?z_sum ?z_tuple ?z_zip
    (case a0 => k_is)
    (case l0 => k_is)
    (case c0 => k_is)
    (case k0 => k_is)
    (case a1 => k_is)
    (case l1 => k_is)
    (case c1 => k_is)
    (case k1 => k_is)
    (case a2 => k_is)
    (case l2 => k_is)
    (case c2 => k_is)
    (case k2 => k_is)
    (case a3 => k_is)
    (case l3 => k_is)
    (case c3 => k_is)
    (case k3 => k_is)
    (case a4 => k_is)
    (case l4 => k_is)
    (case c4 => k_is)
    (case k4 => k_is)
    (case a5 => k_is)
    (case l5 => k_is)
    (case c5 => k_is)
    (case k5 => k_is)
    (case a6 => k_is)
    (case l6 => k_is)
    (case c6 => k_is)
    (case k6 => k_is)
    (case a7 => k_is)
    (case l7 => k_is)
    (case c7 => k_is)
    (case k7 => k_is)
    (case a8 => k_is)
    (case l8 => k_is)
    (case c8 => k_is)
    (case k8 => k_is)
    (case a9 => k_is)
    (case l9 => k_is)
    (case c9 => k_is)
    (case k9 => k_is)
    (case a10 => k_is)
    (case l10 => k_is)
    (case c10 => k_is)
    (case k10 => k_is)
    (case a11 => k_is)
    (case l11 => k_is)
    (case c11 => k_is)
    (case k11 => k_is)
    (case a12 => k_is)
    (case l12 => k_is)
    (case c12 => k_is)
    (case k12 => k_is)
    (case a13 => k_is)
    (case l13 => k_is)
    (case c13 => k_is)
    (case k13 => k_is)
    (case a14 => k_is)
    (case l14 => k_is)
    (case c14 => k_is)
    (case k14 => k_is)
    (case a15 => k_is)
    (case l15 => k_is)
    (case c15 => k_is)
    (case k15 => k_is)
    (case a16 => k_is)
    (case l16 => k_is)
    (case c16 => k_is)
    (case k16 => k_is)
    (case a17 => k_is)
    (case l17 => k_is)
    (case c17 => k_is)
    (case k17 => k_is)
    (case a18 => k_is)
    (case l18 => k_is)
    (case c18 => k_is)
    (case k18 => k_is)
    (case a19 => k_is)
    (case l19 => k_is)
    (case c19 => k_is)
    (case k19 => k_is)
    (case a20 => k_is)
    (case l20 => k_is)
    (case c20 => k_is)
    (case k20 => k_is)
    (case a21 => k_is)
    (case l21 => k_is)
    (case c21 => k_is)
    (case k21 => k_is)
    (case a22 => k_is)
    (case l22 => k_is)
    (case c22 => k_is)
    (case k22 => k_is)
    (case a23 => k_is)
    (case l23 => k_is)
    (case c23 => k_is)
    (case k23 => k_is)
    (case a24 => k_is)
    (case l24 => k_is)
    (case c24 => k_is)
    (case k24 => k_is)
    (case a25 => k_is)
    (case l25 => k_is)
    (case c25 => k_is)
    (case k25 => k_is)
    (case a26 => k_is)
    (case l26 => k_is)
    (case c26 => k_is)
    (case k26 => k_is)
    (case a27 => k_is)
    (case l27 => k_is)
    (case c27 => k_is)
    (case k27 => k_is)
    (case a28 => k_is)
    (case l28 => k_is)
    (case c28 => k_is)
    (case k28 => k_is)
    (case a29 => k_is)
    (case l29 => k_is)
    (case c29 => k_is)
    (case k29 => k_is)
    (case a30 => k_is)
    (case l30 => k_is)
    (case c30 => k_is)
    (case k30 => k_is)
    (case a31 => k_is)
    (case l31 => k_is)
    (case c31 => k_is)
    (case k31 => k_is)
    (case a32 => k_is)
    (case l32 => k_is)
    (case c32 => k_is)
    (case k32 => k_is)
    (case a33 => k_is)
    (case l33 => k_is)
    (case c33 => k_is)
    (case k33 => k_is)
    (case a34 => k_is)
    (case l34 => k_is)
    (case c34 => k_is)
    (case k34 => k_is)
    (case a35 => k_is)
    (case l35 => k_is)
    (case c35 => k_is)
    (case k35 => k_is)
    (case a36 => k_is)
    (case l36 => k_is)
    (case c36 => k_is)
    (case k36 => k_is)
    (case a37 => k_is)
    (case l37 => k_is)
    (case c37 => k_is)
    (case k37 => k_is)
    (case a38 => k_is)
    (case l38 => k_is)
    (case c38 => k_is)
    (case k38 => k_is)
    (case a39 => k_is)
    (case l39 => k_is)
    (case c39 => k_is)
    (case k39 => k_is)
    (case a40 => k_is)
    (case l40 => k_is)
    (case c40 => k_is)
    (case k40 => k_is)
    (case a41 => k_is)
    (case l41 => k_is)
    (case c41 => k_is)
    (case k41 => k_is)
    (case a42 => k_is)
    (case l42 => k_is)
    (case c42 => k_is)
    (case k42 => k_is)
    (case a43 => k_is)
    (case l43 => k_is)
    (case c43 => k_is)
    (case k43 => k_is)
    (case a44 => k_is)
    (case l44 => k_is)
    (case c44 => k_is)
    (case k44 => k_is)
    (case a45 => k_is)
    (case l45 => k_is)
    (case c45 => k_is)
    (case k45 => k_is)
    (case y_MOST_LENGTH => k_is)
    (case y_MOST_PLACES => k_is)
    (case z_abs => k_is)
    (case z_all => k_is)
    (case z_bool => k_is)
    (case z_enumerate => k_is)
    (case z_int => k_is)
    (case z_isinstance => k_is)
    (case z_len => k_is)
    (case z_list => k_is)
    (case z_min => k_is)
    (case z_range => k_is)
    (case z_set => k_is)
    (case z_sorted => k_is)
    (case z_sum => k_is)
    (case z_tuple => k_is)
    (case z_zip => k_is)
