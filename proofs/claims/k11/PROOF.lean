import PyProof.Rows.All
import HandS.ForMost
import HandS.ForExc
import HandS.Conv
import HandS.TupAny
import KE.KIndexOf
import HandS.Deep
import HandS.WordsDict
import HandS.SortInts
import HandS.More
import KE.DataMinMax
import KE.SortData
import HandS.Small
import KE.GoesEnum
import HandS.IsInst
import HandS.Style
import HandS.SetFor
import HandS.Strs
import KE.GoesMore
import PyProof.AutoSeq1
import HandS.TupMul
import HandS.NoneIn
import PyProof.TupleOfSeq
import HandS.Dict
import KE.KDictList
import PyProof.DictValues
import HandS.ClsMeth
import HandS.ExcInit
import HandS.ExcField
import HandS.ExcIs
import HandS.TryOnly
import KE.KExcIs
import HandS.HotCalls
import PySem.Challenge.RW_rimasks_k11_drawn_in
set_option Elab.async false
set_option linter.all false
set_option maxRecDepth 100000
set_option maxHeartbeats 4000000
/-! Tuples of which is known that they have no dict: all that this layer makes are such. -/
namespace DL
open PySem PySem.Spec L2
def TupR (K : PySem.W.Frag) (H : Hp) (a : Addr) (vs : List V) : Prop := (∃ o, H a = some (.frz o (.tup vs)) ∧ o.dict = none) ∨
  ∃ (o : Obj) (its : Array Value) (n : Nat), K.lookup a = some o ∧ o.dict = none ∧ o.cls = .type "tuple" ∧ o.data = .seq its n ∧ its.size ≤ sizeLine ∧ Vals vs its.toList
theorem TupR.sq {K : PySem.W.Frag} {H : Hp} {a : Addr} {vs : List V} (h : TupR K H a vs) : SqT K H a vs := by
  rcases h with ⟨o, h, _⟩ | ⟨o, its, n, h1, _, h2, h3, h4, h5⟩
  · exact .inl (.inr ⟨o, h⟩)
  · exact .inr ⟨o, its, n, h1, h2, h3, h4, h5⟩
/-- a new tuple that may be anywhere -/
def newT (H : Hp) (vs : List V) (Q : VK) : Prop := ∀ p o, H p = none → o.dict = none → Q (.ref p) (upd H p (.frz o (.tup vs)))
abbrev tupObj (its : List Value) : Obj := { cls := .type "tuple", data := .seq its.toArray }
section
variable {X : Cx} {pins : List (Addr × Obj)} {σ : L2.St} {H : Hp} {s : Shared}
theorem laidT {its : List Value} {vs : List V} {t' : Nat} (I : Inv X pins σ H s) (r : Vals vs its) (hz : vs.length ≤ sizeLine) :
    Inv X pins σ (upd H s.heap.objs.size (.frz (tupObj its) (.tup vs))) { s with heap := s.heap.push (tupObj its), toks := t' } :=
  I.laid (fun b u e => Heap.get?_push_of_some _ e) (Nat.le_refl _)
    ⟨Heap.get?_push_size _ rfl, show ObjOk X.prog X.w _ _ _ (.tup vs) from ⟨hz, its, r, PyProof.Rows.IsTup.new _ _⟩⟩
theorem newT_fin {its : List Value} {vs : List V} {t' : Nat} {Q : VK} (I : Inv X pins σ H s) (r : Vals vs its) (hz : vs.length ≤ sizeLine) (q : newT H vs Q) :
    EP X pins σ Q (.ref s.heap.objs.size) { s with heap := s.heap.push (tupObj its), toks := t' } :=
  ⟨.ref s.heap.objs.size, _, laidT I r hz, rfl, q _ _ (I.hok.fresh (Nat.le_refl _)) rfl⟩
theorem tuple_dict {a : Addr} {vs : List V} (I : Inv X pins σ H s) (h : TupR X.K H a vs) :
    ∃ its : List Value, Vals vs its ∧ PyProof.Rows.IsTup s.heap a its.toArray ∧ vs.length ≤ sizeLine ∧ ∃ ob, s.heap.get? a = some ob ∧ ob.dict = none := by
  obtain ⟨its, r, p, hz⟩ := I.tuple h.sq
  refine ⟨its, r, p, hz, ?_⟩
  rcases h with ⟨o, h, d⟩ | ⟨o, _, _, h1, d, _⟩
  · exact ⟨o, (I.hok _ _ h).1, d⟩
  · exact ⟨o, I.kIn a o h1, d⟩
end
section
variable {X : Cx} {es : List Expr} {t : TA} {pos : Pos}
def tTupF (t : TA) : TE := fun σ H Q => t σ H fun xs H1 => xs.length ≤ sizeLine ∧ newT H1 xs Q
theorem pe_tupF {k : Nat} (h : PA X es t) : PE X (.Tuple es k pos) (tTupF t) :=
  ⟨fun pins s σ H Q I hq => wpAny_Tuple_spliced (thn (h.run pos pins s σ H _ I hq)
    fun us s1 ⟨xs, H1, I1, r, z, q⟩ => ⟨by rw [← r.length]; exact z, newT_fin (t' := s1.toks) I1 r z q⟩)⟩
/-- t + u -/
def rCatF (K : PySem.W.Frag) : R2 := fun x y H Q => ∃ a b xs ys, x = .ref a ∧ y = .ref b ∧ SqT K H a xs ∧ SqT K H b ys ∧ xs.length + ys.length ≤ sizeLine ∧
  (xs = [] → Q (.ref b) H) ∧ (xs ≠ [] → ys = [] → Q (.ref a) H) ∧ (xs ≠ [] → ys ≠ [] → newT H (xs ++ ys) Q)
theorem op_catF : OpR X (binaryOp .Add) (rCatF X.K) := fun pins s σ H _ _ v u Q I rx ry ⟨a, b, xs, ys, ex, ey, ha, hb, hz, q0, q1, q2⟩ => by
  rcases Decidable.em (xs = [] ∨ ys = []) with void | full
  · -- one of them is void: the other one itself
    exact op_catA pins s σ H _ _ v u Q I rx ry ⟨a, b, xs, ys, ex, ey, ha, hb, hz, q0, q1, fun n1 n2 => (void.elim n1 n2).elim⟩
  · obtain ⟨n1, n2⟩ := not_or.mp full
    subst ex ey
    cases rx
    cases ry
    have ⟨us, ru, tu, _⟩ := I.tuple ha
    have ⟨ws, rw', tw, _⟩ := I.tuple hb
    apply HT.cat_tup tu tw
    · exact fun z => n1 (ru.nil_iff.mp z)
    · exact fun z => (n2 (rw'.nil_iff.mp z)).elim
    · exact fun _ => newT_fin I (ru.append rw') (List.length_append ▸ hz) (q2 n1 n2)
    · exact ru.length ▸ rw'.length ▸ hz
/-- t[lo:hi] -/
def whole (n : Nat) (lo hi : Option Int) : Prop := HT.sIx n 0 lo = 0 ∧ HT.sIx n n hi = n
def rSlF (K : PySem.W.Frag) : V → Option Int → Option Int → Hp → VK → Prop := fun x lo hi H Q =>
  ∃ a xs, x = .ref a ∧ SqT K H a xs ∧ (whole xs.length lo hi → Q (.ref a) H) ∧ (¬ whole xs.length lo hi → newT H (cutV xs lo hi) Q)
theorem cutV_vals {xs : List V} {its : List Value} (r : Vals xs its) (lo hi : Option Int) :
    Vals (cutV xs lo hi) ((its.drop (HT.sIx its.length 0 lo)).take (HT.sIx its.length its.length hi - HT.sIx its.length 0 lo)) := by
  unfold cutV
  rw [r.length]
  exact (r.drop _).take _
theorem sl_tupF : SlR X (rSlF X.K) := fun pins s σ H _ v vl vu lo hi sl Q I rx hs pl pu ⟨a, xs, ex, hx, all, part⟩ => by
  by_cases hw : whole xs.length lo hi
  · exact sl_tupA pins s σ H _ v vl vu lo hi sl Q I rx hs pl pu ⟨a, xs, ex, hx, fun _ => all hw, fun n => (n hw).elim⟩
  · subst ex
    cases rx
    have ⟨us, ru, tu, small⟩ := I.tuple hx
    have size : us.toArray.size = xs.length := List.size_toArray.trans ru.length.symm
    have piece := newT_fin (t' := s.toks) I (cutV_vals ru lo hi) (Nat.le_trans (cutV_length ..) small) (part hw)
    exact ⟨"tuple", _, PyProof.Rows.slot_tuple_getitem.lookup, tu.typeIs, HT.getItem_tuple_cut tu hs pl pu (size ▸ hw) (by simpa using piece) (size ▸ small)⟩
/-- tuple(xs) -/
def rTupOf (K : PySem.W.Frag) : List V → Hp → VK → Prop := fun xs H Q => ∃ p ys, xs = [.ref p] ∧ ((SqL K H p ys ∧ newT H ys Q) ∨ (SqT K H p ys ∧ Q (.ref p) H))
theorem call_tupOf : CallR X (.type "tuple") (rTupOf X.K) := fun pins s σ H _ us Q I r ⟨p, ys, ex, h⟩ => by
  cases h with
  | inr own => exact call_tuple_of pins s σ H _ us Q I r ⟨p, ys, ex, .inr own⟩
  | inl new =>
    subst ex
    rw [Vals.ref1 r]
    have ⟨ws, rw', lw, small⟩ := I.list new.1
    have few : ws.toArray.size ≤ sizeLine := by simpa [← rw'.length] using small
    exact call_tuple_list lw.isList (fun g kept => newT_fin (s := { s with heap := g }) (I.kept (t' := s.toks) kept) rw' small new.2) few
end
/-! ### t.index(x) -/
section
variable {X : Cx} {o e : Expr} {to te : TE} {apos cpos : Pos} {rr : V → List V → Hp → VK → Prop} {name : Str} {id : String}
/-- a method of a tuple -/
def tTM (K : PySem.W.Frag) (r : V → List V → Hp → VK → Prop) (to : TE) (t : TA) : TE := fun σ H Q => to σ H fun x H1 => (∃ a vs, x = .ref a ∧ TupR K H1 a vs) ∧ t σ H1 fun xs H2 => r x xs H2 Q
/-- how a method's call is written: what the model looks at ahead of it -/
structure Written (X : Cx) (o e : Expr) (es : List Expr) (name : Str) (apos cpos : Pos) : Prop where
  base : attributeBase o name X.env (eval o X.env) = eval o X.env
  few : (((backTo cpos (starEach (e :: es) X.env)).all fun x => !x.1) && (backToKw cpos (keywordEach [] X.env)).all (fun x => x.1.isSome) && decide ((e :: es).length + 0 + 0 < 30)) = true
  line : (apos.endLine == cpos.line) = true
  first : starEach (e :: es) X.env = (false, eval e X.env) :: starEach es X.env
  plain : (backTo cpos (starEach es X.env)).any (·.1) = false
theorem pe_tm {es : List Expr} {t : TA} (slot : Slot "tuple" name id) (hty : typeOf (.builtin id) = pure (.type "method_descriptor")) (hm : MtR X id rr) (ho : PE X o to) (ha : PA X (e :: es) t)
    (W : Written X o e es name apos cpos := by exact ⟨rfl, rfl, rfl, rfl, rfl⟩) : PE X (.Call (.Attribute o name apos) (e :: es) [] cpos) (tTM X.K rr to t) where
  run pins s σ H Q I h := wpAny_Call_method_late W.base W.few W.line rfl <| thn (ho.run pins s σ H _ I h) <| by
    rintro _ s1 ⟨_, H1, I1, told1, ⟨a, vs, rfl, tr⟩, args⟩
    cases told1
    have ⟨_, _, tup, _, bare⟩ := tuple_dict I1 tr
    refine ⟨"tuple", id, PySem.F.plainAttrs_tuple, slot, hty, tup.typeIs, fun _ eb => by cases eb; exact bare, ?_⟩
    have told := ha.run cpos pins s1 σ H1 _ I1 args
    rw [W.first] at told ⊢
    exact Calls.callWith_builtin (by simpa [backTo] using W.plain) (Calls.evalArgs_plain (thn told fun us s2 ⟨ws, H2, I2, r2, q2⟩ => hm pins s2 σ H2 (.ref a) ws _ us Q I2 rfl r2 q2))
/-- its first place, of ints -/
def rTIdx (K : PySem.W.Frag) : V → List V → Hp → VK → Prop := fun x xs H Q => ∃ (a : Addr) (ns : List Int) (k : Int), x = .ref a ∧ xs = [.int k] ∧ SqT K H a (ns.map V.int) ∧ k ∈ ns ∧ Q (.int (ns.idxOf k : Nat)) H
theorem mt_tidx : MtR X "tuple.index" (rTIdx X.K) := by
  rintro pins s σ H _ _ _ us Q I at1 args ⟨a, ns, k, rfl, rfl, ht, mem, q⟩
  cases at1
  cases args with
  | cons one rest =>
    cases rest
    obtain ⟨t, rfl⟩ := one
    obtain ⟨_, nums, tup, _⟩ := I.tuple ht
    exact PySem.SeqAt.tuple_index_ints tup nums.ints mem ⟨.int _, H, I.tok _, ⟨_, rfl⟩, q⟩
end
end DL
/-! Data by value over the hand layer: what stands in a frame's slots, and what it owns. -/
namespace DL
open PySem PySem.Spec L2
inductive D where
  | non | bl (b : Bool) | int (i : Int) | str (x : Str)
  | tup (ds : List D) | lst (ds : List D) | flst (ds : List D) | dic (kvs : List (Key × D)) | fdic (kvs : List (Key × D))
  | exc (a : Addr) (c : Str) (dd : Addr) (kvs : List (Key × D))
mutual
/-- holds nothing that may be changed -/
def imm : D → Bool
  | .non => true | .bl _ => true | .int _ => true | .str _ => true
  | .tup ds => immL ds
  | .lst _ => false
  | .flst ds => immL ds
  | .dic _ => false
  | .fdic kvs => immK kvs
  | .exc _ _ _ kvs => immK kvs
def immL : List D → Bool
  | [] => true
  | d :: ds => imm d && immL ds
def immK : List (Key × D) → Bool
  | [] => true
  | (_, d) :: r => imm d && immK r
end
/-- a list that nobody changes any more -/
def SqF (K : PySem.W.Frag) (H : Hp) (a : Addr) (vs : List V) : Prop := (∃ o, H a = some (.frz o (.lst vs))) ∨ SqL K (fun _ => none) a vs
/-- the fields of a caught exception -/
def fldOf : Key → Str
  | .inr x => x
  | .inl _ => ""
def xdOf (ws : List (Key × V)) : List (Str × V) := ws.map fun kv => (fldOf kv.1, kv.2)
mutual
/-- the value v is d, by the heap H; what it owns: f -/
def Rep (K : PySem.W.Frag) (H : Hp) : D → V → List Addr → Prop
  | .non, v, f => v = .non ∧ f = []
  | .bl b, v, f => v = .bl b ∧ f = []
  | .int i, v, f => v = .int i ∧ f = []
  | .str x, v, f => v = .str x ∧ f = []
  | .tup ds, v, f => ∃ a vs, v = .ref a ∧ TupR K H a vs ∧ RepL K H ds vs f
  | .lst ds, v, f => ∃ a vs g, v = .ref a ∧ H a = some (.lst vs) ∧ f = a :: g ∧ RepL K H ds vs g
  | .flst ds, v, f => ∃ a vs, v = .ref a ∧ SqF K H a vs ∧ RepL K H ds vs f
  | .dic kvs, v, f => ∃ a ws g, v = .ref a ∧ H a = some (.dK ws) ∧ f = a :: g ∧ RepK K H kvs ws g
  | .fdic kvs, v, f => ∃ a ws, v = .ref a ∧ (∃ o, H a = some (.frz o (.dK ws))) ∧ RepK K H kvs ws f
  | .exc a _ dd kvs, v, f => ∃ ws, v = .ref a ∧ H dd = some (.xd (xdOf ws)) ∧ RepK K H kvs ws f
def RepL (K : PySem.W.Frag) (H : Hp) : List D → List V → List Addr → Prop
  | [], vs, f => vs = [] ∧ f = []
  | d :: ds, vs, f => ∃ v vs' f1 f2, vs = v :: vs' ∧ f = f1 ++ f2 ∧ Rep K H d v f1 ∧ RepL K H ds vs' f2
def RepK (K : PySem.W.Frag) (H : Hp) : List (Key × D) → List (Key × V) → List Addr → Prop
  | [], ws, f => ws = [] ∧ f = []
  | (k, d) :: r, ws, f => ∃ v ws' f1 f2, ws = (k, v) :: ws' ∧ f = f1 ++ f2 ∧ Rep K H d v f1 ∧ RepK K H r ws' f2
end
def MutO : Option HO → Prop
  | some (.lst _) => True
  | some (.dK _) => True
  | some (.ins _ _ _) => True
  | some (.own _) => True
  | _ => False
theorem MutO.some_ {o : Option HO} (h : MutO o) : ∃ u, o = some u := by
  cases o with
  | none => exact h.elim
  | some u => exact ⟨u, rfl⟩
section
variable {K : PySem.W.Frag} {H H' : Hp}
mutual
theorem Rep.mut : ∀ (d : D) (v : V) (f : List Addr), Rep K H d v f → ∀ a ∈ f, MutO (H a)
  | .non, v, f, h => by obtain ⟨_, rfl⟩ := h; intro a ha; cases ha
  | .bl _, v, f, h => by obtain ⟨_, rfl⟩ := h; intro a ha; cases ha
  | .int _, v, f, h => by obtain ⟨_, rfl⟩ := h; intro a ha; cases ha
  | .str _, v, f, h => by obtain ⟨_, rfl⟩ := h; intro a ha; cases ha
  | .tup ds, v, f, h => by obtain ⟨_, vs, _, _, h⟩ := h; exact RepL.mut ds vs f h
  | .lst ds, v, f, h => by
    obtain ⟨p, vs, g, _, e, rfl, h⟩ := h
    intro a ha
    rcases List.mem_cons.mp ha with rfl | ha
    · rw [e]; trivial
    · exact RepL.mut ds vs g h a ha
  | .flst ds, v, f, h => by obtain ⟨_, vs, _, _, h⟩ := h; exact RepL.mut ds vs f h
  | .dic kvs, v, f, h => by
    obtain ⟨p, ws, g, _, e, rfl, h⟩ := h
    intro a ha
    rcases List.mem_cons.mp ha with rfl | ha
    · rw [e]; trivial
    · exact RepK.mut kvs ws g h a ha
  | .fdic kvs, v, f, h => by obtain ⟨_, ws, _, _, h⟩ := h; exact RepK.mut kvs ws f h
  | .exc _ _ _ kvs, v, f, h => by obtain ⟨ws, _, _, h⟩ := h; exact RepK.mut kvs ws f h
theorem RepL.mut : ∀ (ds : List D) (vs : List V) (f : List Addr), RepL K H ds vs f → ∀ a ∈ f, MutO (H a)
  | [], vs, f, h => by obtain ⟨_, rfl⟩ := h; intro a ha; cases ha
  | d :: ds, vs, f, h => by
    obtain ⟨v, vs', f1, f2, _, rfl, h1, h2⟩ := h
    intro a ha
    rcases List.mem_append.mp ha with ha | ha
    · exact Rep.mut d v f1 h1 a ha
    · exact RepL.mut ds vs' f2 h2 a ha
theorem RepK.mut : ∀ (kvs : List (Key × D)) (ws : List (Key × V)) (f : List Addr), RepK K H kvs ws f → ∀ a ∈ f, MutO (H a)
  | [], ws, f, h => by obtain ⟨_, rfl⟩ := h; intro a ha; cases ha
  | (k, d) :: r, ws, f, h => by
    obtain ⟨v, ws', f1, f2, _, rfl, h1, h2⟩ := h
    intro a ha
    rcases List.mem_append.mp ha with ha | ha
    · exact Rep.mut d v f1 h1 a ha
    · exact RepK.mut r ws' f2 h2 a ha
end
/-- nothing but what may be changed, and nothing of f, is otherwise -/
def Keep (H : Hp) (f : List Addr) (H' : Hp) : Prop := ∀ a u, H a = some u → (¬ MutO (H a) ∨ a ∈ f) → H' a = some u
theorem Keep.sub {f g : List Addr} (k : Keep H f H') (h : ∀ a ∈ g, a ∈ f) : Keep H g H' := fun a u e q => k a u e (q.imp id (h a))
theorem tupR_keep {a : Addr} {vs : List V} {f : List Addr} (h : TupR K H a vs) (k : Keep H f H') : TupR K H' a vs := by
  rcases h with ⟨o, h, d⟩ | h
  · exact .inl ⟨o, k a _ h (.inl (by rw [h]; exact id)), d⟩
  · exact .inr h
theorem SqF.keep {a : Addr} {vs : List V} {f : List Addr} (h : SqF K H a vs) (k : Keep H f H') : SqF K H' a vs := by
  rcases h with ⟨o, h⟩ | h
  · exact .inl ⟨o, k a _ h (.inl (by rw [h]; exact id))⟩
  · exact .inr h
theorem SqF.seq {a : Addr} {vs : List V} (h : SqF K H a vs) : SqL K H a vs := by
  rcases h with ⟨o, h⟩ | h
  · exact .inl (.inr ⟨o, h⟩)
  · rcases h with (h | ⟨o, h⟩) | h
    · cases h
    · cases h
    · exact .inr h
mutual
theorem Rep.keep : ∀ (d : D) (v : V) (f : List Addr), Rep K H d v f → Keep H f H' → Rep K H' d v f
  | .non, v, f, h, _ => h
  | .bl _, v, f, h, _ => h
  | .int _, v, f, h, _ => h
  | .str _, v, f, h, _ => h
  | .tup ds, v, f, h, k => by
    obtain ⟨a, vs, e, q, h⟩ := h
    exact ⟨a, vs, e, tupR_keep q k, RepL.keep ds vs f h k⟩
  | .lst ds, v, f, h, k => by
    obtain ⟨p, vs, g, e1, e, rfl, h⟩ := h
    exact ⟨p, vs, g, e1, k p _ e (.inr List.mem_cons_self), rfl, RepL.keep ds vs g h (k.sub fun a ha => List.mem_cons_of_mem _ ha)⟩
  | .flst ds, v, f, h, k => by
    obtain ⟨a, vs, e, q, h⟩ := h
    exact ⟨a, vs, e, SqF.keep q k, RepL.keep ds vs f h k⟩
  | .dic kvs, v, f, h, k => by
    obtain ⟨p, ws, g, e1, e, rfl, h⟩ := h
    exact ⟨p, ws, g, e1, k p _ e (.inr List.mem_cons_self), rfl, RepK.keep kvs ws g h (k.sub fun a ha => List.mem_cons_of_mem _ ha)⟩
  | .fdic kvs, v, f, h, k => by
    obtain ⟨a, ws, e, ⟨o, q⟩, h⟩ := h
    exact ⟨a, ws, e, ⟨o, k a _ q (.inl (by rw [q]; exact id))⟩, RepK.keep kvs ws f h k⟩
  | .exc a C dd kvs, v, f, h, k => by
    obtain ⟨ws, e, q, h⟩ := h
    exact ⟨ws, e, k dd _ q (.inl (by rw [q]; exact id)), RepK.keep kvs ws f h k⟩
theorem RepL.keep : ∀ (ds : List D) (vs : List V) (f : List Addr), RepL K H ds vs f → Keep H f H' → RepL K H' ds vs f
  | [], vs, f, h, _ => h
  | d :: ds, vs, f, h, k => by
    obtain ⟨v, vs', f1, f2, e, rfl, h1, h2⟩ := h
    exact ⟨v, vs', f1, f2, e, rfl, Rep.keep d v f1 h1 (k.sub fun a ha => List.mem_append_left _ ha), RepL.keep ds vs' f2 h2 (k.sub fun a ha => List.mem_append_right _ ha)⟩
theorem RepK.keep : ∀ (kvs : List (Key × D)) (ws : List (Key × V)) (f : List Addr), RepK K H kvs ws f → Keep H f H' → RepK K H' kvs ws f
  | [], ws, f, h, _ => h
  | (kk, d) :: r, ws, f, h, k => by
    obtain ⟨v, ws', f1, f2, e, rfl, h1, h2⟩ := h
    exact ⟨v, ws', f1, f2, e, rfl, Rep.keep d v f1 h1 (k.sub fun a ha => List.mem_append_left _ ha), RepK.keep r ws' f2 h2 (k.sub fun a ha => List.mem_append_right _ ha)⟩
end
mutual
theorem Rep.imm : ∀ (d : D) (v : V) (f : List Addr), Rep K H d v f → imm d = true → f = []
  | .non, v, f, h, _ => h.2
  | .bl _, v, f, h, _ => h.2
  | .int _, v, f, h, _ => h.2
  | .str _, v, f, h, _ => h.2
  | .tup ds, v, f, h, k => by
    obtain ⟨a, vs, e, q, h⟩ := h
    exact RepL.imm ds vs f h k
  | .lst ds, v, f, h, k => by cases k
  | .flst ds, v, f, h, k => by
    obtain ⟨a, vs, e, q, h⟩ := h
    exact RepL.imm ds vs f h k
  | .dic kvs, v, f, h, k => by cases k
  | .fdic kvs, v, f, h, k => by
    obtain ⟨a, ws, e, q, h⟩ := h
    exact RepK.imm kvs ws f h k
  | .exc _ _ _ kvs, v, f, h, k => by
    obtain ⟨ws, e, q, h⟩ := h
    exact RepK.imm kvs ws f h k
theorem RepL.imm : ∀ (ds : List D) (vs : List V) (f : List Addr), RepL K H ds vs f → immL ds = true → f = []
  | [], vs, f, h, _ => h.2
  | d :: ds, vs, f, h, k => by
    obtain ⟨v, vs', f1, f2, e, rfl, h1, h2⟩ := h
    have k' : (DL.imm d && immL ds) = true := k
    rw [Bool.and_eq_true] at k'
    rw [Rep.imm d v f1 h1 k'.1, RepL.imm ds vs' f2 h2 k'.2]
    rfl
theorem RepK.imm : ∀ (kvs : List (Key × D)) (ws : List (Key × V)) (f : List Addr), RepK K H kvs ws f → immK kvs = true → f = []
  | [], ws, f, h, _ => h.2
  | (kk, d) :: r, ws, f, h, k => by
    obtain ⟨v, ws', f1, f2, e, rfl, h1, h2⟩ := h
    have k' : (DL.imm d && immK r) = true := k
    rw [Bool.and_eq_true] at k'
    rw [Rep.imm d v f1 h1 k'.1, RepK.imm r ws' f2 h2 k'.2]
    rfl
end
theorem RepL.length : ∀ {ds : List D} {vs : List V} {f : List Addr}, RepL K H ds vs f → vs.length = ds.length
  | [], vs, f, h => by rw [h.1]; rfl
  | d :: ds, vs, f, h => by
    obtain ⟨v, vs', f1, f2, e, _, _, h2⟩ := h
    rw [e, List.length_cons, List.length_cons, RepL.length h2]
theorem RepL.append : ∀ {ds es : List D} {vs ws : List V} {f g : List Addr}, RepL K H ds vs f → RepL K H es ws g → RepL K H (ds ++ es) (vs ++ ws) (f ++ g)
  | [], es, vs, ws, f, g, h, h' => by obtain ⟨rfl, rfl⟩ := h; exact h'
  | d :: ds, es, vs, ws, f, g, h, h' => by
    obtain ⟨v, vs', f1, f2, rfl, rfl, h1, h2⟩ := h
    exact ⟨v, vs' ++ ws, f1, f2 ++ g, rfl, List.append_assoc .., h1, RepL.append h2 h'⟩
theorem RepL.split : ∀ {ds es : List D} {vs : List V} {f : List Addr}, RepL K H (ds ++ es) vs f → ∃ v1 v2 f1 f2, vs = v1 ++ v2 ∧ f = f1 ++ f2 ∧ RepL K H ds v1 f1 ∧ RepL K H es v2 f2
  | [], es, vs, f, h => ⟨[], vs, [], f, rfl, rfl, ⟨rfl, rfl⟩, h⟩
  | d :: ds, es, vs, f, h => by
    obtain ⟨v, vs', f1, f2, rfl, rfl, h1, h2⟩ := h
    obtain ⟨v1, v2, g1, g2, rfl, rfl, q1, q2⟩ := RepL.split h2
    exact ⟨v :: v1, v2, f1 ++ g1, g2, rfl, (List.append_assoc ..).symm, ⟨v, v1, f1, g1, rfl, rfl, h1, q1⟩, q2⟩
/-- an item, and the rest -/
theorem RepL.at {ds : List D} {vs : List V} {f : List Addr} {i : Nat} {d : D} (h : RepL K H ds vs f) (e : ds[i]? = some d) :
    ∃ v f1 f2 f3, vs[i]? = some v ∧ f = f1 ++ (f2 ++ f3) ∧ Rep K H d v f2 ∧
      (∀ d' v' g, Rep K H d' v' g → RepL K H (ds.set i d') (vs.set i v') (f1 ++ (g ++ f3))) ∧ RepL K H (ds.eraseIdx i) (vs.eraseIdx i) (f1 ++ f3) := by
  induction ds generalizing vs f i with
  | nil => simp at e
  | cons d0 ds ih =>
    obtain ⟨v, vs', f1, f2, rfl, rfl, h1, h2⟩ := h
    cases i with
    | zero =>
      simp at e
      subst e
      exact ⟨v, [], f1, f2, rfl, rfl, h1, fun d' v' g r => ⟨v', vs', g, f2, rfl, rfl, r, h2⟩, h2⟩
    | succ i =>
      obtain ⟨v1, g1, g2, g3, e1, rfl, r1, r2, r3⟩ := ih h2 (by simpa using e)
      refine ⟨v1, f1 ++ g1, g2, g3, by simpa using e1, by simp, r1, fun d' v' g r => ?_, ?_⟩
      · exact ⟨v, vs'.set i v', f1, g1 ++ (g ++ g3), rfl, by simp, h1, r2 d' v' g r⟩
      · exact ⟨v, vs'.eraseIdx i, f1, g1 ++ g3, rfl, by simp, h1, r3⟩
/-- every single item of things that own nothing -/
theorem RepL.each {ds : List D} {vs : List V} {f : List Addr} (h : RepL K H ds vs f) (k : immL ds = true) : ∀ (i : Nat) (v : V), vs[i]? = some v → ∃ d, ds[i]? = some d ∧ Rep K H d v [] := by
  induction ds generalizing vs f with
  | nil => intro i v e; rw [h.1] at e; simp at e
  | cons d ds ih =>
    obtain ⟨v, vs', f1, f2, rfl, rfl, h1, h2⟩ := h
    have k' : (DL.imm d && immL ds) = true := k
    rw [Bool.and_eq_true] at k'
    intro i w e
    cases i with
    | zero => simp at e; subst e; have := Rep.imm _ _ _ h1 k'.1; subst this; exact ⟨d, rfl, h1⟩
    | succ i => exact ih h2 k'.2 i w (by simpa using e)
/-- things that own nothing, each by itself -/
theorem RepL.of_each : ∀ {ds : List D} {vs : List V}, vs.length = ds.length → (∀ (i : Nat) (d : D) (v : V), ds[i]? = some d → vs[i]? = some v → Rep K H d v []) → RepL K H ds vs []
  | [], vs, hl, _ => ⟨List.eq_nil_of_length_eq_zero hl, rfl⟩
  | d :: ds, [], hl, _ => by simp at hl
  | d :: ds, v :: vs, hl, h => ⟨v, vs, [], [], rfl, rfl, h 0 d v rfl rfl, RepL.of_each (by simpa using hl) fun i d' v' e1 e2 => h (i + 1) d' v' (by simpa using e1) (by simpa using e2)⟩
end
/-! ### a frame -/
abbrev Fm := List (Option D)
/-- the frame's slots -/
def EnvR (K : PySem.W.Frag) (H : Hp) : Fm → L2.St → List Addr → Prop
  | [], σ, F => σ = [] ∧ F = []
  | none :: ρ, σ, F => ∃ o σ', σ = o :: σ' ∧ EnvR K H ρ σ' F
  | some d :: ρ, σ, F => ∃ v σ' f g, σ = some v :: σ' ∧ F = f ++ g ∧ Rep K H d v f ∧ EnvR K H ρ σ' g
/-- what stood outside of F stands as it stood, outside of F' -/
def Step (H : Hp) (F : List Addr) (H' : Hp) (F' : List Addr) : Prop := ∀ a u, H a = some u → a ∉ F → H' a = some u ∧ a ∉ F'
section
variable {K : PySem.W.Frag} {H H' H2 : Hp} {F F' F2 f g : List Addr} {ρ : Fm} {σ : L2.St}
theorem Step.refl : Step H F H F := fun _ _ e n => ⟨e, n⟩
theorem Step.trans (a : Step H F H' F') (b : Step H' F' H2 F2) : Step H F H2 F2 := fun p u e n => let ⟨e1, n1⟩ := a p u e n; b p u e1 n1
theorem Step.to (a : Step H F H' F') (h : ∀ p ∈ F2, p ∈ F' ∨ H p = none) : Step H F H' F2 := fun p u e n => let ⟨e1, n1⟩ := a p u e n; ⟨e1, fun q => (h p q).elim n1 fun z => by rw [e] at z; cases z⟩
/-- .. with a part that isn't touched -/
theorem Step.keep (a : Step H F H' F') (mu : ∀ p ∈ F, MutO (H p)) (hd : ∀ p ∈ f, p ∉ F) : Keep H f H' := fun p u e q => by
  refine (a p u e ?_).1
  intro hp
  rcases q with q | q
  · exact q (mu p hp)
  · exact hd p q hp
theorem Step.apart (a : Step H F H' F') (mu : ∀ p ∈ f, MutO (H p)) (hd : ∀ p ∈ f, p ∉ F) : ∀ p ∈ f, p ∉ F' := fun p hp => by
  obtain ⟨u, e⟩ := (mu p hp).some_
  exact (a p u e (hd p hp)).2
theorem EnvR.mut : ∀ {ρ : Fm} {σ : L2.St} {F : List Addr}, EnvR K H ρ σ F → ∀ a ∈ F, MutO (H a)
  | [], σ, F, h => by intro a ha; rw [h.2] at ha; cases ha
  | none :: ρ, σ, F, h => by obtain ⟨_, _, _, h⟩ := h; exact EnvR.mut h
  | some d :: ρ, σ, F, h => by
    obtain ⟨v, σ', f, g, _, rfl, h1, h2⟩ := h
    intro a ha
    rcases List.mem_append.mp ha with ha | ha
    · exact Rep.mut _ _ _ h1 a ha
    · exact EnvR.mut h2 a ha
theorem EnvR.keep : ∀ {ρ : Fm} {σ : L2.St} {F : List Addr}, EnvR K H ρ σ F → Keep H F H' → EnvR K H' ρ σ F
  | [], σ, F, h, _ => h
  | none :: ρ, σ, F, h, k => by obtain ⟨o, σ', e, h⟩ := h; exact ⟨o, σ', e, EnvR.keep h k⟩
  | some d :: ρ, σ, F, h, k => by
    obtain ⟨v, σ', f, g, e, rfl, h1, h2⟩ := h
    exact ⟨v, σ', f, g, e, rfl, Rep.keep _ _ _ h1 (k.sub fun a ha => List.mem_append_left _ ha), EnvR.keep h2 (k.sub fun a ha => List.mem_append_right _ ha)⟩
theorem EnvR.length : ∀ {ρ : Fm} {σ : L2.St} {F : List Addr}, EnvR K H ρ σ F → σ.length = ρ.length
  | [], σ, F, h => by rw [h.1]; rfl
  | none :: ρ, σ, F, h => by obtain ⟨_, _, e, h⟩ := h; rw [e, List.length_cons, List.length_cons, EnvR.length h]
  | some d :: ρ, σ, F, h => by obtain ⟨_, _, _, _, e, _, _, h⟩ := h; rw [e, List.length_cons, List.length_cons, EnvR.length h]
/-- a slot, and the others -/
theorem EnvR.at {i : Nat} {d : D} (h : EnvR K H ρ σ F) (e : ρ[i]? = some (some d)) :
    ∃ v F1 f F3, σ[i]? = some (some v) ∧ F = F1 ++ (f ++ F3) ∧ Rep K H d v f ∧ EnvR K H (ρ.set i none) σ (F1 ++ F3) := by
  induction ρ generalizing σ F i with
  | nil => simp at e
  | cons o ρ ih =>
    cases i with
    | zero =>
      simp at e
      subst e
      obtain ⟨v, σ', f, g, rfl, rfl, h1, h2⟩ := h
      exact ⟨v, [], f, g, rfl, rfl, h1, ⟨some v, σ', rfl, h2⟩⟩
    | succ i =>
      cases o with
      | none =>
        obtain ⟨o', σ', rfl, h⟩ := h
        obtain ⟨v, F1, f, F3, e1, rfl, r, h'⟩ := ih h (by simpa using e)
        exact ⟨v, F1, f, F3, by simpa using e1, rfl, r, ⟨o', σ', rfl, h'⟩⟩
      | some d0 =>
        obtain ⟨v0, σ', f0, g0, rfl, rfl, h1, h2⟩ := h
        obtain ⟨v, F1, f, F3, e1, rfl, r, h'⟩ := ih h2 (by simpa using e)
        exact ⟨v, f0 ++ F1, f, F3, by simpa using e1, by simp, r, ⟨v0, σ', f0, F1 ++ F3, rfl, by simp, h1, h'⟩⟩
/-- a slot is forgotten -/
theorem EnvR.drop {i : Nat} (h : EnvR K H ρ σ F) : ∃ F1 f F3, F = F1 ++ (f ++ F3) ∧ EnvR K H (ρ.set i none) σ (F1 ++ F3) := by
  cases e : ρ[i]? with
  | none =>
    have hi : ρ.length ≤ i := List.getElem?_eq_none_iff.mp e
    rw [List.set_eq_of_length_le hi]
    exact ⟨F, [], [], by simp, by simpa using h⟩
  | some o =>
    cases o with
    | none =>
      have : ρ.set i none = ρ := by
        apply List.ext_getElem?
        intro j
        rw [List.getElem?_set]
        split
        · subst_vars
          split
          · rw [e]
          · rw [List.getElem?_eq_none (by omega)]
        · rfl
      rw [this]
      exact ⟨F, [], [], by simp, by simpa using h⟩
    | some d =>
      obtain ⟨v, F1, f, F3, e1, e2, r, h'⟩ := h.at e
      exact ⟨F1, f, F3, e2, h'⟩
/-- a slot that holds nothing known is filled -/
theorem EnvR.put {i : Nat} {d : D} {v : V} (h : EnvR K H (ρ.set i none) σ F) (hi : i < ρ.length) (e : σ[i]? = some (some v)) (r : Rep K H d v f) : ∃ F1 F3, F = F1 ++ F3 ∧ EnvR K H (ρ.set i (some d)) σ (F1 ++ (f ++ F3)) := by
  induction ρ generalizing σ F i with
  | nil => simp at hi
  | cons o ρ ih =>
    cases i with
    | zero =>
      obtain ⟨o', σ', rfl, h'⟩ := h
      simp at e
      subst e
      exact ⟨[], F, rfl, ⟨v, σ', f, F, rfl, rfl, r, h'⟩⟩
    | succ i =>
      cases o with
      | none =>
        obtain ⟨o', σ', rfl, h⟩ := h
        obtain ⟨F1, F3, rfl, h'⟩ := ih h (by simpa using hi) (by simpa using e)
        exact ⟨F1, F3, rfl, ⟨o', σ', rfl, h'⟩⟩
      | some d0 =>
        obtain ⟨v0, σ', f0, g0, rfl, rfl, h1, h2⟩ := h
        obtain ⟨F1, F3, rfl, h'⟩ := ih h2 (by simpa using hi) (by simpa using e)
        exact ⟨f0 ++ F1, F3, by simp, ⟨v0, σ', f0, F1 ++ (f ++ F3), rfl, by simp, h1, h'⟩⟩
/-- the value of a slot of which nothing is known -/
theorem EnvR.other {i : Nat} {o : Option V} (h : EnvR K H (ρ.set i none) σ F) : EnvR K H (ρ.set i none) (σ.set i o) F := by
  induction ρ generalizing σ F i with
  | nil => obtain ⟨rfl, rfl⟩ := h; exact ⟨rfl, rfl⟩
  | cons p ρ ih =>
    cases i with
    | zero => obtain ⟨o', σ', rfl, h'⟩ := h; exact ⟨o, σ', rfl, h'⟩
    | succ i =>
      cases p with
      | none => obtain ⟨o', σ', rfl, h⟩ := h; exact ⟨o', σ'.set i o, rfl, ih h⟩
      | some d0 => obtain ⟨v0, σ', f0, g0, rfl, rfl, h1, h2⟩ := h; exact ⟨v0, σ'.set i o, f0, g0, rfl, rfl, h1, ih h2⟩
end
end DL
/-! Expressions, tests, argument lists as partial functions of a frame. -/
namespace DL
open PySem PySem.Spec L2
/-- what an expression tells: a thing of its own, or what stands in a slot -/
inductive R where
  | val (d : D) | var (i : Nat)
def slot (ρ : Fm) (i : Nat) : Option D := match ρ[i]? with
  | some (some d) => some d
  | _ => none
def cont (ρ : Fm) : R → Option D
  | .val d => some d
  | .var i => slot ρ i
/-- it is kept somewhere else from now on: what may be changed is the slot's no more -/
def take1 (ρ : Fm) : R → Option (D × Fm)
  | .val d => some (d, ρ)
  | .var i => (slot ρ i).map fun d => (d, if imm d then ρ else ρ.set i none)
def RepR (K : PySem.W.Frag) (H : Hp) (σ : L2.St) : R → V → List Addr → Prop
  | .val d, v, g => Rep K H d v g
  | .var i, v, g => σ[i]? = some (some v) ∧ g = []
def RepRs (K : PySem.W.Frag) (H : Hp) (σ : L2.St) : List R → List V → List Addr → Prop
  | [], vs, g => vs = [] ∧ g = []
  | r :: rs, vs, g => ∃ v vs' g1 g2, vs = v :: vs' ∧ g = g1 ++ g2 ∧ RepR K H σ r v g1 ∧ RepRs K H σ rs vs' g2
def conts (ρ : Fm) : List R → Option (List D)
  | [] => some []
  | r :: rs => (cont ρ r).bind fun d => (conts ρ rs).map fun ds => d :: ds
def takes (ρ : Fm) : List R → Option (List D × Fm)
  | [] => some ([], ρ)
  | r :: rs => (take1 ρ r).bind fun (d, ρ1) => (takes ρ1 rs).map fun (ds, ρ2) => (d :: ds, ρ2)
section
variable {K : PySem.W.Frag} {H H' H2 : Hp} {F F' F2 G f g h : List Addr} {ρ ρ' : Fm} {σ : L2.St}
theorem nodup3 {a b : List Addr} (h : (a ++ b).Nodup) : a.Nodup ∧ b.Nodup ∧ ∀ x ∈ a, x ∉ b := by
  obtain ⟨h1, h2, h3⟩ := List.nodup_append.mp h
  exact ⟨h1, h2, fun x hx hy => h3 x hx x hy rfl⟩
theorem nodup_of {a b : List Addr} (h1 : a.Nodup) (h2 : b.Nodup) (h3 : ∀ x ∈ a, x ∉ b) : (a ++ b).Nodup :=
  List.nodup_append.mpr ⟨h1, h2, fun x hx y hy e => h3 x hx (e ▸ hy)⟩
theorem nodup_mid {a b c : List Addr} (h : (a ++ (b ++ c)).Nodup) : (b ++ (a ++ c)).Nodup := by
  obtain ⟨h1, h2, h3⟩ := nodup3 h
  obtain ⟨h4, h5, h6⟩ := nodup3 h2
  refine nodup_of h4 (nodup_of h1 h5 fun x hx hy => h3 x hx (List.mem_append_right _ hy)) fun x hx hy => ?_
  rcases List.mem_append.mp hy with hy | hy
  · exact h3 x hy (List.mem_append_left _ hx)
  · exact h6 x hx hy
theorem slot_some {i : Nat} {d : D} (e : slot ρ i = some d) : ρ[i]? = some (some d) := by
  unfold slot at e
  split at e
  · rename_i x q; cases e; exact q
  · cases e
theorem slot_lt {i : Nat} {d : D} (e : slot ρ i = some d) : i < ρ.length := (List.getElem?_eq_some_iff.mp (slot_some e)).1
theorem RepR.mut {r : R} {v : V} (h : RepR K H σ r v g) : ∀ a ∈ g, MutO (H a) := by
  cases r with
  | val d => exact Rep.mut _ _ _ h
  | var i => rw [h.2]; intro a ha; cases ha
theorem RepR.keep {r : R} {v : V} (h : RepR K H σ r v g) (k : Keep H g H') : RepR K H' σ r v g := by
  cases r with
  | val d => exact Rep.keep _ _ _ h k
  | var i => exact h
theorem RepRs.mut : ∀ {rs : List R} {vs : List V} {g : List Addr}, RepRs K H σ rs vs g → ∀ a ∈ g, MutO (H a)
  | [], vs, g, h => by rw [h.2]; intro a ha; cases ha
  | r :: rs, vs, g, h => by
    obtain ⟨v, vs', g1, g2, rfl, rfl, h1, h2⟩ := h
    intro a ha
    rcases List.mem_append.mp ha with ha | ha
    · exact h1.mut a ha
    · exact RepRs.mut h2 a ha
theorem RepRs.keep : ∀ {rs : List R} {vs : List V} {g : List Addr}, RepRs K H σ rs vs g → Keep H g H' → RepRs K H' σ rs vs g
  | [], vs, g, h, k => h
  | r :: rs, vs, g, h, k => by
    obtain ⟨v, vs', g1, g2, rfl, rfl, h1, h2⟩ := h
    exact ⟨v, vs', g1, g2, rfl, rfl, h1.keep (k.sub fun a ha => List.mem_append_left _ ha), RepRs.keep h2 (k.sub fun a ha => List.mem_append_right _ ha)⟩
/-- what is there now -/
theorem RepR.cont {r : R} {v : V} {d : D} (h : RepR K H σ r v g) (E : EnvR K H ρ σ F) (e : cont ρ r = some d) : ∃ p, Rep K H d v p ∧ ∀ a ∈ p, a ∈ g ++ F := by
  cases r with
  | val d' => cases e; exact ⟨g, h, fun a ha => List.mem_append_left _ ha⟩
  | var i =>
    obtain ⟨w, F1, f, F3, e1, rfl, r1, _⟩ := E.at (slot_some e)
    obtain ⟨h1, rfl⟩ := h
    rw [e1] at h1
    cases h1
    exact ⟨f, r1, fun a ha => by simp [ha]⟩
theorem RepRs.conts : ∀ {rs : List R} {vs : List V} {g : List Addr} {ds : List D}, RepRs K H σ rs vs g → EnvR K H ρ σ F → DL.conts ρ rs = some ds →
    vs.length = ds.length ∧ ∀ (i : Nat) (d : D) (v : V), ds[i]? = some d → vs[i]? = some v → ∃ p, Rep K H d v p ∧ ∀ a ∈ p, a ∈ g ++ F
  | [], vs, g, ds, h, E, e => by cases e; rw [h.1]; exact ⟨rfl, fun i d v e => by simp at e⟩
  | r :: rs, vs, g, ds, h, E, e => by
    obtain ⟨v, vs', g1, g2, rfl, rfl, h1, h2⟩ := h
    unfold DL.conts at e
    obtain ⟨d, ed, e⟩ := Option.bind_eq_some_iff.mp e
    obtain ⟨ds', es, e⟩ := Option.map_eq_some_iff.mp e
    subst e
    obtain ⟨hl, hi⟩ := RepRs.conts h2 E es
    refine ⟨by simp [hl], fun i d' v' e1 e2 => ?_⟩
    cases i with
    | zero =>
      simp at e1 e2
      subst e1; subst e2
      obtain ⟨p, r1, r2⟩ := h1.cont E ed
      exact ⟨p, r1, fun a ha => by have := r2 a ha; simp at this ⊢; rcases this with z | z <;> simp [z]⟩
    | succ i =>
      obtain ⟨p, r1, r2⟩ := hi i d' v' (by simpa using e1) (by simpa using e2)
      exact ⟨p, r1, fun a ha => by have := r2 a ha; simp at this ⊢; rcases this with z | z <;> simp [z]⟩
theorem RepR.take {r : R} {v : V} {d : D} (h : RepR K H σ r v g) (E : EnvR K H ρ σ F) (nd : (g ++ F).Nodup) (e : take1 ρ r = some (d, ρ')) :
    ∃ p F', Rep K H d v p ∧ EnvR K H ρ' σ F' ∧ (p ++ F').Nodup ∧ ∀ a, a ∈ p ++ F' → a ∈ g ++ F := by
  cases r with
  | val d' => cases e; exact ⟨g, F, h, E, nd, fun a ha => ha⟩
  | var i =>
    obtain ⟨d', es, e3⟩ := Option.map_eq_some_iff.mp (show (slot ρ i).map (fun d => (d, if DL.imm d then ρ else ρ.set i none)) = some (d, ρ') from e)
    obtain ⟨w, F1, f, F3, e1, rfl, r1, E1⟩ := E.at (slot_some es)
    obtain ⟨h1, rfl⟩ := h
    rw [e1] at h1
    cases h1
    simp only [Prod.mk.injEq] at e3
    obtain ⟨rfl, e3⟩ := e3
    by_cases hi : DL.imm d' = true
    · rw [if_pos hi] at e3
      subst e3
      have := Rep.imm _ _ _ r1 hi
      subst this
      exact ⟨[], F1 ++ ([] ++ F3), r1, E, nd, fun a ha => ha⟩
    · rw [if_neg hi] at e3
      subst e3
      exact ⟨f, F1 ++ F3, r1, E1, nodup_mid (by simpa using nd), fun a ha => by simp at ha ⊢; rcases ha with z | z | z <;> simp [z]⟩
theorem RepRs.takes : ∀ {rs : List R} {vs : List V} {g F : List Addr} {ds : List D} {ρ : Fm}, RepRs K H σ rs vs g → EnvR K H ρ σ F → (g ++ F).Nodup → DL.takes ρ rs = some (ds, ρ') →
    ∃ p F', RepL K H ds vs p ∧ EnvR K H ρ' σ F' ∧ (p ++ F').Nodup ∧ ∀ a, a ∈ p ++ F' → a ∈ g ++ F
  | [], vs, g, F, ds, ρ, h, E, nd, e => by cases e; obtain ⟨rfl, rfl⟩ := h; exact ⟨[], F, ⟨rfl, rfl⟩, E, nd, fun a ha => ha⟩
  | r :: rs, vs, g, F, ds, ρ, h, E, nd, e => by
    obtain ⟨v, vs', g1, g2, rfl, rfl, h1, h2⟩ := h
    unfold DL.takes at e
    obtain ⟨⟨d, ρ1⟩, ed, e⟩ := Option.bind_eq_some_iff.mp e
    obtain ⟨⟨ds', ρ2⟩, es, e⟩ := Option.map_eq_some_iff.mp e
    cases e
    obtain ⟨n1, n2, n3⟩ := nodup3 nd
    obtain ⟨n4, n5, n6⟩ := nodup3 n1
    have nd1 : (g1 ++ F).Nodup := nodup_of n4 n2 fun x hx => n3 x (List.mem_append_left _ hx)
    obtain ⟨p, F1, r1, E1, nd2, s1⟩ := h1.take E nd1 ed
    obtain ⟨m1, m2, m3⟩ := nodup3 nd2
    have s1' : ∀ a ∈ g2, a ∉ p ++ F1 := fun a ha q => by
      rcases List.mem_append.mp (s1 a q) with z | z
      · exact n6 a z ha
      · exact n3 a (List.mem_append_right _ ha) z
    have nd3 : (g2 ++ F1).Nodup := nodup_of n5 m2 fun x hx hy => s1' x hx (List.mem_append_right _ hy)
    obtain ⟨q, F2, r2, E2, nd4, s2⟩ := RepRs.takes h2 E1 nd3 es
    refine ⟨p ++ q, F2, ⟨v, vs', p, q, rfl, rfl, r1, r2⟩, E2, ?_, fun a ha => ?_⟩
    · rw [List.append_assoc]
      refine nodup_of m1 nd4 fun x hx hy => ?_
      rcases List.mem_append.mp (s2 x hy) with z | z
      · exact s1' x z (List.mem_append_left _ hx)
      · exact m3 x hx z
    · have key : ∀ b, b ∈ p ++ F1 → b ∈ g1 ++ (g2 ++ F) := fun b hb => by have := s1 b hb; simp at this ⊢; rcases this with z | z <;> simp [z]
      rw [List.append_assoc] at ha ⊢
      rcases List.mem_append.mp ha with ha | ha
      · exact key a (List.mem_append_left _ ha)
      · rcases List.mem_append.mp (s2 a ha) with z | z
        · simp [z]
        · exact key a (List.mem_append_right _ z)
/-- fresh things, all else as it was -/
theorem Step.fresh (S : Step H F H2 G) (sm : Same H2 H') (fr : ∀ a ∈ h, H2 a = none) (sub : ∀ a ∈ F2, a ∈ G) : Step H F H' (h ++ F2) := fun p u e n => by
  obtain ⟨e1, n1⟩ := S p u e n
  refine ⟨sm p u e1, fun q => ?_⟩
  rcases List.mem_append.mp q with q | q
  · rw [fr p q] at e1; cases e1
  · exact n1 (sub p q)
theorem nodup_fresh (E : EnvR K H2 ρ σ F2) (nd : F2.Nodup) (nh : h.Nodup) (fr : ∀ a ∈ h, H2 a = none) : (h ++ F2).Nodup := nodup_of nh nd fun x hx hy => by
  obtain ⟨u, e⟩ := (E.mut x hy).some_
  rw [fr x hx] at e
  cases e
theorem Same.keep {l : List Addr} (s : Same H H') : Keep H l H' := fun a u e _ => s a u e
end
/-! ### the judgements -/
abbrev FE := Fm → Option (R × Fm)
abbrev FT := Fm → Option (Bool × Fm)
abbrev FA := Fm → Option (List R × Fm)
def rdE (K : PySem.W.Frag) (f : FE) : TE := fun σ H Q => ∃ ρ F r ρ', EnvR K H ρ σ F ∧ F.Nodup ∧ f ρ = some (r, ρ') ∧
  ∀ v H' g F', RepR K H' σ r v g → EnvR K H' ρ' σ F' → (g ++ F').Nodup → Step H F H' (g ++ F') → Q v H'
def rdT (K : PySem.W.Frag) (f : FT) : TT := fun σ H Q => ∃ ρ F b ρ', EnvR K H ρ σ F ∧ F.Nodup ∧ f ρ = some (b, ρ') ∧
  ∀ H' F', EnvR K H' ρ' σ F' → F'.Nodup → Step H F H' F' → Q b H'
def rdA (K : PySem.W.Frag) (f : FA) : TA := fun σ H Q => ∃ ρ F rs ρ', EnvR K H ρ σ F ∧ F.Nodup ∧ f ρ = some (rs, ρ') ∧
  ∀ vs H' g F', RepRs K H' σ rs vs g → EnvR K H' ρ' σ F' → (g ++ F').Nodup → Step H F H' (g ++ F') → Q vs H'
structure DE (X : Cx) (e : Expr) (f : FE) : Prop where
  pe : PE X e (rdE X.K f)
structure DT (X : Cx) (e : Expr) (f : FT) : Prop where
  pt : PT X e (rdT X.K f)
structure DW (X : Cx) (e : Expr) (f : FT) : Prop where
  pw : PW X e (rdT X.K f)
structure DA (X : Cx) (es : List Expr) (f : FA) : Prop where
  pa : PA X es (rdA X.K f)
theorem pe_weak {X : Cx} {e : Expr} {t t' : TE} (h : PE X e t) (w : ∀ σ H Q, t' σ H Q → t σ H Q) : PE X e t' := ⟨fun pins s σ H Q I q => h.run pins s σ H Q I (w _ _ _ q)⟩
theorem pt_weak {X : Cx} {e : Expr} {t t' : TT} (h : PT X e t) (w : ∀ σ H Q, t' σ H Q → t σ H Q) : PT X e t' := ⟨fun pins s σ H Q I q => h.run pins s σ H Q I (w _ _ _ q)⟩
theorem pw_weak {X : Cx} {e : Expr} {t t' : TT} (h : PW X e t) (w : ∀ σ H Q, t' σ H Q → t σ H Q) : PW X e t' := ⟨fun wh pins s σ H Q I q => h.run wh pins s σ H Q I (w _ _ _ q)⟩
theorem pa_weak {X : Cx} {es : List Expr} {t t' : TA} (h : PA X es t) (w : ∀ σ H Q, t' σ H Q → t σ H Q) : PA X es t' := ⟨fun pos pins s σ H Q I q => h.run pos pins s σ H Q I (w _ _ _ q)⟩
theorem ps_weak {X : Cx} {st : Stmt} {t t' : TS} (h : PS X st t) (w : ∀ D σ H, t' D σ H → t D σ H) : PS X st t' := ⟨fun pins s σ H D I q => h.run pins s σ H D I (w _ _ _ q)⟩
theorem pss_weak {X : Cx} {st : List Stmt} {t t' : TS} (h : PSs X st t) (w : ∀ D σ H, t' D σ H → t D σ H) : PSs X st t' := ⟨fun pins s σ H D I q => h.run pins s σ H D I (w _ _ _ q)⟩
section
variable {K : PySem.W.Frag} {H : Hp} {F : List Addr} {ρ ρ1 ρ2 : Fm} {σ : L2.St} {fa fb : FE} {x y : R}
/-- one after another -/
theorem two (E : EnvR K H ρ σ F) (nd : F.Nodup) (ea : fa ρ = some (x, ρ1)) (eb : fb ρ1 = some (y, ρ2)) {T : V → V → Hp → Prop}
    (k : ∀ v w H2 gx gy F2, RepR K H2 σ x v gx → RepR K H2 σ y w gy → EnvR K H2 ρ2 σ F2 → (gx ++ (gy ++ F2)).Nodup → Step H F H2 (gx ++ (gy ++ F2)) → T v w H2) :
    rdE K fa σ H fun v H1 => rdE K fb σ H1 fun w H2 => T v w H2 := by
  refine ⟨ρ, F, x, ρ1, E, nd, ea, fun v H1 g F1 r1 E1 N1 S1 => ⟨ρ1, F1, y, ρ2, E1, (nodup3 N1).2.1, eb, fun w H2 g2 F2 r2 E2 N2 S2 => ?_⟩⟩
  obtain ⟨n1, n2, n3⟩ := nodup3 N1
  refine k v w H2 g g2 F2 (r1.keep (S2.keep E1.mut n3)) r2 E2 (nodup_of n1 N2 (S2.apart r1.mut n3)) fun p u e n => ?_
  obtain ⟨e1, q1⟩ := S1 p u e n
  obtain ⟨e2, q2⟩ := S2 p u e1 fun z => q1 (List.mem_append_right _ z)
  exact ⟨e2, fun z => (List.mem_append.mp z).elim (fun z => q1 (List.mem_append_left _ z)) q2⟩
/-- an expression, then arguments -/
theorem oneA {fr : FA} {rs : List R} (E : EnvR K H ρ σ F) (nd : F.Nodup) (ea : fa ρ = some (x, ρ1)) (eb : fr ρ1 = some (rs, ρ2)) {T : V → List V → Hp → Prop}
    (k : ∀ v ws H2 gx gy F2, RepR K H2 σ x v gx → RepRs K H2 σ rs ws gy → EnvR K H2 ρ2 σ F2 → (gx ++ (gy ++ F2)).Nodup → Step H F H2 (gx ++ (gy ++ F2)) → T v ws H2) :
    rdE K fa σ H fun v H1 => rdA K fr σ H1 fun ws H2 => T v ws H2 := by
  refine ⟨ρ, F, x, ρ1, E, nd, ea, fun v H1 g F1 r1 E1 N1 S1 => ⟨ρ1, F1, rs, ρ2, E1, (nodup3 N1).2.1, eb, fun w H2 g2 F2 r2 E2 N2 S2 => ?_⟩⟩
  obtain ⟨n1, n2, n3⟩ := nodup3 N1
  refine k v w H2 g g2 F2 (r1.keep (S2.keep E1.mut n3)) r2 E2 (nodup_of n1 N2 (S2.apart r1.mut n3)) fun p u e n => ?_
  obtain ⟨e1, q1⟩ := S1 p u e n
  obtain ⟨e2, q2⟩ := S2 p u e1 fun z => q1 (List.mem_append_right _ z)
  exact ⟨e2, fun z => (List.mem_append.mp z).elim (fun z => q1 (List.mem_append_left _ z)) q2⟩
end
/-! ### names, constants -/
def fVar (i : Nat) : FE := fun ρ => match slot ρ i with
  | some _ => some (.var i, ρ)
  | none => none
def fC (d : D) : FE := fun ρ => some (.val d, ρ)
section
variable {X : Cx} {e a b c : Expr} {es : List Expr} {pos : Pos} {fa fb fc : FE} {ft fu : FT}
theorem de_var {i : Nat} (h : PE X e (tVar i)) : DE X e (fVar i) := ⟨pe_weak h fun σ H Q ⟨ρ, F, r, ρ', E, nd, ef, k⟩ => by
  unfold fVar at ef
  split at ef
  · rename_i d es
    cases ef
    obtain ⟨v, F1, f, F3, e1, _⟩ := E.at (slot_some es)
    exact ⟨v, e1, k v H [] F ⟨e1, rfl⟩ E nd Step.refl⟩
  · cases ef⟩
theorem de_c {v : V} {d : D} (h : PE X e (tC v)) (r : ∀ K H, Rep K H d v []) : DE X e (fC d) := ⟨pe_weak h fun σ H Q ⟨ρ, F, x, ρ', E, nd, ef, k⟩ => by
  cases ef
  exact k v H [] F (r _ _) E nd Step.refl⟩
theorem de_int {i : Int} {j} : DE X (.Constant (.int i) j pos) (fC (.int i)) := de_c pe_int fun _ _ => ⟨rfl, rfl⟩
theorem de_bl {k : Bool} {j} : DE X (.Constant (.bool k) j pos) (fC (.bl k)) := de_c pe_bl fun _ _ => ⟨rfl, rfl⟩
theorem de_str {x : Str} {j} : DE X (.Constant (.str x) j pos) (fC (.str x)) := de_c pe_str fun _ _ => ⟨rfl, rfl⟩
/-! ### operators -/
/-- what a rule on values does to data: something new, or nothing of its own -/
def Op2 (K : PySem.W.Frag) (r : R2) (g : D → D → Option D) : Prop := ∀ (H : Hp) (x y : D) (v w : V) (p q : List Addr) (z : D) (Q : VK), Rep K H x v p → Rep K H y w q → g x y = some z →
  (∀ u H' h, Rep K H' z u h → h.Nodup → (∀ a ∈ h, H a = none) → Same H H' → Q u H') → r v w H Q
def fOp (g : D → D → Option D) (fa fb : FE) : FE := fun ρ =>
  (fa ρ).bind fun (x, ρ1) => (fb ρ1).bind fun (y, ρ2) => (cont ρ2 x).bind fun dx => (cont ρ2 y).bind fun dy => (g dx dy).map fun z => (.val z, ρ2)
theorem fOp_some {g : D → D → Option D} {ρ ρ' : Fm} {r : R} (e : fOp g fa fb ρ = some (r, ρ')) : ∃ x ρ1 y dx dy z, fa ρ = some (x, ρ1) ∧ fb ρ1 = some (y, ρ') ∧ cont ρ' x = some dx ∧ cont ρ' y = some dy ∧ g dx dy = some z ∧ r = .val z := by
  unfold fOp at e
  obtain ⟨⟨x, ρ1⟩, e1, e⟩ := Option.bind_eq_some_iff.mp e
  obtain ⟨⟨y, ρ2⟩, e2, e⟩ := Option.bind_eq_some_iff.mp e
  obtain ⟨dx, e3, e⟩ := Option.bind_eq_some_iff.mp e
  obtain ⟨dy, e4, e⟩ := Option.bind_eq_some_iff.mp e
  obtain ⟨z, e5, e⟩ := Option.map_eq_some_iff.mp e
  cases e
  exact ⟨x, ρ1, y, dx, dy, z, e1, e2, e3, e4, e5, rfl⟩
theorem tOp_of {r : R2} {g : D → D → Option D} {K : PySem.W.Frag} (hg : Op2 K r g) {σ : L2.St} {H : Hp} {Q : VK} (h : rdE K (fOp g fa fb) σ H Q) : tOp r (rdE K fa) (rdE K fb) σ H Q := by
  obtain ⟨ρ, F, x0, ρ2, E, nd, ef, k⟩ := h
  obtain ⟨x, ρ1, y, dx, dy, z, e1, e2, e3, e4, e5, rfl⟩ := fOp_some ef
  refine two E nd e1 e2 fun v w H2 gx gy F2 r1 r2 E2 N2 S2 => ?_
  obtain ⟨p, q1, _⟩ := r1.cont E2 e3
  obtain ⟨q, q2, _⟩ := r2.cont E2 e4
  obtain ⟨_, N3, _⟩ := nodup3 N2
  refine hg H2 dx dy v w p q z Q q1 q2 e5 fun u H' h ru nh fr sm => ?_
  exact k u H' h F2 ru (E2.keep (Same.keep sm)) (nodup_fresh E2 (nodup3 N3).2.1 nh fr) (S2.fresh sm fr fun a ha => by simp [ha])
theorem de_op {op : Operator} {r : R2} {g : D → D → Option D} (ho : OpR X (binaryOp op) r) (hg : Op2 X.K r g) (ha : DE X a fa) (hb : DE X b fb) : DE X (.BinOp a op b pos) (fOp g fa fb) :=
  ⟨pe_weak (pe_op ho ha.pe hb.pe) fun σ H Q h => tOp_of hg h⟩
theorem de_cmp {op : CmpOp} {r : R2} {g : D → D → Option D} (ho : OpR X (compareOp op) r) (hg : Op2 X.K r g) (ha : DE X a fa) (hb : DE X b fb) (hm : behindInMarks op b = false) : DE X (.Compare a [op] [b] pos) (fOp g fa fb) :=
  ⟨pe_weak (pe_cmpR ho ha.pe hb.pe hm) fun σ H Q h => tOp_of hg h⟩
/-- as a test -/
def fTest (f : FE) : FT := fun ρ => (f ρ).bind fun (x, ρ1) => (cont ρ1 x).bind fun d => match d with
  | .bl k => some (k, ρ1)
  | _ => none
theorem fTest_some {ρ ρ' : Fm} {k : Bool} (e : fTest fa ρ = some (k, ρ')) : ∃ x, fa ρ = some (x, ρ') ∧ cont ρ' x = some (.bl k) := by
  unfold fTest at e
  obtain ⟨⟨x, ρ1⟩, e1, e⟩ := Option.bind_eq_some_iff.mp e
  obtain ⟨d, e2, e⟩ := Option.bind_eq_some_iff.mp e
  cases d <;> cases e
  exact ⟨x, e1, e2⟩
theorem tTest_of {K : PySem.W.Frag} {t : TE} {f : FE} (ht : ∀ σ H Q, rdE K f σ H Q → t σ H Q) {σ : L2.St} {H : Hp} {Q : Bool → Hp → Prop} (h : rdT K (fTest f) σ H Q) : t σ H fun x H' => ∃ k, x = .bl k ∧ Q k H' := by
  obtain ⟨ρ, F, k0, ρ2, E, nd, ef, k⟩ := h
  obtain ⟨x, e1, e2⟩ := fTest_some ef
  refine ht _ _ _ ⟨ρ, F, x, ρ2, E, nd, e1, fun v H' g F' r1 E1 N1 S1 => ?_⟩
  obtain ⟨p, q1, _⟩ := r1.cont E1 e2
  exact ⟨k0, q1.1, k H' F' E1 (nodup3 N1).2.1 (S1.to fun a ha => .inl (List.mem_append_right _ ha))⟩
theorem dt_cmp {op : CmpOp} {r : R2} {g : D → D → Option D} (ho : OpR X (compareOp op) r) (hg : Op2 X.K r g) (ha : DE X a fa) (hb : DE X b fb) (hm : behindInMarks op b = false) : DT X (.Compare a [op] [b] pos) (fTest (fOp g fa fb)) :=
  ⟨pt_weak (pt_cmpR ho ha.pe hb.pe hm) fun σ H Q h => tTest_of (fun _ _ _ q => tOp_of hg q) h⟩
/-! ### and, or, not -/
def fAnd (f g : FT) : FT := fun ρ => (f ρ).bind fun (k, ρ1) => if k then g ρ1 else some (false, ρ1)
def fOr (f g : FT) : FT := fun ρ => (f ρ).bind fun (k, ρ1) => if k then some (true, ρ1) else g ρ1
def fNot (f : FT) : FT := fun ρ => (f ρ).map fun (k, ρ1) => (!k, ρ1)
def fBl (f : FT) : FE := fun ρ => (f ρ).map fun (k, ρ1) => (.val (.bl k), ρ1)
theorem tAnd_of {K : PySem.W.Frag} {σ : L2.St} {H : Hp} {Q : Bool → Hp → Prop} (h : rdT K (fAnd ft fu) σ H Q) : tAnd (rdT K ft) (rdT K fu) σ H Q := by
  obtain ⟨ρ, F, k0, ρ2, E, nd, ef, k⟩ := h
  obtain ⟨⟨k1, ρ1⟩, e1, e⟩ := Option.bind_eq_some_iff.mp ef
  refine ⟨ρ, F, k1, ρ1, E, nd, e1, fun H' F' E1 N1 S1 => ?_⟩
  cases k1 with
  | true =>
    rw [if_pos rfl]
    exact ⟨ρ1, F', k0, ρ2, E1, N1, e, fun H2 F2 E2 N2 S2 => k H2 F2 E2 N2 (S1.trans S2)⟩
  | false =>
    cases e
    rw [if_neg Bool.false_ne_true]
    exact k H' F' E1 N1 S1
theorem tOr_of {K : PySem.W.Frag} {σ : L2.St} {H : Hp} {Q : Bool → Hp → Prop} (h : rdT K (fOr ft fu) σ H Q) : tOr (rdT K ft) (rdT K fu) σ H Q := by
  obtain ⟨ρ, F, k0, ρ2, E, nd, ef, k⟩ := h
  obtain ⟨⟨k1, ρ1⟩, e1, e⟩ := Option.bind_eq_some_iff.mp ef
  refine ⟨ρ, F, k1, ρ1, E, nd, e1, fun H' F' E1 N1 S1 => ?_⟩
  cases k1 with
  | false =>
    rw [if_neg Bool.false_ne_true]
    exact ⟨ρ1, F', k0, ρ2, E1, N1, e, fun H2 F2 E2 N2 S2 => k H2 F2 E2 N2 (S1.trans S2)⟩
  | true =>
    cases e
    rw [if_pos rfl]
    exact k H' F' E1 N1 S1
theorem dw_and1 (ha : DT X a ft) : DW X (.BoolOp .And [a] pos) ft := ⟨pw_and1 ha.pt⟩
theorem dw_or1 (ha : DT X a ft) : DW X (.BoolOp .Or [a] pos) ft := ⟨pw_or1 ha.pt⟩
theorem dw_and (ha : DT X a ft) (hb : DW X (.BoolOp .And (b :: es) pos) fu) : DW X (.BoolOp .And (a :: b :: es) pos) (fAnd ft fu) := ⟨pw_weak (pw_and ha.pt hb.pw) fun _ _ _ h => tAnd_of h⟩
theorem dw_or (ha : DT X a ft) (hb : DW X (.BoolOp .Or (b :: es) pos) fu) : DW X (.BoolOp .Or (a :: b :: es) pos) (fOr ft fu) := ⟨pw_weak (pw_or ha.pt hb.pw) fun _ _ _ h => tOr_of h⟩
theorem DW.dt (h : DW X a ft) : DT X a ft := ⟨PW.pt h.pw⟩
/-- as values -/
theorem de_one {op} (h : DE X a fa) : DE X (.BoolOp op [a] pos) fa := ⟨pe_one h.pe⟩
theorem de_and (ha : DE X a fa) (hb : DE X (.BoolOp .And (b :: es) pos) fb) : DE X (.BoolOp .And (a :: b :: es) pos) (fBl (fAnd (fTest fa) (fTest fb))) :=
  ⟨pe_weak (pe_and ha.pe hb.pe) fun σ H Q ⟨ρ, F, r, ρ2, E, nd, ef, k⟩ => by
    obtain ⟨⟨k0, ρ3⟩, ef, e⟩ := Option.map_eq_some_iff.mp ef
    cases e
    obtain ⟨⟨k1, ρ1⟩, e1, e⟩ := Option.bind_eq_some_iff.mp ef
    obtain ⟨x, e2, e3⟩ := fTest_some e1
    refine ⟨ρ, F, x, ρ1, E, nd, e2, fun v H' g F' r1 E1 N1 S1 => ?_⟩
    obtain ⟨p, q1, _⟩ := r1.cont E1 e3
    have S1' := S1.to (F2 := F') fun a ha => .inl (List.mem_append_right _ ha)
    refine ⟨k1, q1.1, ?_⟩
    cases k1 with
    | true =>
      rw [if_pos rfl]
      obtain ⟨y, e4, e5⟩ := fTest_some e
      refine ⟨ρ1, F', y, ρ2, E1, (nodup3 N1).2.1, e4, fun w H2 g2 F2 r2 E2 N2 S2 => ?_⟩
      obtain ⟨p2, q2, _⟩ := r2.cont E2 e5
      rw [q2.1]
      exact k _ H2 [] F2 ⟨rfl, rfl⟩ E2 (nodup3 N2).2.1 (S1'.trans (S2.to fun a ha => .inl (List.mem_append_right _ ha)))
    | false =>
      cases e
      rw [if_neg Bool.false_ne_true]
      exact k _ H' [] F' ⟨rfl, rfl⟩ E1 (nodup3 N1).2.1 S1'⟩
theorem de_or (ha : DE X a fa) (hb : DE X (.BoolOp .Or (b :: es) pos) fb) : DE X (.BoolOp .Or (a :: b :: es) pos) (fBl (fOr (fTest fa) (fTest fb))) :=
  ⟨pe_weak (pe_or ha.pe hb.pe) fun σ H Q ⟨ρ, F, r, ρ2, E, nd, ef, k⟩ => by
    obtain ⟨⟨k0, ρ3⟩, ef, e⟩ := Option.map_eq_some_iff.mp ef
    cases e
    obtain ⟨⟨k1, ρ1⟩, e1, e⟩ := Option.bind_eq_some_iff.mp ef
    obtain ⟨x, e2, e3⟩ := fTest_some e1
    refine ⟨ρ, F, x, ρ1, E, nd, e2, fun v H' g F' r1 E1 N1 S1 => ?_⟩
    obtain ⟨p, q1, _⟩ := r1.cont E1 e3
    have S1' := S1.to (F2 := F') fun a ha => .inl (List.mem_append_right _ ha)
    refine ⟨k1, q1.1, ?_⟩
    cases k1 with
    | false =>
      rw [if_neg Bool.false_ne_true]
      obtain ⟨y, e4, e5⟩ := fTest_some e
      refine ⟨ρ1, F', y, ρ2, E1, (nodup3 N1).2.1, e4, fun w H2 g2 F2 r2 E2 N2 S2 => ?_⟩
      obtain ⟨p2, q2, _⟩ := r2.cont E2 e5
      rw [q2.1]
      exact k _ H2 [] F2 ⟨rfl, rfl⟩ E2 (nodup3 N2).2.1 (S1'.trans (S2.to fun a ha => .inl (List.mem_append_right _ ha)))
    | true =>
      cases e
      rw [if_pos rfl]
      exact k _ H' [] F' ⟨rfl, rfl⟩ E1 (nodup3 N1).2.1 S1'⟩
theorem de_not (ha : DE X a fa) : DE X (.UnaryOp .Not a pos) (fBl (fNot (fTest fa))) := ⟨pe_weak (pe_not ha.pe) fun σ H Q ⟨ρ, F, r, ρ2, E, nd, ef, k⟩ => by
  obtain ⟨⟨k0, ρ3⟩, ef, e⟩ := Option.map_eq_some_iff.mp ef
  cases e
  obtain ⟨⟨k1, ρ1⟩, e1, e⟩ := Option.map_eq_some_iff.mp ef
  cases e
  obtain ⟨x, e2, e3⟩ := fTest_some e1
  refine ⟨ρ, F, x, ρ2, E, nd, e2, fun v H' g F' r1 E1 N1 S1 => ?_⟩
  obtain ⟨p, q1, _⟩ := r1.cont E1 e3
  exact ⟨k1, q1.1, k _ H' [] F' ⟨rfl, rfl⟩ E1 (nodup3 N1).2.1 (S1.to fun a ha => .inl (List.mem_append_right _ ha))⟩⟩
/-- a if t else b -/
def fIf (f : FT) (fa fb : FE) : FE := fun ρ => (f ρ).bind fun (k, ρ1) => if k then fa ρ1 else fb ρ1
theorem de_ifx (hc : DT X c ft) (ha : DE X a fa) (hb : DE X b fb) : DE X (.IfExp c a b pos) (fIf ft fa fb) := ⟨pe_weak (pe_ifExp hc.pt ha.pe hb.pe) fun σ H Q ⟨ρ, F, r, ρ2, E, nd, ef, k⟩ => by
  obtain ⟨⟨k1, ρ1⟩, e1, e⟩ := Option.bind_eq_some_iff.mp ef
  refine ⟨ρ, F, k1, ρ1, E, nd, e1, fun H' F' E1 N1 S1 => ?_⟩
  cases k1 with
  | true =>
    rw [if_pos rfl]
    exact ⟨ρ1, F', r, ρ2, E1, N1, e, fun v H2 g2 F2 r2 E2 N2 S2 => k v H2 g2 F2 r2 E2 N2 (S1.trans S2)⟩
  | false =>
    rw [if_neg Bool.false_ne_true]
    exact ⟨ρ1, F', r, ρ2, E1, N1, e, fun v H2 g2 F2 r2 E2 N2 S2 => k v H2 g2 F2 r2 E2 N2 (S1.trans S2)⟩⟩
/-! ### arguments, displays -/
def fNil : FA := fun ρ => some ([], ρ)
def fCons (f : FE) (fr : FA) : FA := fun ρ => (f ρ).bind fun (x, ρ1) => (fr ρ1).map fun (rs, ρ2) => (x :: rs, ρ2)
variable {fr : FA}
theorem da_nil : DA X [] fNil := ⟨pa_weak pa_nil fun σ H Q ⟨ρ, F, r, ρ2, E, nd, ef, k⟩ => by
  cases ef
  exact k [] H [] F ⟨rfl, rfl⟩ E nd Step.refl⟩
theorem da_cons (ha : DE X e fa) (hr : DA X es fr) (hs : starEach (e :: es) X.env = (false, eval e X.env) :: starEach es X.env := by rfl) : DA X (e :: es) (fCons fa fr) :=
  ⟨pa_weak (pa_cons ha.pe hr.pa hs) fun σ H Q ⟨ρ, F, r, ρ2, E, nd, ef, k⟩ => by
    obtain ⟨⟨x, ρ1⟩, e1, e⟩ := Option.bind_eq_some_iff.mp ef
    obtain ⟨⟨rs, ρ3⟩, e2, e⟩ := Option.map_eq_some_iff.mp e
    cases e
    refine oneA E nd e1 e2 fun v ws H2 gx gy F2 r1 r2 E2 N2 S2 => k (v :: ws) H2 (gx ++ gy) F2 ⟨v, ws, gx, gy, rfl, rfl, r1, r2⟩ E2 (by rw [List.append_assoc]; exact N2) (by rw [List.append_assoc]; exact S2)⟩
def fTup (fr : FA) : FE := fun ρ => (fr ρ).bind fun (rs, ρ1) => (takes ρ1 rs).bind fun (ds, ρ2) => if ds.length ≤ sizeLine then some (.val (.tup ds), ρ2) else none
def fLst (fr : FA) : FE := fun ρ => (fr ρ).bind fun (rs, ρ1) => (takes ρ1 rs).bind fun (ds, ρ2) => if ds.length ≤ sizeLine then some (.val (.lst ds), ρ2) else none
theorem upd_same_of {H : Hp} {p : Addr} {o : HO} (hp : H p = none) : Same H (upd H p o) := fun b u e => by rw [upd_ne (ne_of_none e hp)]; exact e
theorem de_tup {k : Nat} (h : DA X es fr) : DE X (.Tuple es k pos) (fTup fr) := ⟨pe_weak (pe_tupF h.pa) fun σ H Q ⟨ρ, F, r, ρ2, E, nd, ef, k⟩ => by
  obtain ⟨⟨rs, ρ1⟩, e1, e⟩ := Option.bind_eq_some_iff.mp ef
  obtain ⟨⟨ds, ρ3⟩, e2, e⟩ := Option.bind_eq_some_iff.mp e
  simp only at e
  split at e
  · rename_i hl
    cases e
    refine ⟨ρ, F, rs, ρ1, E, nd, e1, fun vs H' g F' r1 E1 N1 S1 => ?_⟩
    obtain ⟨p, F2, r2, E2, N2, s2⟩ := r1.takes E1 N1 e2
    refine ⟨by rw [r2.length]; exact hl, fun t o ht hd => ?_⟩
    have sm := upd_same_of (o := .frz o (.tup vs)) ht
    refine k _ _ p F2 ⟨t, vs, rfl, .inl ⟨o, upd_same, hd⟩, RepL.keep _ _ _ r2 (Same.keep sm)⟩ (E2.keep (Same.keep sm)) N2 fun b u eb nb => ?_
    obtain ⟨q1, q2⟩ := S1 b u eb nb
    exact ⟨sm b u q1, fun z => q2 (s2 b z)⟩
  · cases e⟩
theorem de_lst (h : DA X es fr) : DE X (.List es pos) (fLst fr) := ⟨pe_weak (pe_lst h.pa) fun σ H Q ⟨ρ, F, r, ρ2, E, nd, ef, k⟩ => by
  obtain ⟨⟨rs, ρ1⟩, e1, e⟩ := Option.bind_eq_some_iff.mp ef
  obtain ⟨⟨ds, ρ3⟩, e2, e⟩ := Option.bind_eq_some_iff.mp e
  simp only at e
  split at e
  · rename_i hl
    cases e
    refine ⟨ρ, F, rs, ρ1, E, nd, e1, fun vs H' g F' r1 E1 N1 S1 => ?_⟩
    obtain ⟨p, F2, r2, E2, N2, s2⟩ := r1.takes E1 N1 e2
    refine ⟨by rw [r2.length]; exact hl, fun t ht => ?_⟩
    have sm := upd_same_of (o := .lst vs) ht
    have nt : ∀ a ∈ p ++ F2, a ≠ t := fun a ha q => by
      obtain ⟨u, eu⟩ := (List.mem_append.mp (s2 a ha)).elim (fun z => (r1.mut a z).some_) (fun z => (E1.mut a z).some_)
      rw [q, ht] at eu
      cases eu
    refine k _ _ (t :: p) F2 ⟨t, vs, p, rfl, upd_same, rfl, RepL.keep _ _ _ r2 (Same.keep sm)⟩ (E2.keep (Same.keep sm)) (List.nodup_cons.mpr ⟨fun z => nt t z rfl, N2⟩) fun b u eb nb => ?_
    obtain ⟨q1, q2⟩ := S1 b u eb nb
    refine ⟨sm b u q1, fun z => ?_⟩
    rcases List.mem_cons.mp z with rfl | z
    · rw [ht] at q1; cases q1
    · exact q2 (s2 b z)
  · cases e⟩
end
end DL
/-! Operators on data. -/
namespace DL
open PySem PySem.Spec L2
theorem pe_or' {X : Cx} {e : Expr} {t1 t2 : TE} (h1 : PE X e t1) (h2 : PE X e t2) : PE X e (fun σ H Q => t1 σ H Q ∨ t2 σ H Q) :=
  ⟨fun pins s σ H Q I h => h.elim (h1.run pins s σ H Q I) (h2.run pins s σ H Q I)⟩
def lstOf : D → Option (List D)
  | .lst ds => some ds
  | .flst ds => some ds
  | _ => none
def seqOf : D → Option (List D)
  | .lst ds => some ds
  | .flst ds => some ds
  | .tup ds => some ds
  | _ => none
mutual
def toP : D → PyData
  | .non => .none | .bl b => .bool b | .int i => .int i | .str x => .str x
  | .tup ds => .tuple (toPL ds)
  | .lst ds => .list (toPL ds)
  | .flst ds => .list (toPL ds)
  | .dic kvs => .dict (toPK kvs)
  | .fdic kvs => .dict (toPK kvs)
  | .exc _ _ _ _ => .none
def toPL : List D → List PyData
  | [] => []
  | d :: ds => toP d :: toPL ds
def toPK : List (Key × D) → List (PyData × PyData)
  | [] => []
  | (k, d) :: r => ((match k with | .inl i => .int i | .inr x => .str x), toP d) :: toPK r
end
mutual
/-- no dict within -/
def noDic : D → Bool
  | .non => true | .bl _ => true | .int _ => true | .str _ => true
  | .tup ds => noDicL ds
  | .lst ds => noDicL ds
  | .flst ds => noDicL ds
  | .dic _ => false
  | .fdic _ => false
  | .exc _ _ _ _ => false
def noDicL : List D → Bool
  | [] => true
  | d :: ds => noDic d && noDicL ds
end
section
variable {K : PySem.W.Frag} {H : Hp}
theorem Rep.sqL {d : D} {v : V} {p : List Addr} {ds : List D} (h : Rep K H d v p) (e : lstOf d = some ds) : ∃ a vs g, v = .ref a ∧ SqL K H a vs ∧ RepL K H ds vs g ∧ ∀ b ∈ g, b ∈ p := by
  cases d with
  | lst es =>
    cases e
    obtain ⟨a, vs, g, e1, e2, rfl, r⟩ := h
    exact ⟨a, vs, g, e1, SqL.of e2, r, fun b hb => List.mem_cons_of_mem _ hb⟩
  | flst es =>
    cases e
    obtain ⟨a, vs, e1, e2, r⟩ := h
    exact ⟨a, vs, p, e1, e2.seq, r, fun b hb => hb⟩
  | _ => cases e
theorem Rep.seq {d : D} {v : V} {p : List Addr} {ds : List D} (h : Rep K H d v p) (e : seqOf d = some ds) : ∃ a vs g, v = .ref a ∧ (SqL K H a vs ∨ SqT K H a vs) ∧ RepL K H ds vs g ∧ ∀ b ∈ g, b ∈ p := by
  cases d with
  | lst es =>
    obtain ⟨a, vs, g, e1, e2, r⟩ := Rep.sqL h (show lstOf (.lst es) = some ds from e)
    exact ⟨a, vs, g, e1, .inl e2, r⟩
  | flst es =>
    obtain ⟨a, vs, g, e1, e2, r⟩ := Rep.sqL h (show lstOf (.flst es) = some ds from e)
    exact ⟨a, vs, g, e1, .inl e2, r⟩
  | tup es =>
    cases e
    obtain ⟨a, vs, e1, e2, r⟩ := h
    exact ⟨a, vs, p, e1, .inr e2.sq, r, fun b hb => hb⟩
  | _ => cases e
mutual
theorem Rep.dp : ∀ (d : D) (v : V) (p : List Addr), Rep K H d v p → noDic d = true → Dp K H v (toP d)
  | .non, v, p, h, _ => by rw [h.1]; exact .non
  | .bl _, v, p, h, _ => by rw [h.1]; exact .bl _
  | .int _, v, p, h, _ => by rw [h.1]; exact .int _
  | .str _, v, p, h, _ => by rw [h.1]; exact .str _
  | .tup ds, v, p, h, k => by
    obtain ⟨a, vs, rfl, q, h⟩ := h
    exact .tup q.sq (RepL.dp ds vs p h k)
  | .lst ds, v, p, h, k => by
    obtain ⟨a, vs, g, rfl, q, _, h⟩ := h
    exact .lst (SqL.of q) (RepL.dp ds vs g h k)
  | .flst ds, v, p, h, k => by
    obtain ⟨a, vs, rfl, q, h⟩ := h
    exact .lst q.seq (RepL.dp ds vs p h k)
  | .dic kvs, v, p, h, k => by cases k
  | .fdic kvs, v, p, h, k => by cases k
  | .exc _ _ _ kvs, v, p, h, k => by cases k
theorem RepL.dp : ∀ (ds : List D) (vs : List V) (p : List Addr), RepL K H ds vs p → noDicL ds = true → DpAll K H vs (toPL ds)
  | [], vs, p, h, _ => by rw [h.1]; exact .nil
  | d :: ds, vs, p, h, k => by
    obtain ⟨v, vs', f1, f2, rfl, rfl, h1, h2⟩ := h
    have k' : (noDic d && noDicL ds) = true := k
    rw [Bool.and_eq_true] at k'
    exact .cons (Rep.dp d v f1 h1 k'.1) (RepL.dp ds vs' f2 h2 k'.2)
end
end
/-! ### numbers -/
def dAddI : D → D → Option D
  | .int i, .int j => some (.int (i + j))
  | _, _ => none
def dSub : D → D → Option D
  | .int i, .int j => some (.int (i - j))
  | _, _ => none
def mulOk (i j : Int) : Bool := decide (i.natAbs < 2 ^ 64) || decide (j.natAbs < 2 ^ 64)
def dMulI : D → D → Option D
  | .int i, .int j => if mulOk i j then some (.int (i * j)) else none
  | _, _ => none
def dDiv : D → D → Option D
  | .int i, .int j => if j ≠ 0 ∧ j.natAbs < 1073741824 then some (.int (i.fdiv j)) else none
  | _, _ => none
def dMod : D → D → Option D
  | .int i, .int j => if j ≠ 0 then some (.int (i.fmod j)) else none
  | _, _ => none
def dPow : D → D → Option D
  | .int i, .int j => if 0 ≤ j ∧ j ≤ 1000000 ∧ i.natAbs < 2 ^ 64 then some (.int (i ^ j.toNat)) else none
  | _, _ => none
def dXor : D → D → Option D
  | .int i, .int j => some (.int (Builtin.bitXor i j))
  | _, _ => none
def dCmp (p : Int → Int → Bool) : D → D → Option D
  | .int i, .int j => some (.bl (p i j))
  | _, _ => none
section
variable {K : PySem.W.Frag} {X : Cx}
theorem op2_I0 {g : Int → Int → V} {f : D → D → Option D} {k : Int → Int → D} (hf : ∀ x y z, f x y = some z → ∃ i j, x = .int i ∧ y = .int j ∧ z = k i j) (hk : ∀ K H i j, Rep K H (k i j) (g i j) []) : Op2 K (rI0 g) f := by
  intro H x y v w p q z Q r1 r2 e h
  obtain ⟨i, j, rfl, rfl, rfl⟩ := hf x y z e
  exact ⟨i, j, r1.1, r2.1, h _ H [] (hk _ _ _ _) List.nodup_nil (by simp) (Same.refl H)⟩
theorem op2_I {C : Int → Int → Prop} {g : Int → Int → V} {f : D → D → Option D} {k : Int → Int → D} (hf : ∀ x y z, f x y = some z → ∃ i j, x = .int i ∧ y = .int j ∧ C i j ∧ z = k i j) (hk : ∀ K H i j, Rep K H (k i j) (g i j) []) : Op2 K (rI C g) f := by
  intro H x y v w p q z Q r1 r2 e h
  obtain ⟨i, j, rfl, rfl, c, rfl⟩ := hf x y z e
  exact ⟨i, j, r1.1, r2.1, c, h _ H [] (hk _ _ _ _) List.nodup_nil (by simp) (Same.refl H)⟩
theorem Op2.or {r r' : R2} {f f' : D → D → Option D} (h : Op2 K r f) (h' : Op2 K r' f') : Op2 K (fun x y H Q => r x y H Q ∨ r' x y H Q) (fun x y => (f x y).orElse fun _ => f' x y) := by
  intro H x y v w p q z Q r1 r2 e k
  have e : (f x y).orElse (fun _ => f' x y) = some z := e
  cases e1 : f x y with
  | some z' =>
    rw [e1] at e
    cases e
    exact .inl (h H x y v w p q z Q r1 r2 e1 k)
  | none =>
    rw [e1] at e
    exact .inr (h' H x y v w p q z Q r1 r2 e k)
theorem o2_addI : Op2 K (rI0 fun i j => .int (i + j)) dAddI := op2_I0 (k := fun i j => .int (i + j)) (fun x y z e => by
  cases x <;> cases y <;> cases e; exact ⟨_, _, rfl, rfl, rfl⟩) fun _ _ _ _ => ⟨rfl, rfl⟩
theorem o2_sub : Op2 K (rI0 fun i j => .int (i - j)) dSub := op2_I0 (k := fun i j => .int (i - j)) (fun x y z e => by
  cases x <;> cases y <;> cases e; exact ⟨_, _, rfl, rfl, rfl⟩) fun _ _ _ _ => ⟨rfl, rfl⟩
theorem o2_xor : Op2 K (rI0 fun i j => .int (Builtin.bitXor i j)) dXor := op2_I0 (k := fun i j => .int (Builtin.bitXor i j)) (fun x y z e => by
  cases x <;> cases y <;> cases e; exact ⟨_, _, rfl, rfl, rfl⟩) fun _ _ _ _ => ⟨rfl, rfl⟩
theorem o2_cmp (p : Int → Int → Bool) : Op2 K (rI0 fun i j => .bl (p i j)) (dCmp p) := op2_I0 (k := fun i j => .bl (p i j)) (fun x y z e => by
  cases x <;> cases y <;> cases e; exact ⟨_, _, rfl, rfl, rfl⟩) fun _ _ _ _ => ⟨rfl, rfl⟩
theorem if_some {α : Type} {c : Prop} [Decidable c] {x z : α} (e : (if c then some x else none) = some z) : c ∧ x = z := by
  by_cases h : c
  · rw [if_pos h] at e; cases e; exact ⟨h, rfl⟩
  · rw [if_neg h] at e; cases e
theorem by_cases_if {α : Type} {c : Prop} [Decidable c] {x : Option α} {z : α} (e : (if c then x else none) = some z) : c ∧ x = some z := by
  by_cases h : c
  · rw [if_pos h] at e; exact ⟨h, e⟩
  · rw [if_neg h] at e; cases e
theorem o2_mulI : Op2 K (rI CMul fun i j => .int (i * j)) dMulI := op2_I (k := fun i j => .int (i * j)) (fun x y z e => by
  cases x <;> cases y <;> try cases e
  obtain ⟨c, e⟩ := if_some e
  refine ⟨_, _, rfl, rfl, ?_, e.symm⟩
  unfold mulOk at c
  simp only [Bool.or_eq_true, decide_eq_true_eq] at c
  rcases c with c | c
  · exact .inl ⟨by omega, by omega⟩
  · exact .inr ⟨by omega, by omega⟩) fun _ _ _ _ => ⟨rfl, rfl⟩
theorem o2_div : Op2 K (rI CDivN fun i j => .int (i.fdiv j)) dDiv := op2_I (k := fun i j => .int (i.fdiv j)) (fun x y z e => by
  cases x <;> cases y <;> try cases e
  obtain ⟨c, e⟩ := if_some e
  exact ⟨_, _, rfl, rfl, c, e.symm⟩) fun _ _ _ _ => ⟨rfl, rfl⟩
theorem o2_mod : Op2 K (rI (fun _ j => j ≠ 0) fun i j => .int (i.fmod j)) dMod := op2_I (k := fun i j => .int (i.fmod j)) (fun x y z e => by
  cases x <;> cases y <;> try cases e
  obtain ⟨c, e⟩ := if_some e
  exact ⟨_, _, rfl, rfl, c, e.symm⟩) fun _ _ _ _ => ⟨rfl, rfl⟩
theorem o2_pow : Op2 K (rI CPow fun i j => .int (i ^ j.toNat)) dPow := op2_I (k := fun i j => .int (i ^ j.toNat)) (fun x y z e => by
  cases x <;> cases y <;> try cases e
  obtain ⟨c, e⟩ := if_some e
  exact ⟨_, _, rfl, rfl, c, e.symm⟩) fun _ _ _ _ => ⟨rfl, rfl⟩
/-! ### + and * of texts, lists, tuples -/
def dAddS : D → D → Option D
  | .str x, .str y => if x.length + y.length ≤ sizeLine then some (.str (x ++ y)) else none
  | _, _ => none
def dCatL : D → D → Option D
  | .lst a, .lst b => if (immL a && immL b) = true ∧ a.length + b.length ≤ sizeLine then some (.lst (a ++ b)) else none
  | _, _ => none
def dCatT : D → D → Option D
  | .tup a, .tup b => if (immL a && immL b) = true ∧ a.length + b.length ≤ sizeLine then some (.tup (a ++ b)) else none
  | _, _ => none
theorem immL_append : ∀ (a b : List D), immL (a ++ b) = (immL a && immL b)
  | [], b => by simp [immL]
  | d :: a, b => by show (imm d && immL (a ++ b)) = _; rw [immL_append a b]; simp [immL, Bool.and_assoc]
theorem RepL.nil_of {K : PySem.W.Frag} {H : Hp} {ds : List D} {vs : List V} {p : List Addr} (h : RepL K H ds vs p) (k : immL ds = true) : RepL K H ds vs [] := by
  have := RepL.imm _ _ _ h k
  subst this
  exact h
theorem o2_addS : Op2 K (fun x y H Q => ∃ i j, x = .str i ∧ y = .str j ∧ i.length + j.length ≤ sizeLine ∧ Q (.str (i ++ j)) H) dAddS := by
  intro H x y v w p q z Q r1 r2 e h
  cases x <;> cases y <;> try cases e
  obtain ⟨c, rfl⟩ := if_some e
  exact ⟨_, _, r1.1, r2.1, c, h _ H [] ⟨rfl, rfl⟩ List.nodup_nil (by simp) (Same.refl H)⟩
theorem o2_catL : Op2 K rCat dCatL := by
  intro H x y v w p q z Q r1 r2 e h
  cases x <;> cases y <;> try cases e
  rename_i a b
  obtain ⟨⟨c, hl⟩, rfl⟩ := if_some e
  rw [Bool.and_eq_true] at c
  obtain ⟨pa, va, ga, rfl, ea, _, ra⟩ := r1
  obtain ⟨pb, vb, gb, rfl, eb, _, rb⟩ := r2
  refine ⟨pa, pb, va, vb, rfl, rfl, ea, eb, by rw [ra.length, rb.length]; exact hl, fun t ht => ?_⟩
  have sm := upd_same_of (o := .lst (va ++ vb)) ht
  refine h _ _ [t] ⟨t, va ++ vb, [], rfl, upd_same, rfl, ?_⟩ (by simp) (by simpa using ht) sm
  exact (RepL.keep _ _ _ (ra.nil_of c.1) (Same.keep sm)).append (RepL.keep _ _ _ (rb.nil_of c.2) (Same.keep sm))
theorem o2_catT : Op2 K (rCatF K) dCatT := by
  intro H x y v w p q z Q r1 r2 e h
  cases x <;> cases y <;> try cases e
  rename_i a b
  obtain ⟨⟨c, hl⟩, rfl⟩ := if_some e
  rw [Bool.and_eq_true] at c
  obtain ⟨pa, va, rfl, ea, ra⟩ := r1
  obtain ⟨pb, vb, rfl, eb, rb⟩ := r2
  have la := ra.length
  have lb := rb.length
  refine ⟨pa, pb, va, vb, rfl, rfl, ea.sq, eb.sq, by rw [la, lb]; exact hl, fun h0 => ?_, fun h0 h1 => ?_, fun h0 h1 t o ht hd => ?_⟩
  · subst h0
    have : a = [] := List.eq_nil_of_length_eq_zero la.symm
    subst this
    exact h _ H [] ⟨pb, vb, rfl, eb, rb.nil_of c.2⟩ List.nodup_nil (by simp) (Same.refl H)
  · subst h1
    have : b = [] := List.eq_nil_of_length_eq_zero lb.symm
    subst this
    exact h _ H [] ⟨pa, va, rfl, ea, by rw [List.append_nil]; exact ra.nil_of c.1⟩ List.nodup_nil (by simp) (Same.refl H)
  · have sm := upd_same_of (o := .frz o (.tup (va ++ vb))) ht
    refine h _ _ [] ⟨t, va ++ vb, rfl, .inl ⟨o, upd_same, hd⟩, ?_⟩ List.nodup_nil (by simp) sm
    exact (RepL.keep _ _ _ (ra.nil_of c.1) (Same.keep sm)).append (RepL.keep _ _ _ (rb.nil_of c.2) (Same.keep sm))
def dAdd (x y : D) : Option D := (dAddI x y).orElse fun _ => (dAddS x y).orElse fun _ => (dCatL x y).orElse fun _ => dCatT x y
theorem o2_add : Op2 K (fun x y H Q => rI0 (fun i j => .int (i + j)) x y H Q ∨ (∃ i j, x = .str i ∧ y = .str j ∧ i.length + j.length ≤ sizeLine ∧ Q (.str (i ++ j)) H) ∨ rCat x y H Q ∨ rCatF K x y H Q) dAdd :=
  o2_addI.or (o2_addS.or (o2_catL.or o2_catT))
theorem ox_add : OpR X (binaryOp .Add) (fun x y H Q => rI0 (fun i j => .int (i + j)) x y H Q ∨ (∃ i j, x = .str i ∧ y = .str j ∧ i.length + j.length ≤ sizeLine ∧ Q (.str (i ++ j)) H) ∨ rCat x y H Q ∨ rCatF X.K x y H Q) :=
  op_add.or (op_add_str.or (op_cat.or op_catF))
def dRepL : D → D → Option D
  | .lst a, .int k => if immL a = true ∧ k.natAbs < 2 ^ 63 ∧ a.length * k.toNat ≤ sizeLine then some (.lst (List.replicate k.toNat a).flatten) else none
  | _, _ => none
theorem RepL.rep {K : PySem.W.Frag} {H : Hp} {ds : List D} {vs : List V} (h : RepL K H ds vs []) : ∀ k : Nat, RepL K H (List.replicate k ds).flatten (List.replicate k vs).flatten []
  | 0 => ⟨rfl, rfl⟩
  | k + 1 => by rw [List.replicate_succ, List.replicate_succ, List.flatten_cons, List.flatten_cons]; exact h.append (RepL.rep h k)
theorem o2_repL : Op2 K rRep dRepL := by
  intro H x y v w p q z Q r1 r2 e h
  cases x <;> cases y <;> try cases e
  rename_i a k
  obtain ⟨⟨c, h0, h3⟩, rfl⟩ := if_some e
  have h1 : -(2 ^ 63) ≤ k := by omega
  have h2 : k < 2 ^ 63 := by omega
  obtain ⟨pa, va, ga, rfl, ea, _, ra⟩ := r1
  refine ⟨pa, k, va, rfl, r2.1, ea, h1, h2, by rw [ra.length]; exact h3, fun t ht => ?_⟩
  have sm := upd_same_of (o := .lst (List.replicate k.toNat va).flatten) ht
  exact h _ _ [t] ⟨t, _, [], rfl, upd_same, rfl, RepL.keep _ _ _ ((ra.nil_of c).rep _) (Same.keep sm)⟩ (by simp) (by simpa using ht) sm
def dMul (x y : D) : Option D := (dMulI x y).orElse fun _ => dRepL x y
theorem o2_mul : Op2 K (fun x y H Q => rI CMul (fun i j => .int (i * j)) x y H Q ∨ rRep x y H Q) dMul := o2_mulI.or o2_repL
theorem ox_mul : OpR X (binaryOp .Mult) (fun x y H Q => rI CMul (fun i j => .int (i * j)) x y H Q ∨ rRep x y H Q) := op_mul.or op_rep
/-! ### ==, != -/
def toV : D → Option V
  | .non => some .non | .bl b => some (.bl b) | .int i => some (.int i) | .str x => some (.str x)
  | _ => none
theorem Rep.toV {K : PySem.W.Frag} {H : Hp} {d : D} {v w : V} {p : List Addr} (h : Rep K H d v p) (e : toV d = some w) : v = w := by
  cases d <;> cases e <;> exact h.1
/-- plain things compared -/
def dEqS (x y : D) : Option Bool := (toV x).bind fun v => (toV y).bind fun w => if scal v w = true then some (decide (v = w)) else none
def dEqD (x y : D) : Option Bool := if noDic x = true ∧ noDic y = true ∧ SeqAt.shaped (toP x) = true ∧ SeqAt.shaped (toP y) = true then some (PyData.eqv (toP x) (toP y)) else none
def dEqB (x y : D) : Option Bool := (dEqS x y).orElse fun _ => dEqD x y
def dEq (x y : D) : Option D := (dEqB x y).map .bl
def dNe (x y : D) : Option D := (dEqB x y).map fun b => .bl (!b)
theorem dEqS_some {x y : D} {b : Bool} (e : dEqS x y = some b) : ∃ v w, toV x = some v ∧ toV y = some w ∧ scal v w = true ∧ b = decide (v = w) := by
  unfold dEqS at e
  obtain ⟨v, e1, e⟩ := Option.bind_eq_some_iff.mp e
  obtain ⟨w, e2, e⟩ := Option.bind_eq_some_iff.mp e
  obtain ⟨c, e⟩ := if_some e
  exact ⟨v, w, e1, e2, c, e.symm⟩
theorem o2_eq : Op2 K (fun x y H Q => rEq x y H Q ∨ rEqD K x y H Q) dEq := by
  intro H x y v w p q z Q r1 r2 e0 h
  obtain ⟨b, e, rfl⟩ := Option.map_eq_some_iff.mp e0
  have fin := h (.bl b) H [] ⟨rfl, rfl⟩ List.nodup_nil (by simp) (Same.refl H)
  unfold dEqB at e
  cases e1 : dEqS x y with
  | some b' =>
    rw [e1] at e; cases e
    obtain ⟨v', w', e2, e3, e4, rfl⟩ := dEqS_some e1
    obtain rfl := r1.toV e2
    obtain rfl := r2.toV e3
    exact .inl ⟨e4, fin⟩
  | none =>
    rw [e1] at e
    obtain ⟨⟨n1, n2, s1, s2⟩, rfl⟩ := if_some (show (if noDic x = true ∧ noDic y = true ∧ SeqAt.shaped (toP x) = true ∧ SeqAt.shaped (toP y) = true then some (PyData.eqv (toP x) (toP y)) else none) = some b from e)
    exact .inr ⟨_, _, Rep.dp _ _ _ r1 n1, Rep.dp _ _ _ r2 n2, s1, s2, fin⟩
theorem o2_ne : Op2 K (fun x y H Q => rNe x y H Q ∨ rNeD K x y H Q) dNe := by
  intro H x y v w p q z Q r1 r2 e0 h
  obtain ⟨b, e, rfl⟩ := Option.map_eq_some_iff.mp e0
  have fin := h (.bl (!b)) H [] ⟨rfl, rfl⟩ List.nodup_nil (by simp) (Same.refl H)
  unfold dEqB at e
  cases e1 : dEqS x y with
  | some b' =>
    rw [e1] at e; cases e
    obtain ⟨v', w', e2, e3, e4, rfl⟩ := dEqS_some e1
    obtain rfl := r1.toV e2
    obtain rfl := r2.toV e3
    exact .inl ⟨e4, fin⟩
  | none =>
    rw [e1] at e
    obtain ⟨⟨n1, n2, s1, s2⟩, rfl⟩ := if_some (show (if noDic x = true ∧ noDic y = true ∧ SeqAt.shaped (toP x) = true ∧ SeqAt.shaped (toP y) = true then some (PyData.eqv (toP x) (toP y)) else none) = some b from e)
    exact .inr ⟨_, _, Rep.dp _ _ _ r1 n1, Rep.dp _ _ _ r2 n2, s1, s2, fin⟩
theorem ox_eq (hu : X.A.units + 64 < cLine) : OpR X (compareOp .Eq) (fun x y H Q => rEq x y H Q ∨ rEqD X.K x y H Q) := op_eq.or (op_eqD hu)
theorem ox_ne (hu : X.A.units + 64 < cLine) : OpR X (compareOp .NotEq) (fun x y H Q => rNe x y H Q ∨ rNeD X.K x y H Q) := op_ne.or (op_neD hu)
/-! ### in, not in -/
def keyOf : D → Option Key
  | .int i => some (.inl i)
  | .str x => some (.inr x)
  | _ => none
def kvGet (kvs : List (Key × D)) (k : Key) : Option D := (kvs.find? fun kv => decide (kv.1 = k)).map (·.2)
def kvPut (kvs : List (Key × D)) (k : Key) (v : D) : List (Key × D) := if kvs.any (fun kv => decide (kv.1 = k)) then kvs.map fun kv => if kv.1 = k then (kv.1, v) else kv else kvs ++ [(k, v)]
def inS (x : D) : List D → Option Bool
  | [] => some false
  | y :: ys => (toV x).bind fun v => (toV y).bind fun w => (inS x ys).map fun b => eqV w v || b
/-- in a list, a tuple of plain things; in a list of any data; in a dict; in a text -/
def dInB (x y : D) : Option Bool := match y with
  | .dic kvs => (keyOf x).map fun k => (kvGet kvs k).isSome
  | .fdic kvs => (keyOf x).map fun k => (kvGet kvs k).isSome
  | .str z => match x with
    | .str c => some (!(Builtin.Str.occurrences z c 0 z.length 1).isEmpty)
    | _ => none
  | _ => (seqOf y).bind fun ys => ((toV x).bind fun _ => inS x ys).orElse fun _ =>
    (lstOf y).bind fun ys => if noDic x = true ∧ noDicL ys = true ∧ SeqAt.shaped (toP x) = true ∧ SeqAt.shaped (.list (toPL ys)) = true then some ((toPL ys).any fun z => PyData.eqv z (toP x)) else none
def dIn (x y : D) : Option D := (dInB x y).map .bl
def dNotIn (x y : D) : Option D := (dInB x y).map fun b => .bl (!b)
theorem flat_toV {d : D} {v : V} (e : toV d = some v) : flatV v = true := by cases d <;> cases e <;> rfl
theorem inS_all {K : PySem.W.Frag} {H : Hp} {x : D} {v : V} (ex : toV x = some v) : ∀ {ys : List D} {ws : List V} {p : List Addr} {b : Bool}, RepL K H ys ws p → inS x ys = some b → ws.all flatV = true ∧ inV v ws = b
  | [], ws, p, b, r, e => by cases e; rw [r.1]; exact ⟨rfl, rfl⟩
  | y :: ys, ws, p, b, r, e => by
    obtain ⟨w, ws', f1, f2, rfl, rfl, r1, r2⟩ := r
    unfold inS at e
    rw [ex] at e
    obtain ⟨w', e1, e⟩ := Option.bind_eq_some_iff.mp (show ((toV y).bind fun w => (inS x ys).map fun b => eqV w v || b) = some b from e)
    obtain ⟨b', e2, e⟩ := Option.map_eq_some_iff.mp e
    subst e
    obtain rfl := r1.toV e1
    obtain ⟨q1, q2⟩ := inS_all ex r2 e2
    refine ⟨by simp [flat_toV e1, q1], ?_⟩
    show ((w :: ws').any fun y => eqV y v) = _
    rw [List.any_cons]
    show (eqV w v || inV v ws') = _
    rw [q2]
theorem RepK.get {K : PySem.W.Frag} {H : Hp} {k : Key} : ∀ {kvs : List (Key × D)} {ws : List (Key × V)} {p : List Addr}, RepK K H kvs ws p →
    (kvGet kvs k = none ∧ valV ws k = none) ∨ ∃ d v f, kvGet kvs k = some d ∧ valV ws k = some v ∧ Rep K H d v f
  | [], ws, p, r => by rw [r.1]; exact .inl ⟨rfl, rfl⟩
  | (k0, d0) :: kvs, ws, p, r => by
    obtain ⟨v, ws', f1, f2, rfl, rfl, r1, r2⟩ := r
    by_cases e : k0 = k
    · refine .inr ⟨d0, v, f1, by simp [kvGet, List.find?_cons, e], valV_pos e, r1⟩
    · have e1 : kvGet ((k0, d0) :: kvs) k = kvGet kvs k := by simp [kvGet, List.find?_cons, e]
      rw [e1, valV_neg e]
      exact RepK.get r2
theorem keyOf_kV {K : PySem.W.Frag} {H : Hp} {x : D} {v : V} {p : List Addr} {k : Key} (r : Rep K H x v p) (e : keyOf x = some k) : v = kV k := by
  cases x <;> cases e <;> exact r.1
def rInDic : R2 := fun y x H Q => ∃ a o, x = .ref a ∧ DGet H a y o ∧ Q (.bl o.isSome) H
def rNotInDic : R2 := fun y x H Q => ∃ a o, x = .ref a ∧ DGet H a y o ∧ Q (.bl (!o.isSome)) H
theorem op_inDic (hu : X.A.units + 1 < cLine) : OpR X (compareOp .In) rInDic := fun _ _ _ H _ _ _ _ _ I rx ry ⟨_, o, ex, get, q⟩ => by
  subst ex; cases ry
  exact d_in hu I get rx fun _ J => ⟨.bl o.isSome, H, J, rfl, q⟩
theorem op_notInDic (hu : X.A.units + 1 < cLine) : OpR X (compareOp .NotIn) rNotInDic := fun _ _ _ H _ _ _ _ _ I rx ry ⟨_, o, ex, get, q⟩ => by
  subst ex; cases ry
  exact d_notIn hu I get rx fun _ J => ⟨.bl (!o.isSome), H, J, rfl, q⟩
def rInAll (K : PySem.W.Frag) : R2 := fun x y H Q => rInDic x y H Q ∨ (∃ i j, x = .str i ∧ y = .str j ∧ Q (.bl (!(Builtin.Str.occurrences j i 0 j.length 1).isEmpty)) H) ∨ rIn K false x y H Q ∨ rInD K x y H Q
def rNotInAll (K : PySem.W.Frag) : R2 := fun x y H Q => rNotInDic x y H Q ∨ (∃ i j, x = .str i ∧ y = .str j ∧ Q (.bl (!(!(Builtin.Str.occurrences j i 0 j.length 1).isEmpty))) H) ∨ rIn K true x y H Q ∨ rNotInD K x y H Q
theorem ox_in (hu : X.A.units + 65 < cLine) : OpR X (compareOp .In) (rInAll X.K) := (op_inDic (by omega)).or (op_in_str.or (op_in_seq.or (op_inD hu)))
theorem ox_notIn (hu : X.A.units + 65 < cLine) : OpR X (compareOp .NotIn) (rNotInAll X.K) := (op_notInDic (by omega)).or (op_notin_str.or (op_notIn_seq.or (op_notInD hu)))
/-- both at once: n tells 'not' -/
theorem dget_frz {H : Hp} {a : Addr} {kvs : List (Key × V)} {k : Key} {o : Obj} (e : H a = some (.frz o (.dK kvs))) : DGet H a (kV k) (valV kvs k) := .inl ⟨kvs, k, .inr ⟨o, e⟩, rfl, rfl⟩
theorem in_core {K : PySem.W.Frag} {H : Hp} {x y : D} {v w : V} {p q : List Addr} {b : Bool} (r1 : Rep K H x v p) (r2 : Rep K H y w q) (e : dInB x y = some b) :
    (∃ a o, w = .ref a ∧ DGet H a v o ∧ o.isSome = b) ∨ (∃ i j, v = .str i ∧ w = .str j ∧ (!(Builtin.Str.occurrences j i 0 j.length 1).isEmpty) = b) ∨
      (∃ p xs, w = .ref p ∧ (SqL K H p xs ∨ SqT K H p xs) ∧ flatV v = true ∧ xs.all flatV = true ∧ inV v xs = b) ∨
      (∃ d ds, Dp K H v d ∧ Dp K H w (.list ds) ∧ SeqAt.shaped d = true ∧ SeqAt.shaped (.list ds) = true ∧ (ds.any fun z => PyData.eqv z d) = b) := by
  have seqCase : ∀ ys, seqOf y = some ys → (((toV x).bind fun _ => inS x ys).orElse fun _ => (lstOf y).bind fun ys => if noDic x = true ∧ noDicL ys = true ∧ SeqAt.shaped (toP x) = true ∧ SeqAt.shaped (.list (toPL ys)) = true then some ((toPL ys).any fun z => PyData.eqv z (toP x)) else none) = some b →
      (∃ p xs, w = .ref p ∧ (SqL K H p xs ∨ SqT K H p xs) ∧ flatV v = true ∧ xs.all flatV = true ∧ inV v xs = b) ∨ (∃ d ds, Dp K H v d ∧ Dp K H w (.list ds) ∧ SeqAt.shaped d = true ∧ SeqAt.shaped (.list ds) = true ∧ (ds.any fun z => PyData.eqv z d) = b) := by
    intro ys hy e
    cases e1 : ((toV x).bind fun _ => inS x ys) with
    | some b' =>
      rw [e1] at e
      cases e
      obtain ⟨v', e2, e3⟩ := Option.bind_eq_some_iff.mp e1
      obtain rfl := r1.toV e2
      obtain ⟨a, ws, g, rfl, hs, rl, _⟩ := r2.seq hy
      obtain ⟨q1, q2⟩ := inS_all e2 rl e3
      exact .inl ⟨a, ws, rfl, hs, flat_toV e2, q1, q2⟩
    | none =>
      rw [e1] at e
      obtain ⟨zs, e2, e3⟩ := Option.bind_eq_some_iff.mp (show ((lstOf y).bind fun ys => if noDic x = true ∧ noDicL ys = true ∧ SeqAt.shaped (toP x) = true ∧ SeqAt.shaped (.list (toPL ys)) = true then some ((toPL ys).any fun z => PyData.eqv z (toP x)) else none) = some b from e)
      obtain ⟨⟨n1, n2, s1, s2⟩, e4⟩ := if_some e3
      obtain ⟨a, ws, g, rfl, hs, rl, _⟩ := r2.sqL e2
      exact .inr ⟨toP x, toPL zs, Rep.dp _ _ _ r1 n1, .lst hs (RepL.dp _ _ _ rl n2), s1, s2, e4⟩
  cases y with
  | dic kvs =>
    obtain ⟨k, e1, e⟩ := Option.map_eq_some_iff.mp e
    obtain rfl := keyOf_kV r1 e1
    obtain ⟨a, ws, g, rfl, ea, _, rk⟩ := r2
    refine .inl ⟨a, _, rfl, DGet.k ea, ?_⟩
    rw [← e]
    rcases rk.get (k := k) with ⟨q1, q2⟩ | ⟨d, v, f, q1, q2, _⟩ <;> rw [q1, q2] <;> rfl
  | fdic kvs =>
    obtain ⟨k, e1, e⟩ := Option.map_eq_some_iff.mp e
    obtain rfl := keyOf_kV r1 e1
    obtain ⟨a, ws, rfl, ⟨o, ea⟩, rk⟩ := r2
    refine .inl ⟨a, _, rfl, dget_frz ea, ?_⟩
    rw [← e]
    rcases rk.get (k := k) with ⟨q1, q2⟩ | ⟨d, v, f, q1, q2, _⟩ <;> rw [q1, q2] <;> rfl
  | str z =>
    cases x <;> cases e
    exact .inr (.inl ⟨_, _, r1.1, r2.1, rfl⟩)
  | lst ds => exact .inr (.inr (seqCase ds rfl e))
  | flst ds => exact .inr (.inr (seqCase ds rfl e))
  | tup ds => exact .inr (.inr (seqCase ds rfl e))
  | _ => cases e
theorem o2_in : Op2 K (rInAll K) dIn := by
  intro H x y v w p q z Q r1 r2 e0 h
  obtain ⟨b, e, rfl⟩ := Option.map_eq_some_iff.mp e0
  have fin := h (.bl b) H [] ⟨rfl, rfl⟩ List.nodup_nil (by simp) (Same.refl H)
  rcases in_core r1 r2 e with ⟨a, o, e1, g, rfl⟩ | ⟨i, j, e1, e2, rfl⟩ | ⟨a, xs, e1, hs, f1, f2, rfl⟩ | ⟨d, ds, d1, d2, s1, s2, rfl⟩
  · exact .inl ⟨a, o, e1, g, fin⟩
  · exact .inr (.inl ⟨i, j, e1, e2, fin⟩)
  · exact .inr (.inr (.inl ⟨a, xs, e1, hs, f1, f2, fin⟩))
  · exact .inr (.inr (.inr ⟨d, ds, d1, d2, s1, s2, fin⟩))
theorem o2_notIn : Op2 K (rNotInAll K) dNotIn := by
  intro H x y v w p q z Q r1 r2 e0 h
  obtain ⟨b, e, rfl⟩ := Option.map_eq_some_iff.mp e0
  have fin := h (.bl (!b)) H [] ⟨rfl, rfl⟩ List.nodup_nil (by simp) (Same.refl H)
  rcases in_core r1 r2 e with ⟨a, o, e1, g, rfl⟩ | ⟨i, j, e1, e2, rfl⟩ | ⟨a, xs, e1, hs, f1, f2, rfl⟩ | ⟨d, ds, d1, d2, s1, s2, rfl⟩
  · exact .inl ⟨a, o, e1, g, fin⟩
  · exact .inr (.inl ⟨i, j, e1, e2, fin⟩)
  · exact .inr (.inr (.inl ⟨a, xs, e1, hs, f1, f2, fin⟩))
  · exact .inr (.inr (.inr ⟨d, ds, d1, d2, s1, s2, fin⟩))
/-! ### items -/
def dIxS : D → D → Option D
  | .str z, .int i => if z.length ≤ sizeLine then (atI z.cps.toList i).map fun c => .str ⟨#[c]⟩ else none
  | _, _ => none
def dIxQ (x y : D) : Option D := match y with
  | .int i => (seqOf x).bind fun ds => (atI ds i).bind fun d => if imm d = true then some d else none
  | _ => none
def dIxD (x y : D) : Option D := match x with
  | .dic kvs => (keyOf y).bind fun k => (kvGet kvs k).bind fun d => if imm d = true then some d else none
  | .fdic kvs => (keyOf y).bind fun k => (kvGet kvs k).bind fun d => if imm d = true then some d else none
  | _ => none
theorem RepL.atI {K : PySem.W.Frag} {H : Hp} {ds : List D} {vs : List V} {p : List Addr} {i : Int} {d : D} (r : RepL K H ds vs p) (e : L2.atI ds i = some d) : ∃ v f, L2.atI vs i = some v ∧ Rep K H d v f := by
  unfold L2.atI at e ⊢
  obtain ⟨j, e1, e2⟩ := Option.bind_eq_some_iff.mp e
  obtain ⟨v, f1, f2, f3, e3, _, r1, _⟩ := r.at e2
  exact ⟨v, f2, by rw [r.length, e1]; exact e3, r1⟩
theorem rep_nil {K : PySem.W.Frag} {H : Hp} {d : D} {v : V} {p : List Addr} (r : Rep K H d v p) (k : imm d = true) : Rep K H d v [] := by
  have := Rep.imm _ _ _ r k
  subst this
  exact r
theorem o2_ixS : Op2 K rIxS dIxS := by
  intro H x y v w p q z Q r1 r2 e h
  cases x <;> cases y <;> try cases e
  obtain ⟨c, e⟩ := by_cases_if e
  obtain ⟨u, e1, e⟩ := Option.map_eq_some_iff.mp e
  subst e
  exact ⟨_, _, u, r1.1, r2.1, c, e1, h _ H [] ⟨rfl, rfl⟩ List.nodup_nil (by simp) (Same.refl H)⟩
theorem o2_ixQ : Op2 K (fun x y H Q => rIxL K x y H Q ∨ rIxT K x y H Q) dIxQ := by
  intro H x y v w p q z Q r1 r2 e h
  cases y <;> try cases e
  rename_i i
  obtain ⟨ds, e1, e⟩ := Option.bind_eq_some_iff.mp (show ((seqOf x).bind fun ds => (L2.atI ds i).bind fun d => if imm d = true then some d else none) = some z from e)
  obtain ⟨d, e2, e⟩ := Option.bind_eq_some_iff.mp e
  obtain ⟨c, rfl⟩ := if_some e
  obtain ⟨a, ws, g, rfl, hs, rl, _⟩ := r1.seq e1
  obtain ⟨u, f, e3, r3⟩ := rl.atI e2
  have fin := h u H [] (rep_nil r3 c) List.nodup_nil (by simp) (Same.refl H)
  rcases hs with hs | hs
  · exact .inl ⟨a, ws, i, u, rfl, r2.1, hs, e3, fin⟩
  · exact .inr ⟨a, ws, i, u, rfl, r2.1, hs, e3, fin⟩
def dIx (x y : D) : Option D := (dIxS x y).orElse fun _ => dIxQ x y
theorem o2_ix : Op2 K (fun x y H Q => rIxS x y H Q ∨ rIxL K x y H Q ∨ rIxT K x y H Q) dIx := o2_ixS.or o2_ixQ
theorem ox_ix : IxR X (fun x y H Q => rIxS x y H Q ∨ rIxL X.K x y H Q ∨ rIxT X.K x y H Q) := ix_str.or (ix_list.or ix_tup)
end
/-- x[i], of a list, a tuple, a text, a dict -/
def dSubs (x y : D) : Option D := (dIx x y).orElse fun _ => dIxD x y
def rDicGet : R2 := fun x y H Q => ∃ a v, x = .ref a ∧ DGet H a y (some v) ∧ Q v H
theorem o2_ixD {K : PySem.W.Frag} : Op2 K rDicGet dIxD := by
  intro H x y v w p q z Q r1 r2 e h
  cases x <;> try cases e
  · rename_i kvs
    obtain ⟨k, e1, e⟩ := Option.bind_eq_some_iff.mp (show ((keyOf y).bind fun k => (kvGet kvs k).bind fun d => if imm d = true then some d else none) = some z from e)
    obtain ⟨d, e2, e⟩ := Option.bind_eq_some_iff.mp e
    obtain ⟨c, rfl⟩ := if_some e
    obtain rfl := keyOf_kV r2 e1
    obtain ⟨a, ws, g, rfl, ea, _, rk⟩ := r1
    rcases rk.get (k := k) with ⟨q1, q2⟩ | ⟨d', u, f, q1, q2, r3⟩
    · rw [e2] at q1; cases q1
    · rw [e2] at q1
      cases q1
      exact ⟨a, u, rfl, by have := DGet.k (k := k) ea; rw [q2] at this; exact this, h u H [] (rep_nil r3 c) List.nodup_nil (by simp) (Same.refl H)⟩
  · rename_i kvs
    obtain ⟨k, e1, e⟩ := Option.bind_eq_some_iff.mp (show ((keyOf y).bind fun k => (kvGet kvs k).bind fun d => if imm d = true then some d else none) = some z from e)
    obtain ⟨d, e2, e⟩ := Option.bind_eq_some_iff.mp e
    obtain ⟨c, rfl⟩ := if_some e
    obtain rfl := keyOf_kV r2 e1
    obtain ⟨a, ws, rfl, ⟨o, ea⟩, rk⟩ := r1
    rcases rk.get (k := k) with ⟨q1, q2⟩ | ⟨d', u, f, q1, q2, r3⟩
    · rw [e2] at q1; cases q1
    · rw [e2] at q1
      cases q1
      exact ⟨a, u, rfl, by have := dget_frz (k := k) ea; rw [q2] at this; exact this, h u H [] (rep_nil r3 c) List.nodup_nil (by simp) (Same.refl H)⟩
theorem de_sub {X : Cx} {a b : Expr} {pos : Pos} {fa fb : FE} (hu : X.A.units + 1 < cLine) (ha : DE X a fa) (hb : DE X b fb) (hs : PlainIx b) : DE X (.Subscript a b pos) (fOp dSubs fa fb) :=
  ⟨pe_weak (pe_or' (pe_ix ox_ix ha.pe hb.pe hs) (pe_dget (td := rdE X.K fa) (ty := rdE X.K fb) hu ha.pe hb.pe hs)) fun σ H Q h => by
    obtain ⟨ρ, F, x0, ρ2, E, nd, ef, k⟩ := h
    obtain ⟨x, ρ1, y, dx, dy, z, e1, e2, e3, e4, e5, rfl⟩ := fOp_some ef
    unfold dSubs at e5
    cases e6 : dIx dx dy with
    | some z' =>
      rw [e6] at e5
      cases e5
      refine .inl (tOp_of (g := dIx) o2_ix ⟨ρ, F, .val z, ρ2, E, nd, ?_, k⟩)
      unfold fOp
      simp [e1, e2, e3, e4, e6]
    | none =>
      rw [e6] at e5
      refine .inr (tOp_of (g := dIxD) (r := rDicGet) o2_ixD ⟨ρ, F, .val z, ρ2, E, nd, ?_, k⟩)
      unfold fOp
      have e5' : dIxD dx dy = some z := e5
      simp [e1, e2, e3, e4, e5']⟩
end DL
/-! Calls of built-ins, methods. -/
namespace DL
open PySem PySem.Spec L2
/-- the arguments as they stand -/
def Args (K : PySem.W.Frag) (H : Hp) (ds : List D) (vs : List V) : Prop := vs.length = ds.length ∧ ∀ (i : Nat) (d : D) (v : V), ds[i]? = some d → vs[i]? = some v → ∃ p, Rep K H d v p
theorem Args.one {K : PySem.W.Frag} {H : Hp} {d : D} {vs : List V} (h : Args K H [d] vs) : ∃ v p, vs = [v] ∧ Rep K H d v p := by
  obtain ⟨hl, h⟩ := h
  match vs, hl with
  | [v], _ => obtain ⟨p, r⟩ := h 0 d v rfl rfl; exact ⟨v, p, rfl, r⟩
theorem Args.two {K : PySem.W.Frag} {H : Hp} {d e : D} {vs : List V} (h : Args K H [d, e] vs) : ∃ v w p q, vs = [v, w] ∧ Rep K H d v p ∧ Rep K H e w q := by
  obtain ⟨hl, h⟩ := h
  match vs, hl with
  | [v, w], _ => obtain ⟨p, r⟩ := h 0 d v rfl rfl; obtain ⟨q, r'⟩ := h 1 e w rfl rfl; exact ⟨v, w, p, q, rfl, r, r'⟩
/-- something new comes, or a thing that owns nothing -/
def Tells (K : PySem.W.Frag) (H : Hp) (z : D) (Q : VK) : Prop := ∀ u H' h, Rep K H' z u h → h.Nodup → (∀ a ∈ h, H a = none) → Same H H' → Q u H'
theorem Tells.flat {K : PySem.W.Frag} {H : Hp} {z : D} {Q : VK} (t : Tells K H z Q) {u : V} (r : Rep K H z u []) : Q u H := t u H [] r List.nodup_nil (by simp) (Same.refl H)
theorem Tells.list {K : PySem.W.Frag} {H : Hp} {ds : List D} {Q : VK} (t : Tells K H (.lst ds) Q) {vs : List V} (r : RepL K H ds vs []) {p : Addr} (hp : H p = none) : Q (.ref p) (upd H p (.lst vs)) := by
  have sm := upd_same_of (o := .lst vs) hp
  exact t _ _ [p] ⟨p, vs, [], rfl, upd_same, rfl, RepL.keep _ _ _ r (Same.keep sm)⟩ (by simp) (by simpa using hp) sm
theorem Tells.tup {K : PySem.W.Frag} {H : Hp} {ds : List D} {Q : VK} (t : Tells K H (.tup ds) Q) {vs : List V} (r : RepL K H ds vs []) : newT H vs Q := fun p o hp hd => by
  have sm := upd_same_of (o := .frz o (.tup vs)) hp
  exact t _ _ [] ⟨p, vs, rfl, .inl ⟨o, upd_same, hd⟩, RepL.keep _ _ _ r (Same.keep sm)⟩ List.nodup_nil (by simp) sm
def CallS (K : PySem.W.Frag) (r : List V → Hp → VK → Prop) (g : List D → Option D) : Prop := ∀ (H : Hp) (ds : List D) (vs : List V) (z : D) (Q : VK), Args K H ds vs → g ds = some z → Tells K H z Q → r vs H Q
def fCall (g : List D → Option D) (fr : FA) : FE := fun ρ => (fr ρ).bind fun (rs, ρ1) => (conts ρ1 rs).bind fun ds => (g ds).map fun z => (.val z, ρ1)
section
variable {X : Cx} {e o : Expr} {es : List Expr} {pos p : Pos} {x : Str} {id T : String} {r : List V → Hp → VK → Prop} {g : List D → Option D} {fr : FA} {fo : FE}
theorem tCB_of {K : PySem.W.Frag} (hg : CallS K r g) {σ : L2.St} {H : Hp} {Q : VK} (h : rdE K (fCall g fr) σ H Q) : tCB r (rdA K fr) σ H Q := by
  obtain ⟨ρ, F, x0, ρ2, E, nd, ef, k⟩ := h
  obtain ⟨⟨rs, ρ1⟩, e1, ef⟩ := Option.bind_eq_some_iff.mp ef
  obtain ⟨ds, e2, ef⟩ := Option.bind_eq_some_iff.mp ef
  obtain ⟨z, e3, ef⟩ := Option.map_eq_some_iff.mp ef
  cases ef
  refine ⟨ρ, F, rs, ρ2, E, nd, e1, fun vs H' g' F' r1 E1 N1 S1 => ?_⟩
  obtain ⟨hl, hi⟩ := r1.conts E1 e2
  refine hg H' ds vs z Q ⟨hl, fun i d v a b => let ⟨p, q, _⟩ := hi i d v a b; ⟨p, q⟩⟩ e3 fun u H2 h ru nh fr' sm => ?_
  exact k u H2 h F' ru (E1.keep (Same.keep sm)) (nodup_fresh E1 (nodup3 N1).2.1 nh fr') (S1.fresh sm fr' fun a ha => List.mem_append_right _ ha)
theorem de_callB (hc : CallR X (.builtin id) r) (hs : CallS X.K r g) (hg : Gl X x) (hm : X.mg x = none) (hv : bootBuiltins x = some (.builtin id)) (ha : DA X (e :: es) fr) (hn : x ≠ "__name__" := by decide) (hdb : (x == ("__debug__" : Str)) = false := by decide)
    (he : starEach (e :: es) X.env = (false, eval e X.env) :: starEach es X.env := by rfl) (hpl : (backTo pos (starEach es X.env)).any (·.1) = false := by rfl) : DE X (.Call (.Name x p) (e :: es) [] pos) (fCall g fr) :=
  ⟨pe_weak (pe_callB hc hg hm hv ha.pa hn hdb he hpl) fun _ _ _ h => tCB_of hs h⟩
theorem de_callTy (hc : CallR X (.type T) r) (hs : CallS X.K r g) (hg : Gl X x) (hm : X.mg x = none) (hv : bootBuiltins x = some (.type T)) (ha : DA X (e :: es) fr) (hn : x ≠ "__name__" := by decide) (hdb : (x == ("__debug__" : Str)) = false := by decide)
    (he : starEach (e :: es) X.env = (false, eval e X.env) :: starEach es X.env := by rfl) (hpl : (backTo pos (starEach es X.env)).any (·.1) = false := by rfl) : DE X (.Call (.Name x p) (e :: es) [] pos) (fCall g fr) :=
  ⟨pe_weak (pe_callTy hc hg hm hv ha.pa hn hdb he hpl) fun _ _ _ h => tCB_of hs h⟩
end
theorem CallS.or {K : PySem.W.Frag} {r r' : List V → Hp → VK → Prop} {f f' : List D → Option D} (h : CallS K r f) (h' : CallS K r' f') : CallS K (fun xs H Q => r xs H Q ∨ r' xs H Q) (fun xs => (f xs).orElse fun _ => f' xs) := by
  intro H ds vs z Q a e k
  have e : (f ds).orElse (fun _ => f' ds) = some z := e
  cases e1 : f ds with
  | some z' =>
    rw [e1] at e
    cases e
    exact .inl (h H ds vs z Q a e1 k)
  | none =>
    rw [e1] at e
    exact .inr (h' H ds vs z Q a e k)
/-! ### len -/
def dLenQ : List D → Option D
  | [.str z] => if z.length ≤ sizeLine then some (.int z.length) else none
  | [x] => (seqOf x).map fun ds => .int ds.length
  | _ => none
def dLenD : List D → Option D
  | [.dic kvs] => some (.int kvs.length)
  | _ => none
def dLen (xs : List D) : Option D := (dLenQ xs).orElse fun _ => dLenD xs
section
variable {K : PySem.W.Frag} {X : Cx}
theorem cs_lenQ : CallS K (fun xs H Q => ∃ x n, xs = [x] ∧ LenV K x H n ∧ Q (.int n) H) dLenQ := by
  intro H ds vs z Q a e k
  unfold dLenQ at e
  split at e
  · obtain ⟨v, p, rfl, r⟩ := a.one
    obtain ⟨c, rfl⟩ := if_some e
    obtain ⟨rfl, _⟩ := r
    exact ⟨_, _, rfl, ⟨c, rfl⟩, k.flat ⟨rfl, rfl⟩⟩
  · obtain ⟨v, p, rfl, r⟩ := a.one
    obtain ⟨ys, e1, rfl⟩ := Option.map_eq_some_iff.mp e
    obtain ⟨b, ws, g, rfl, hs, rl, _⟩ := r.seq e1
    refine ⟨_, ws.length, rfl, ?_, by rw [rl.length]; exact k.flat ⟨rfl, rfl⟩⟩
    rcases hs with hs | hs
    · exact .inl ⟨ws, hs, rfl⟩
    · exact .inr ⟨ws, hs, rfl⟩
  · cases e
theorem RepK.length {H : Hp} : ∀ {kvs : List (Key × D)} {ws : List (Key × V)} {p : List Addr}, RepK K H kvs ws p → ws.length = kvs.length
  | [], ws, p, r => by rw [r.1]; rfl
  | (k0, d0) :: kvs, ws, p, r => by
    obtain ⟨v, ws', f1, f2, rfl, rfl, r1, r2⟩ := r
    rw [List.length_cons, List.length_cons, RepK.length r2]
theorem cs_lenD : CallS K (fun xs H Q => ∃ a kvs, xs = [V.ref a] ∧ H a = some (.dK kvs) ∧ Q (.int kvs.length) H) dLenD := by
  intro H ds vs z Q a e k
  unfold dLenD at e
  split at e
  · obtain ⟨v, p, rfl, r⟩ := a.one
    cases e
    obtain ⟨b, ws, g, rfl, hb, _, rk⟩ := r
    exact ⟨b, ws, rfl, hb, by rw [rk.length]; exact k.flat ⟨rfl, rfl⟩⟩
  · cases e
theorem cs_len : CallS K (fun xs H Q => (∃ x n, xs = [x] ∧ LenV K x H n ∧ Q (.int n) H) ∨ ∃ a kvs, xs = [V.ref a] ∧ H a = some (.dK kvs) ∧ Q (.int kvs.length) H) dLen := cs_lenQ.or cs_lenD
theorem cx_len : CallR X (.builtin "len") (fun xs H Q => (∃ x n, xs = [x] ∧ LenV X.K x H n ∧ Q (.int n) H) ∨ ∃ a kvs, xs = [V.ref a] ∧ H a = some (.dK kvs) ∧ Q (.int kvs.length) H) := call_len.or call_lenD
/-! ### list, tuple, int, str, abs, sum -/
def dList : List D → Option D
  | [x] => (seqOf x).bind fun ds => if immL ds = true then some (.lst ds) else none
  | _ => none
theorem cs_list : CallS K (fun xs H Q => ∃ p ys, xs = [.ref p] ∧ (SqL K H p ys ∨ SqT K H p ys) ∧ ∀ l, H l = none → Q (.ref l) (upd H l (.lst ys))) dList := by
  intro H ds vs z Q a e k
  unfold dList at e
  split at e
  · obtain ⟨v, p, rfl, r⟩ := a.one
    obtain ⟨ys, e1, e⟩ := Option.bind_eq_some_iff.mp e
    obtain ⟨c, rfl⟩ := if_some e
    obtain ⟨b, ws, g, rfl, hs, rl, _⟩ := r.seq e1
    exact ⟨b, ws, rfl, hs, fun l hl => k.list (rl.nil_of c) hl⟩
  · cases e
def dTuple : List D → Option D
  | [x] => (seqOf x).bind fun ds => if immL ds = true then some (.tup ds) else none
  | _ => none
theorem cs_tuple : CallS K (rTupOf K) dTuple := by
  intro H ds vs z Q a e k
  unfold dTuple at e
  split at e
  · rename_i x
    obtain ⟨v, p, rfl, r⟩ := a.one
    obtain ⟨ys, e1, e⟩ := Option.bind_eq_some_iff.mp e
    obtain ⟨c, rfl⟩ := if_some e
    cases x with
    | tup es =>
      cases e1
      obtain ⟨b, ws, rfl, hs, rl⟩ := r
      exact ⟨b, ws, rfl, .inr ⟨hs.sq, k.flat ⟨b, ws, rfl, hs, rl.nil_of c⟩⟩⟩
    | lst es =>
      obtain ⟨b, ws, g, rfl, hs, rl, _⟩ := r.sqL (show lstOf (.lst es) = some ys from e1)
      exact ⟨b, ws, rfl, .inl ⟨hs, k.tup (rl.nil_of c)⟩⟩
    | flst es =>
      obtain ⟨b, ws, g, rfl, hs, rl, _⟩ := r.sqL (show lstOf (.flst es) = some ys from e1)
      exact ⟨b, ws, rfl, .inl ⟨hs, k.tup (rl.nil_of c)⟩⟩
    | _ => cases e1
  · cases e
def dInt : List D → Option D
  | [.int i] => some (.int i)
  | [.bl b] => some (.int (if b then 1 else 0))
  | _ => none
/-- all whole numbers -/
def intsOf : List D → Option (List Int)
  | [] => some []
  | .int i :: ds => (intsOf ds).map fun is => i :: is
  | _ :: _ => none
theorem RepL.ints {H : Hp} : ∀ {ds : List D} {vs : List V} {p : List Addr} {ns : List Int}, RepL K H ds vs p → intsOf ds = some ns → vs = ns.map V.int ∧ ds = ns.map D.int
  | [], vs, p, ns, r, e => by cases e; exact ⟨r.1, rfl⟩
  | d :: ds, vs, p, ns, r, e => by
    obtain ⟨v, vs', f1, f2, rfl, rfl, r1, r2⟩ := r
    cases d <;> try cases e
    obtain ⟨is, e1, rfl⟩ := Option.map_eq_some_iff.mp e
    obtain ⟨rfl, rfl⟩ := RepL.ints r2 e1
    exact ⟨by rw [r1.1]; rfl, rfl⟩
def dSum : List D → Option D
  | [x] => (lstOf x).bind fun ds => (intsOf ds).map fun ns => .int ns.sum
  | _ => none
theorem cs_sum : CallS K (rSum K) dSum := by
  intro H ds vs z Q a e k
  unfold dSum at e
  split at e
  · obtain ⟨v, p, rfl, r⟩ := a.one
    obtain ⟨ys, e1, e⟩ := Option.bind_eq_some_iff.mp e
    obtain ⟨ns, e2, rfl⟩ := Option.map_eq_some_iff.mp e
    obtain ⟨b, ws, g, rfl, hs, rl, _⟩ := r.sqL e1
    obtain ⟨rfl, _⟩ := rl.ints e2
    exact ⟨b, ns, rfl, hs, k.flat ⟨rfl, rfl⟩⟩
  · cases e
def blsOf : List D → Option (List Bool)
  | [] => some []
  | .bl i :: ds => (blsOf ds).map fun is => i :: is
  | _ :: _ => none
theorem RepL.bls {H : Hp} : ∀ {ds : List D} {vs : List V} {p : List Addr} {ns : List Bool}, RepL K H ds vs p → blsOf ds = some ns → vs = ns.map V.bl
  | [], vs, p, ns, r, e => by cases e; exact r.1
  | d :: ds, vs, p, ns, r, e => by
    obtain ⟨v, vs', f1, f2, rfl, rfl, r1, r2⟩ := r
    cases d <;> try cases e
    obtain ⟨is, e1, rfl⟩ := Option.map_eq_some_iff.mp e
    obtain rfl := RepL.bls r2 e1
    rw [r1.1]; rfl
/-! ### min, max of whole numbers -/
def rMm (K : PySem.W.Frag) (f : Int → Int → Int) : List V → Hp → VK → Prop := fun vs H Q => ∃ (a : Addr) (n : Int) (ns : List Int), vs = [.ref a] ∧ (SqL K H a ((n :: ns).map V.int) ∨ SqT K H a ((n :: ns).map V.int)) ∧ Q (.int (ns.foldl f n)) H
theorem reads_ints {h : Heap} : ∀ {us : List Value} {ns : List Int}, PyProof.Rows.IntsAre us ns → ∃ as, ReadsAll h us (ns.map PyData.int) as
  | _, _, .nil => ⟨_, .nil⟩
  | _, _, .cons n t r => let ⟨as, q⟩ := reads_ints r; ⟨_, .cons (.int n t) q⟩
theorem alike_ints' (ns : List Int) : PySem.W.AlikeAll (ns.map PyData.int) := by
  constructor
  · intro x hx y hy
    obtain ⟨a, _, rfl⟩ := List.mem_map.mp hx
    obtain ⟨b, _, rfl⟩ := List.mem_map.mp hy
    simp [PySem.W.alike]
  · intro x hx
    obtain ⟨a, _, rfl⟩ := List.mem_map.mp hx
    exact fun q => nomatch q
theorem depth_ints' (ns : List Int) : PyData.depthAll (ns.map PyData.int) = 0 := by
  induction ns <;> simp_all [PyData.depthAll, PyData.depth]
/-- the whole numbers of a list, a tuple, as data -/
theorem nums_at {pins : List (Addr × Obj)} {σ : L2.St} {H : Hp} {st : Shared} {a : Addr} {ns : List Int} (I : Inv X pins σ H st) (h : SqL X.K H a (ns.map V.int) ∨ SqT X.K H a (ns.map V.int)) :
    ∃ (zs : List Value) (as : List Addr), ReadsAll st.heap zs (ns.map .int) as ∧ (st.heap.IsList a zs.toArray ∨ st.heap.IsTuple a zs.toArray) :=
  h.elim (fun l => let ⟨zs, rv, p, _⟩ := I.list l; let ⟨as, rd⟩ := reads_ints rv.ints; ⟨zs, as, rd, .inl p.isList⟩)
    fun t => let ⟨zs, rv, p, _⟩ := I.tuple t; let ⟨as, rd⟩ := reads_ints rv.ints; ⟨zs, as, rd, .inr p⟩
theorem mm_end {pins : List (Addr × Obj)} {σ : L2.St} {H : Hp} {st : Shared} {Q : VK} {m : Int} (I : Inv X pins σ H st) (q : Q (.int m) H) {v : Value} {g : Heap} {tk : Nat} {bs : List Addr} (rd : Reads g v (.int m) bs)
    (kp : ∀ b o, st.heap.get? b = some o → g.get? b = some o) : EP X pins σ Q v { st with heap := g, toks := tk } := by
  cases rd
  exact ⟨.int m, H, I.kept kp, ⟨_, rfl⟩, q⟩
theorem shallow {u : Nat} (ns : List Int) (h : u + 1 < cLine) : u + 1 + PyData.depthAll (ns.map .int) < cLine := by rw [depth_ints']; exact h
theorem cx_min (calm : X.calm = true) (hu : X.A.units + 1 < cLine) : CallR X (.builtin "min") (rMm X.K min) := fun pins st σ H _ us Q I r ⟨a, n, ns, ex, at_, q⟩ => by
  subst ex
  rw [Vals.ref1 r]
  obtain ⟨zs, as, rd, p | p⟩ := nums_at I at_
  · exact PySem.W.min_list_data (I.ok.hd calm) p rd (alike_ints' (n :: ns)) (shallow (n :: ns) hu) fun _ _ _ _ _ _ rv kp => mm_end I q (PySem.W.minD_ints n ns ▸ rv) kp
  · exact PySem.W.min_tuple_data (I.ok.hd calm) p rd (alike_ints' (n :: ns)) (shallow (n :: ns) hu) fun _ _ _ _ _ _ rv kp => mm_end I q (PySem.W.minD_ints n ns ▸ rv) kp
def dMm (f : Int → Int → Int) : List D → Option D
  | [x] => (seqOf x).bind fun ds => (intsOf ds).bind fun ns => match ns with
    | [] => none
    | n :: ns => some (.int (ns.foldl f n))
  | _ => none
theorem cs_mm (f : Int → Int → Int) : CallS K (rMm K f) (dMm f) := by
  intro H ds vs z Q a e k
  unfold dMm at e
  split at e
  · obtain ⟨v, p, rfl, r⟩ := a.one
    obtain ⟨ys, e1, e⟩ := Option.bind_eq_some_iff.mp e
    obtain ⟨ns, e2, e⟩ := Option.bind_eq_some_iff.mp e
    obtain ⟨b, ws, g, rfl, hs, rl, _⟩ := r.seq e1
    obtain ⟨rfl, _⟩ := rl.ints e2
    cases ns with
    | nil => cases e
    | cons n ns =>
      cases e
      exact ⟨b, n, ns, rfl, hs, k.flat ⟨rfl, rfl⟩⟩
  · cases e
/-! ### sorted -/
def sortable (ds : List PyData) : Bool := (ds.all fun d => match d with | .tuple (_ :: _) => true | _ => false) || ds.all fun d => match d with | .none => false | .tuple _ => false | _ => true
def allAlike (ds : List PyData) : Bool := ds.all fun d => ds.all fun e => PySem.W.alike d e
theorem sortable_ok {ds : List PyData} (h : sortable ds = true) : PySem.W.Sortable ds := by
  unfold sortable at h
  rw [Bool.or_eq_true, List.all_eq_true, List.all_eq_true] at h
  rcases h with h | h
  · refine .inl fun d hd => ?_
    have q := h d hd
    split at q
    · exact ⟨_, _, rfl⟩
    · cases q
  · refine .inr fun d hd => ?_
    have q := h d hd
    split at q
    · cases q
    · cases q
    · rename_i h1 h2
      exact ⟨h1, fun xs => h2 xs⟩
def rSortedD (K : PySem.W.Frag) : List V → Hp → VK → Prop := fun vs H Q => ∃ (a : Addr) (ds : List D) (ws : List V), vs = [.ref a] ∧ SqL K H a ws ∧ RepL K H ds ws [] ∧ noDicL ds = true ∧ immL ds = true ∧
  sortable (ds.map toP) = true ∧ allAlike (ds.map toP) = true ∧ (∀ d ∈ ds, (toP d).depth ≤ 32) ∧
  ∀ (p : Addr) (xs : List V), H p = none → RepL K H (ds.mergeSort (PySem.W.dataLe false toP)) xs [] → Q (.ref p) (upd H p (.lst xs))
theorem each_of {H : Hp} {R : Value → D → Prop} : ∀ {ds : List D} {vs : List V} {us : List Value}, RepL K H ds vs [] → immL ds = true → Vals vs us → (∀ d v u, d ∈ ds → Rep K H d v [] → RelV v u → R u d) → PySem.W.EachIs R us ds
  | [], vs, us, r, _, rv, _ => by obtain ⟨rfl, _⟩ := r; cases rv; exact .nil
  | d :: ds, vs, us, r, hi, rv, f => by
    obtain ⟨v, vs', f1, f2, rfl, e, r1, r2⟩ := r
    obtain ⟨rfl, rfl⟩ := List.nil_eq_append_iff.mp e
    have hi' : (imm d && immL ds) = true := hi
    rw [Bool.and_eq_true] at hi'
    cases rv with
    | cons a b => exact .cons (f d v _ List.mem_cons_self r1 a) (each_of r2 hi'.2 b fun d' v' u hd => f d' v' u (List.mem_cons_of_mem _ hd))
theorem of_each {H : Hp} : ∀ {us : List Value} {ds : List D}, PySem.W.EachIs (fun u d => ∃ v, RelV v u ∧ Rep K H d v []) us ds → ∃ vs, Vals vs us ∧ RepL K H ds vs []
  | _, _, .nil => ⟨[], .nil, rfl, rfl⟩
  | _, _, .cons h t => by
    obtain ⟨v, r, q⟩ := h
    obtain ⟨vs, r2, q2⟩ := of_each t
    exact ⟨v :: vs, .cons r r2, v, vs, [], [], rfl, rfl, q, q2⟩
theorem noDicL_mem : ∀ {ds : List D} {d : D}, noDicL ds = true → d ∈ ds → noDic d = true
  | x :: ds, d, h, hd => by
    have h' : (noDic x && noDicL ds) = true := h
    rw [Bool.and_eq_true] at h'
    rcases List.mem_cons.mp hd with rfl | hd
    · exact h'.1
    · exact noDicL_mem h'.2 hd
/-- a list's items as they read, and as they are told -/
theorem items_at {pins : List (Addr × Obj)} {σ : L2.St} {H : Hp} {st : Shared} {zs : List Value} {ds : List D} {ws : List V} (I : Inv X pins σ H st) (rl : RepL X.K H ds ws []) (flat : noDicL ds = true) (still : immL ds = true) (rv : Vals ws zs) :
    PySem.W.EachIs (fun v b => ∃ as, Reads st.heap v (toP b) as) zs ds ∧ PySem.W.EachIs (fun u d => ∃ v, RelV v u ∧ Rep X.K H d v []) zs ds :=
  ⟨each_of rl still rv fun d v u hd r1 r2 => Dp.reads I (toP d) v u (Rep.dp d v [] r1 (noDicL_mem flat hd)) r2, each_of rl still rv fun d v u _ r1 r2 => ⟨v, r2, r1⟩⟩
theorem cx_sorted (hu : X.A.units + 40 < cLine) : CallR X (.builtin "sorted") (rSortedD X.K) := fun pins st σ H _ us Q I r ⟨a, ds, ws, ex, at_, rl, flat, still, so, al, dp, q⟩ => by
  subst ex
  rw [Vals.ref1 r]
  have ⟨zs, rv, p, small⟩ := I.list at_
  have count : ws.length = ds.length := rl.length
  have ⟨reads, told⟩ := items_at I rl flat still rv
  apply PySem.W.sorted_data p.isList told reads (fun x hx y hy => List.all_eq_true.mp (List.all_eq_true.mp al x hx) y hy) (sortable_ok so) (count ▸ small)
  · intro b hb
    have := dp b hb
    omega
  · intro out same each
    have ⟨xs, rx, rxl⟩ := of_each each
    have ⟨_, new⟩ := PyProof.Rows.sortedAll_at st.heap zs out.toArray
    have fits : xs.length ≤ sizeLine := by rw [rx.length, same, ← count]; exact small
    exact ⟨.ref _, _, I.laid (t' := st.toks) (o := .lst xs) (fun _ _ => PyProof.Rows.sortedAll_old) (Nat.le_succ _) ⟨fits, out, _, rx, new⟩, rfl, q _ xs (I.hok.fresh (Nat.le_succ _)) rxl⟩
def dSorted : List D → Option D
  | [x] => (lstOf x).bind fun ds => if noDicL ds = true ∧ immL ds = true ∧ sortable (ds.map toP) = true ∧ allAlike (ds.map toP) = true ∧ (∀ d ∈ ds, (toP d).depth ≤ 32) then some (.lst (ds.mergeSort (PySem.W.dataLe false toP))) else none
  | _ => none
theorem cs_sorted : CallS K (rSortedD K) dSorted := by
  intro H ds vs z Q a e k
  unfold dSorted at e
  split at e
  · obtain ⟨v, p, rfl, r⟩ := a.one
    obtain ⟨ys, e1, e⟩ := Option.bind_eq_some_iff.mp e
    obtain ⟨⟨c1, c2, c3, c4, c5⟩, rfl⟩ := if_some e
    obtain ⟨b, ws, g, rfl, hs, rl, _⟩ := r.sqL e1
    exact ⟨b, ys, ws, rfl, hs, rl.nil_of c2, c1, c2, c3, c4, c5, fun p xs hp rx => k.list rx hp⟩
  · cases e
end
end DL
/-! Methods: such as read, such as change what a slot holds. -/
namespace DL
open PySem PySem.Spec L2
/-! ### read -/
def MethS (K : PySem.W.Frag) (r : V → List V → Hp → VK → Prop) (g : D → List D → Option D) : Prop :=
  ∀ (H : Hp) (d : D) (v : V) (p : List Addr) (ds : List D) (vs : List V) (z : D) (Q : VK), Rep K H d v p → Args K H ds vs → g d ds = some z → Tells K H z Q → r v vs H Q
def fMethR (g : D → List D → Option D) (fo : FE) (fr : FA) : FE := fun ρ =>
  (fo ρ).bind fun (x, ρ1) => (cont ρ1 x).bind fun d0 => (fr ρ1).bind fun (rs, ρ2) => (cont ρ2 x).bind fun d => (conts ρ2 rs).bind fun ds => (g d ds).map fun z => (.val z, ρ2)
theorem fMethR_some {g : D → List D → Option D} {fo : FE} {fr : FA} {ρ ρ' : Fm} {r : R} (e : fMethR g fo fr ρ = some (r, ρ')) :
    ∃ x ρ1 d0 rs d ds z, fo ρ = some (x, ρ1) ∧ cont ρ1 x = some d0 ∧ fr ρ1 = some (rs, ρ') ∧ cont ρ' x = some d ∧ conts ρ' rs = some ds ∧ g d ds = some z ∧ r = .val z := by
  unfold fMethR at e
  obtain ⟨⟨x, ρ1⟩, e1, e⟩ := Option.bind_eq_some_iff.mp e
  obtain ⟨d0, e0, e⟩ := Option.bind_eq_some_iff.mp e
  obtain ⟨⟨rs, ρ2⟩, e2, e⟩ := Option.bind_eq_some_iff.mp e
  obtain ⟨d, e3, e⟩ := Option.bind_eq_some_iff.mp e
  obtain ⟨ds, e4, e⟩ := Option.bind_eq_some_iff.mp e
  obtain ⟨z, e5, e⟩ := Option.map_eq_some_iff.mp e
  cases e
  exact ⟨x, ρ1, d0, rs, d, ds, z, e1, e0, e2, e3, e4, e5, rfl⟩
section
variable {K : PySem.W.Frag} {r : V → List V → Hp → VK → Prop} {g : D → List D → Option D} {fo : FE} {fr : FA}
/-- the common part: T what is asked of the receiver as soon as it stands -/
theorem meth_of (hg : MethS K r g) {T : V → Hp → Prop} {σ : L2.St} {H : Hp} {Q : VK} {ρ ρ2 : Fm} {F : List Addr} {x : R} {ρ1 : Fm} {rs : List R} {d0 d : D} {ds : List D} {z : D} (E : EnvR K H ρ σ F) (nd : F.Nodup) (e1 : fo ρ = some (x, ρ1)) (e0 : cont ρ1 x = some d0) (e2 : fr ρ1 = some (rs, ρ2))
    (e3 : cont ρ2 x = some d) (e4 : conts ρ2 rs = some ds) (e5 : g d ds = some z) (hT : ∀ v H p, Rep K H d0 v p → T v H)
    (k : ∀ v H' g F', RepR K H' σ (.val z) v g → EnvR K H' ρ2 σ F' → (g ++ F').Nodup → Step H F H' (g ++ F') → Q v H') :
    rdE K fo σ H fun v H1 => T v H1 ∧ rdA K fr σ H1 fun vs H2 => r v vs H2 Q := by
  refine ⟨ρ, F, x, ρ1, E, nd, e1, fun v H1 g1 F1 r1 E1 N1 S1 => ?_⟩
  obtain ⟨p0, q0, _⟩ := r1.cont E1 e0
  obtain ⟨n1, n2, n3⟩ := nodup3 N1
  refine ⟨hT v H1 p0 q0, ρ1, F1, rs, ρ2, E1, n2, e2, fun vs H2 g2 F2 r2 E2 N2 S2 => ?_⟩
  have r1' := r1.keep (S2.keep E1.mut n3)
  obtain ⟨p, q, _⟩ := r1'.cont E2 e3
  obtain ⟨hl, hi⟩ := r2.conts E2 e4
  refine hg H2 d v p ds vs z Q q ⟨hl, fun i d v a b => let ⟨p, q, _⟩ := hi i d v a b; ⟨p, q⟩⟩ e5 fun u H3 h ru nh fr' sm => ?_
  have S3 : Step H F H2 (g1 ++ (g2 ++ F2)) := fun p u e n => by
    obtain ⟨a1, b1⟩ := S1 p u e n
    obtain ⟨a2, b2⟩ := S2 p u a1 fun z => b1 (List.mem_append_right _ z)
    exact ⟨a2, fun z => (List.mem_append.mp z).elim (fun z => b1 (List.mem_append_left _ z)) b2⟩
  exact k u H3 h F2 ru (E2.keep (Same.keep sm)) (nodup_fresh E2 (nodup3 N2).2.1 nh fr') (S3.fresh sm fr' fun a ha => by simp [ha])
end
/-! ### .index -/
def idxD (ds : List PyData) (y : PyData) : Option Nat := ds.findIdx? fun z => PyData.eqv z y
def dIndexL : D → List D → Option D
  | x, [y] => (lstOf x).bind fun ds => if noDicL ds = true ∧ noDic y = true ∧ SeqAt.shaped (.list (toPL ds)) = true ∧ SeqAt.shaped (toP y) = true then (idxD (toPL ds) (toP y)).map fun j => .int (j : Nat) else none
  | _, _ => none
def dIndexT : D → List D → Option D
  | .tup ds, [.int k] => (intsOf ds).bind fun ns => if k ∈ ns then some (.int (ns.idxOf k : Nat)) else none
  | _, _ => none
/-- .index of a tuple, of a list -/
def fIndex (fo : FE) (fr : FA) : FE := fun ρ => match ((fo ρ).bind fun (x, ρ1) => cont ρ1 x) with
  | some (.tup _) => fMethR dIndexT fo fr ρ
  | some (.lst _) => fMethR dIndexL fo fr ρ
  | some (.flst _) => fMethR dIndexL fo fr ρ
  | _ => none
theorem tyV_lst {K : PySem.W.Frag} {d : D} {ds : List D} (e : lstOf d = some ds) : ∀ v H p, Rep K H d v p → tyV K "list" v H := fun v H p r => by
  obtain ⟨a, vs, g, rfl, hs, _⟩ := r.sqL e
  exact .inl ⟨rfl, vs, hs⟩
section
variable {K : PySem.W.Frag} {X : Cx}
theorem ms_indexL : MethS K (rIndexD K) dIndexL := by
  intro H d v p ds vs z Q r a e k
  unfold dIndexL at e
  split at e
  · obtain ⟨w, q, rfl, r2⟩ := a.one
    obtain ⟨ys, e1, e⟩ := Option.bind_eq_some_iff.mp e
    obtain ⟨⟨c1, c2, c3, c4⟩, e⟩ := by_cases_if e
    obtain ⟨j, e2, rfl⟩ := Option.map_eq_some_iff.mp e
    obtain ⟨b, ws, g, rfl, hs, rl, _⟩ := r.sqL e1
    unfold idxD at e2
    rw [List.findIdx?_eq_some_iff_getElem] at e2
    obtain ⟨hj, e3, e4⟩ := e2
    refine ⟨b, w, _, _, j, _, rfl, rfl, .lst hs (RepL.dp _ _ _ rl c1), Rep.dp _ _ _ r2 c2, c3, c4, List.getElem?_eq_getElem hj, e3, fun m z' hm e5 => ?_, k.flat ⟨rfl, rfl⟩⟩
    obtain ⟨hm2, e6⟩ := List.getElem?_eq_some_iff.mp e5
    have := e4 m hm
    rw [e6] at this
    simpa using this
  · cases e
theorem ms_indexT : MethS K (rTIdx K) dIndexT := by
  intro H d v p ds vs z Q r a e k
  unfold dIndexT at e
  split at e
  · obtain ⟨w, q, rfl, r2⟩ := a.one
    obtain ⟨ns, e1, e⟩ := Option.bind_eq_some_iff.mp e
    obtain ⟨c, rfl⟩ := if_some e
    obtain ⟨b, ws, rfl, hs, rl⟩ := r
    obtain ⟨rfl, _⟩ := rl.ints e1
    exact ⟨b, ns, _, rfl, by rw [r2.1], hs.sq, c, k.flat ⟨rfl, rfl⟩⟩
  · cases e
theorem de_index {E : Expr} {fo : FE} {fr : FA} (hl : PE X E (tBM X.K "list" (rIndexD X.K) (rdE X.K fo) (rdA X.K fr))) (ht : PE X E (tTM X.K (rTIdx X.K) (rdE X.K fo) (rdA X.K fr))) : DE X E (fIndex fo fr) :=
  ⟨pe_weak (pe_or' hl ht) fun σ H Q h => by
    obtain ⟨ρ, F, r, ρ2, E, nd, ef, k⟩ := h
    have fL : ∀ d0 ds0, lstOf d0 = some ds0 → ((fo ρ).bind fun (x, ρ1) => cont ρ1 x) = some d0 → fMethR dIndexL fo fr ρ = some (r, ρ2) →
        tBM X.K "list" (rIndexD X.K) (rdE X.K fo) (rdA X.K fr) σ H Q := by
      intro d0 ds0 hl e6 ef
      obtain ⟨x, ρ1, d0', rs, d, ds, z, e1, e0, e2, e3, e4, e5, rfl⟩ := fMethR_some ef
      rw [e1] at e6
      have e6 : cont ρ1 x = some d0 := e6
      exact meth_of (T := fun v H => tyV X.K "list" v H) ms_indexL E nd e1 e6 e2 e3 e4 e5 (tyV_lst hl) k
    unfold fIndex at ef
    split at ef
    · rename_i t0 e6
      obtain ⟨x, ρ1, d0', rs, d, ds, z, e1, e0, e2, e3, e4, e5, rfl⟩ := fMethR_some ef
      rw [e1] at e6
      have e6 : cont ρ1 x = some (.tup t0) := e6
      refine .inr (meth_of (T := fun v H => ∃ a vs, v = .ref a ∧ TupR X.K H a vs) ms_indexT E nd e1 e6 e2 e3 e4 e5 (fun v H p r => ?_) k)
      obtain ⟨a, vs, e, q, _⟩ := r
      exact ⟨a, vs, e, q⟩
    · rename_i t0 e6; exact .inl (fL _ t0 rfl e6 ef)
    · rename_i t0 e6; exact .inl (fL _ t0 rfl e6 ef)
    · cases ef⟩
end
/-! ### such as change what a slot holds -/
inductive Pth where
  | sl (i : Nat) | ix (i j : Nat) | key (i : Nat) (k : Key)
def getP (ρ : Fm) : Pth → Option D
  | .sl i => slot ρ i
  | .ix i j => match slot ρ i with
    | some (.lst ds) => ds[j]?
    | _ => none
  | .key i k => match slot ρ i with
    | some (.dic kvs) => kvGet kvs k
    | _ => none
def kvSet (kvs : List (Key × D)) (k : Key) (d : D) : List (Key × D) := match kvs with
  | [] => []
  | (k0, d0) :: r => if k0 = k then (k0, d) :: r else (k0, d0) :: kvSet r k d
def setP (ρ : Fm) (d : D) : Pth → Fm
  | .sl i => ρ.set i (some d)
  | .ix i j => match slot ρ i with
    | some (.lst ds) => ρ.set i (some (.lst (ds.set j d)))
    | _ => ρ
  | .key i k => match slot ρ i with
    | some (.dic kvs) => ρ.set i (some (.dic (kvSet kvs k d)))
    | _ => ρ
/-- the value that stands there -/
def valP (H : Hp) (σ : L2.St) : Pth → V → Prop
  | .sl i, v => σ[i]? = some (some v)
  | .ix i j, v => ∃ a vs, σ[i]? = some (some (.ref a)) ∧ H a = some (.lst vs) ∧ vs[j]? = some v
  | .key i k, v => ∃ a ws, σ[i]? = some (some (.ref a)) ∧ H a = some (.dK ws) ∧ valV ws k = some v
section
variable {K : PySem.W.Frag} {H H' : Hp} {F : List Addr} {ρ : Fm} {σ : L2.St}
theorem RepL.hole {d : D} : ∀ {ds : List D} {vs : List V} {f : List Addr} {j : Nat}, RepL K H ds vs f → ds[j]? = some d →
    ∃ v f1 f2 f3, vs[j]? = some v ∧ f = f1 ++ (f2 ++ f3) ∧ Rep K H d v f2 ∧ ∀ (H' : Hp) (d' : D) (g : List Addr), Keep H (f1 ++ f3) H' → Rep K H' d' v g → RepL K H' (ds.set j d') vs (f1 ++ (g ++ f3))
  | [], vs, f, j, r, e => by simp at e
  | d0 :: ds, vs, f, j, r, e => by
    obtain ⟨v, vs', f1, f2, rfl, rfl, r1, r2⟩ := r
    cases j with
    | zero =>
      simp at e
      subst e
      exact ⟨v, [], f1, f2, rfl, rfl, r1, fun H' d' g kp r' => ⟨v, vs', g, f2, rfl, rfl, r', RepL.keep _ _ _ r2 kp⟩⟩
    | succ j =>
      obtain ⟨v2, g1, g2, g3, e2, rfl, q1, q2⟩ := RepL.hole r2 (show ds[j]? = some d by simpa using e)
      refine ⟨v2, f1 ++ g1, g2, g3, by simpa using e2, by simp, q1, fun H' d' g kp r' => ?_⟩
      exact ⟨v, vs', f1, g1 ++ (g ++ g3), rfl, by simp, Rep.keep _ _ _ r1 (kp.sub fun a ha => by simp [ha]), q2 H' d' g (kp.sub fun a ha => by simp at ha ⊢; rcases ha with z | z <;> simp [z]) r'⟩
theorem RepK.hole {k : Key} {d : D} : ∀ {kvs : List (Key × D)} {ws : List (Key × V)} {f : List Addr}, RepK K H kvs ws f → kvGet kvs k = some d →
    ∃ v f1 f2 f3, valV ws k = some v ∧ f = f1 ++ (f2 ++ f3) ∧ Rep K H d v f2 ∧ ∀ (H' : Hp) (d' : D) (g : List Addr), Keep H (f1 ++ f3) H' → Rep K H' d' v g → RepK K H' (kvSet kvs k d') ws (f1 ++ (g ++ f3))
  | [], ws, f, r, e => by cases e
  | (k0, d0) :: kvs, ws, f, r, e => by
    obtain ⟨v, ws', f1, f2, rfl, rfl, r1, r2⟩ := r
    by_cases h : k0 = k
    · have e1 : kvGet ((k0, d0) :: kvs) k = some d0 := by simp [kvGet, List.find?_cons, h]
      rw [e1] at e
      cases e
      refine ⟨v, [], f1, f2, valV_pos h, rfl, r1, fun H' d' g kp r' => ?_⟩
      show RepK K H' (if k0 = k then _ else _) _ _
      rw [if_pos h]
      exact ⟨v, ws', g, f2, rfl, rfl, r', RepK.keep _ _ _ r2 kp⟩
    · have e1 : kvGet ((k0, d0) :: kvs) k = kvGet kvs k := by simp [kvGet, List.find?_cons, h]
      rw [e1] at e
      obtain ⟨v2, g1, g2, g3, e2, rfl, q1, q2⟩ := RepK.hole r2 e
      refine ⟨v2, f1 ++ g1, g2, g3, by rw [valV_neg h]; exact e2, by simp, q1, fun H' d' g kp r' => ?_⟩
      show RepK K H' (if k0 = k then _ else _) _ _
      rw [if_neg h]
      exact ⟨v, ws', f1, g1 ++ (g ++ g3), rfl, by simp, Rep.keep _ _ _ r1 (kp.sub fun a ha => by simp [ha]), q2 H' d' g (kp.sub fun a ha => by simp at ha ⊢; rcases ha with z | z <;> simp [z]) r'⟩
theorem getP_ix {i j : Nat} {d : D} (e : getP ρ (.ix i j) = some d) : ∃ ds, slot ρ i = some (.lst ds) ∧ ds[j]? = some d := by
  have e : (match slot ρ i with | some (.lst ds) => ds[j]? | _ => none) = some d := e
  split at e
  · exact ⟨_, by assumption, e⟩
  · cases e
theorem getP_key {i : Nat} {k : Key} {d : D} (e : getP ρ (.key i k) = some d) : ∃ kvs, slot ρ i = some (.dic kvs) ∧ kvGet kvs k = some d := by
  have e : (match slot ρ i with | some (.dic kvs) => kvGet kvs k | _ => none) = some d := e
  split at e
  · exact ⟨_, by assumption, e⟩
  · cases e
theorem setP_ix {i j : Nat} {ds : List D} {d : D} (e : slot ρ i = some (.lst ds)) : setP ρ d (.ix i j) = ρ.set i (some (.lst (ds.set j d))) := by
  show (match slot ρ i with | some (.lst ds) => ρ.set i (some (.lst (ds.set j d))) | _ => ρ) = _
  rw [e]
theorem setP_key {i : Nat} {k : Key} {kvs : List (Key × D)} {d : D} (e : slot ρ i = some (.dic kvs)) : setP ρ d (.key i k) = ρ.set i (some (.dic (kvSet kvs k d))) := by
  show (match slot ρ i with | some (.dic kvs) => ρ.set i (some (.dic (kvSet kvs k d))) | _ => ρ) = _
  rw [e]
theorem ref_inj {a b : Addr} (h : V.ref a = V.ref b) : a = b := by injection h
/-- the lens of a part f2 of what a slot's thing owns, a0 :: (f1 ++ (f2 ++ f3)) -/
theorem lens_part {i : Nat} {d : D} {v w : V} {F1 F3 f1 f2 f3 : List Addr} {a0 : Addr} {up : D → D} (hi : i < ρ.length) (e1 : σ[i]? = some (some w)) (E1 : EnvR K H (ρ.set i none) σ (F1 ++ F3)) (nd : (F1 ++ ((a0 :: (f1 ++ (f2 ++ f3))) ++ F3)).Nodup)
    (r2 : Rep K H d v f2) (upR : ∀ (H' : Hp) (d' : D) (g : List Addr), Keep H (a0 :: (f1 ++ f3)) H' → Rep K H' d' v g → Rep K H' (up d') w (a0 :: (f1 ++ (g ++ f3)))) :
    ∃ (f G : List Addr), Rep K H d v f ∧ f.Nodup ∧ (∀ a ∈ f, a ∉ G) ∧ (∀ a, a ∈ F1 ++ ((a0 :: (f1 ++ (f2 ++ f3))) ++ F3) ↔ a ∈ f ∨ a ∈ G) ∧
      ∀ (H' : Hp) (d' : D) (f' : List Addr), Rep K H' d' v f' → f'.Nodup → (∀ a ∈ f', a ∉ G) → (∀ a o, H a = some o → a ∉ f → H' a = some o) →
        ∃ F', EnvR K H' (ρ.set i (some (up d'))) σ F' ∧ F'.Nodup ∧ ∀ a, a ∈ F' ↔ a ∈ f' ∨ a ∈ G := by
  have nd' := nodup_mid nd
  obtain ⟨n1, n2, n3⟩ := nodup3 nd'
  obtain ⟨m0, m1⟩ := List.nodup_cons.mp n1
  have m1' := nodup_mid m1
  obtain ⟨k1, k2, k3⟩ := nodup3 m1'
  have dis : ∀ a ∈ f2, a ∉ (a0 :: (f1 ++ f3)) ++ (F1 ++ F3) := fun a hz z => by
    simp only [List.mem_append, List.mem_cons] at z
    rcases z with (rfl | z) | z
    · exact m0 (by simp [hz])
    · exact k3 a hz (by simp; exact z)
    · exact n3 a (by simp [hz]) (by simp; exact z)
  have nd1 : (a0 :: (f1 ++ f3)).Nodup := List.nodup_cons.mpr ⟨fun z => m0 (by simp only [List.mem_append] at z ⊢; rcases z with z | z <;> simp [z]), k2⟩
  have dis1 : ∀ a ∈ a0 :: (f1 ++ f3), a ∉ F1 ++ F3 := fun a ha => n3 a (by simp only [List.mem_append, List.mem_cons] at ha ⊢; rcases ha with z | z | z <;> simp [z])
  refine ⟨f2, (a0 :: (f1 ++ f3)) ++ (F1 ++ F3), r2, k1, dis, fun a => ?_, fun H' d' f' r' x1 x2 kp => ?_⟩
  · simp only [List.mem_append, List.mem_cons]
    constructor
    · rintro (h | (rfl | h | h | h) | h) <;> simp [*]
    · rintro (h | (rfl | h | h) | h | h) <;> simp [*]
  · have kk : ∀ {l : List Addr}, (∀ a ∈ l, a ∈ (a0 :: (f1 ++ f3)) ++ (F1 ++ F3)) → Keep H l H' := fun hl a u ea q => kp a u ea fun z => by
      rcases q with q | q
      · exact q (Rep.mut _ _ _ r2 a z)
      · exact dis a z (hl a q)
    have E2 : EnvR K H' (ρ.set i none) σ (F1 ++ F3) := E1.keep (kk fun a ha => List.mem_append_right _ ha)
    have rw' := upR H' d' f' (kk fun a ha => List.mem_append_left _ ha) r'
    obtain ⟨G1, G3, eg, E3⟩ := E2.put hi e1 rw'
    have s1 : ∀ a ∈ f', a ∉ a0 :: (f1 ++ f3) := fun a ha z => x2 a ha (List.mem_append_left _ z)
    have s2 : ∀ a ∈ f', a ∉ F1 ++ F3 := fun a ha z => x2 a ha (List.mem_append_right _ z)
    have nw : (a0 :: (f1 ++ (f' ++ f3))).Nodup := by
      obtain ⟨q0, q1⟩ := List.nodup_cons.mp nd1
      refine List.nodup_cons.mpr ⟨fun z => ?_, nodup_mid (nodup_of x1 q1 fun a ha z => s1 a ha (List.mem_cons_of_mem _ z))⟩
      simp only [List.mem_append] at z q0
      rcases z with z | z | z
      · exact q0 (.inl z)
      · exact s1 _ z List.mem_cons_self
      · exact q0 (.inr z)
    have nd3 : ((a0 :: (f1 ++ (f' ++ f3))) ++ (G1 ++ G3)).Nodup := by
      rw [← eg]
      refine nodup_of nw n2 fun x hx hy => ?_
      simp only [List.mem_cons, List.mem_append] at hx
      rcases hx with rfl | hx | hx | hx
      · exact dis1 _ List.mem_cons_self hy
      · exact dis1 x (by simp [hx]) hy
      · exact s2 x hx hy
      · exact dis1 x (by simp [hx]) hy
    refine ⟨_, E3, nodup_mid nd3, fun a => ?_⟩
    rw [eg]
    simp only [List.mem_append, List.mem_cons]
    constructor
    · rintro (h | (rfl | h | h | h) | h) <;> simp [*]
    · rintro (h | (rfl | h | h) | h | h) <;> simp [*]
/-- what stands at a path, and the rest of the frame -/
theorem EnvR.lens {p : Pth} {d : D} {v : V} (E : EnvR K H ρ σ F) (nd : F.Nodup) (e : getP ρ p = some d) (hv : valP H σ p v) :
    ∃ (f G : List Addr), Rep K H d v f ∧ f.Nodup ∧ (∀ a ∈ f, a ∉ G) ∧ (∀ a, a ∈ F ↔ a ∈ f ∨ a ∈ G) ∧
      ∀ (H' : Hp) (d' : D) (f' : List Addr), Rep K H' d' v f' → f'.Nodup → (∀ a ∈ f', a ∉ G) → (∀ a o, H a = some o → a ∉ f → H' a = some o) →
        ∃ F', EnvR K H' (setP ρ d' p) σ F' ∧ F'.Nodup ∧ ∀ a, a ∈ F' ↔ a ∈ f' ∨ a ∈ G := by
  cases p with
  | sl i =>
    obtain ⟨w, F1, f, F3, e1, rfl, r1, E1⟩ := E.at (slot_some e)
    have hv : σ[i]? = some (some v) := hv
    rw [e1] at hv
    cases hv
    have nd' := nodup_mid nd
    obtain ⟨n1, n2, n3⟩ := nodup3 nd'
    refine ⟨f, F1 ++ F3, r1, n1, n3, fun a => by simp only [List.mem_append]; constructor <;> (intro h; rcases h with h | h | h <;> simp [h]), fun H' d' f' r' m1 m2 kp => ?_⟩
    have E2 : EnvR K H' (ρ.set i none) σ (F1 ++ F3) := E1.keep fun a u ea q => kp a u ea fun z => by
      rcases q with q | q
      · exact q (Rep.mut _ _ _ r1 a z)
      · exact n3 a z q
    obtain ⟨G1, G3, eg, E3⟩ := E2.put (slot_lt e) e1 r'
    have nd3 : (f' ++ (G1 ++ G3)).Nodup := nodup_of m1 (by rw [← eg]; exact n2) (by rw [← eg]; exact m2)
    exact ⟨_, E3, nodup_mid nd3, fun a => by rw [eg]; simp only [List.mem_append]; constructor <;> (intro h; rcases h with h | h | h <;> simp [h])⟩
  | ix i j =>
    obtain ⟨ds, es, e⟩ := getP_ix e
    obtain ⟨w, F1, f, F3, e1, rfl, r1, E1⟩ := E.at (slot_some es)
    obtain ⟨a0, vs, g, rfl, ha, rfl, rl⟩ := r1
    obtain ⟨b0, ws, q1, q2, q3⟩ := hv
    rw [e1] at q1
    obtain rfl := ref_inj (Option.some.inj (Option.some.inj q1))
    rw [ha] at q2
    cases q2
    obtain ⟨w, f1, f2, f3, e2, rfl, r2, up⟩ := rl.hole e
    rw [e2] at q3
    cases q3
    have key := lens_part (up := fun d' => .lst (ds.set j d')) (slot_lt es) e1 E1 nd r2 fun H' d' g kp r' => ⟨_, _, _, rfl, kp _ _ ha (.inr List.mem_cons_self), rfl, up H' d' g (kp.sub fun a ha => List.mem_cons_of_mem _ ha) r'⟩
    simp only [setP_ix es]
    exact key
  | key i k =>
    obtain ⟨kvs, es, e⟩ := getP_key e
    obtain ⟨w, F1, f, F3, e1, rfl, r1, E1⟩ := E.at (slot_some es)
    obtain ⟨a0, vs, g, rfl, ha, rfl, rl⟩ := r1
    obtain ⟨b0, ws, q1, q2, q3⟩ := hv
    rw [e1] at q1
    obtain rfl := ref_inj (Option.some.inj (Option.some.inj q1))
    rw [ha] at q2
    cases q2
    obtain ⟨w, f1, f2, f3, e2, rfl, r2, up⟩ := rl.hole e
    rw [e2] at q3
    cases q3
    have key := lens_part (up := fun d' => .dic (kvSet kvs k d')) (slot_lt es) e1 E1 nd r2 fun H' d' g kp r' => ⟨_, _, _, rfl, kp _ _ ha (.inr List.mem_cons_self), rfl, up H' d' g (kp.sub fun a ha => List.mem_cons_of_mem _ ha) r'⟩
    simp only [setP_key es]
    exact key
end
end DL
/-! Methods that change what a slot holds; statements. -/
namespace DL
open PySem PySem.Spec L2
abbrev FP := Fm → Option (Pth × Fm)
def rdP (K : PySem.W.Frag) (f : FP) : TE := fun σ H Q => ∃ ρ F p ρ', EnvR K H ρ σ F ∧ F.Nodup ∧ f ρ = some (p, ρ') ∧
  ∀ v H' F', valP H' σ p v → EnvR K H' ρ' σ F' → F'.Nodup → Step H F H' F' → Q v H'
structure DP (X : Cx) (e : Expr) (f : FP) : Prop where
  pe : PE X e (rdP X.K f)
def fpVar (i : Nat) : FP := fun ρ => (slot ρ i).map fun _ => (.sl i, ρ)
section
variable {X : Cx} {e o b : Expr} {es : List Expr} {pos : Pos} {fb : FE} {fr : FA} {fp : FP}
theorem dp_var {i : Nat} (h : PE X e (tVar i)) : DP X e (fpVar i) := ⟨pe_weak h fun σ H Q ⟨ρ, F, p, ρ', E, nd, ef, k⟩ => by
  obtain ⟨d, es, e⟩ := Option.map_eq_some_iff.mp ef
  cases e
  obtain ⟨v, F1, f, F3, e1, _⟩ := E.at (slot_some es)
  exact ⟨v, e1, k v H F e1 E nd Step.refl⟩⟩
end
/-- while what is below a slot's thing is held on to, the slot can't be asked -/
def hide (ρ : Fm) : Pth → Fm
  | .sl _ => ρ
  | .ix i _ => ρ.set i none
  | .key i _ => ρ.set i none
def unhide (ρ1 ρ3 : Fm) : Pth → Fm
  | .sl _ => ρ3
  | .ix i _ => (ρ3.set i none).set i (slot ρ1 i)
  | .key i _ => (ρ3.set i none).set i (slot ρ1 i)
section
variable {K : PySem.W.Frag} {H H2 : Hp} {F F2 G : List Addr} {ρ1 ρ2 ρ3 : Fm} {σ : L2.St}
/-- what is asked meanwhile is asked of the other slots -/
theorem hidden {p : Pth} {d0 : D} {v : V} (E : EnvR K H ρ1 σ F) (nd : F.Nodup) (e : getP ρ1 p = some d0) (hv : valP H σ p v) :
    ∃ Fh, EnvR K H (hide ρ1 p) σ Fh ∧ Fh.Nodup ∧ (∀ a ∈ Fh, a ∈ F) ∧ ∀ (E0 : List Addr), (∀ a ∈ E0, MutO (H a)) → (∀ a ∈ E0, a ∉ F) → ∀ (H2 : Hp) (ρ3 : Fm) (F3 G : List Addr), EnvR K H2 ρ3 σ F3 → (G ++ F3).Nodup → Step H (E0 ++ Fh) H2 (G ++ F3) →
      valP H2 σ p v ∧ ∃ F4, EnvR K H2 (unhide ρ1 ρ3 p) σ F4 ∧ (G ++ F4).Nodup ∧ Step H (E0 ++ F) H2 (G ++ F4) := by
  have gen : ∀ i d, slot ρ1 i = some d → (∀ w f, Rep K H d w f → ∃ a, w = .ref a ∧ a ∈ f) → ∃ Fh, EnvR K H (ρ1.set i none) σ Fh ∧ Fh.Nodup ∧ (∀ a ∈ Fh, a ∈ F) ∧ ∀ (E0 : List Addr), (∀ a ∈ E0, MutO (H a)) → (∀ a ∈ E0, a ∉ F) → ∀ (H2 : Hp) (ρ3 : Fm) (F3 G : List Addr), EnvR K H2 ρ3 σ F3 → (G ++ F3).Nodup → Step H (E0 ++ Fh) H2 (G ++ F3) →
      (∀ a, σ[i]? = some (some (.ref a)) → ∀ u, H a = some u → H2 a = some u) ∧ ∃ F4, EnvR K H2 ((ρ3.set i none).set i (slot ρ1 i)) σ F4 ∧ (G ++ F4).Nodup ∧ Step H (E0 ++ F) H2 (G ++ F4) := by
    intro i d es top
    obtain ⟨w, F1, f, F3', e1, rfl, r1, E1⟩ := E.at (slot_some es)
    have nd' := nodup_mid nd
    obtain ⟨n1, n2, n3⟩ := nodup3 nd'
    refine ⟨F1 ++ F3', E1, n2, fun a ha => by simp at ha ⊢; rcases ha with z | z <;> simp [z], fun E0 hE dE H2 ρ3 F3 G E3 nd3 S => ?_⟩
    have n3' : ∀ a ∈ f, a ∉ E0 ++ (F1 ++ F3') := fun a ha hb => by
      rcases List.mem_append.mp hb with z | z
      · exact dE a z (by simp [ha])
      · exact n3 a ha z
    have mu' : ∀ a ∈ E0 ++ (F1 ++ F3'), MutO (H a) := fun a ha => (List.mem_append.mp ha).elim (hE a) (E1.mut a)
    have kp : Keep H f H2 := S.keep mu' n3'
    have hl : ρ3.length = ρ1.length := E3.length.symm.trans E.length
    have ap : ∀ a ∈ f, a ∉ G ++ F3 := S.apart (Rep.mut _ _ _ r1) n3'
    obtain ⟨A1, a2, A3, rfl, E4⟩ := E3.drop (i := i)
    obtain ⟨B1, B3, eb, E5⟩ := E4.put (by rw [hl]; exact slot_lt es) e1 (Rep.keep _ _ _ r1 kp)
    refine ⟨fun a x1 u eu => ?_, B1 ++ (f ++ B3), by rw [es, List.set_set]; exact E5, ?_, fun a u ea na => ?_⟩
    · rw [e1] at x1
      obtain ⟨a', rfl, ha'⟩ := top _ _ r1
      cases x1
      exact kp a u eu (.inr ha')
    · obtain ⟨m1, m2, m3⟩ := nodup3 nd3
      have q2 : (f ++ (B1 ++ B3)).Nodup := nodup_of n1 (by
        rw [← eb]
        exact (nodup3 (nodup_mid m2)).2.1) fun a ha hb => ap a ha (by rw [← eb] at hb; simp at hb ⊢; rcases hb with z | z <;> simp [z])
      refine nodup_of m1 (nodup_mid q2) fun a ha hb => ?_
      simp only [List.mem_append] at hb
      rcases hb with z | z | z
      · exact m3 a ha (by have : a ∈ A1 ++ A3 := by rw [eb]; simp [z]
                          simp at this ⊢; rcases this with y | y <;> simp [y])
      · exact ap a z (by simp [ha])
      · exact m3 a ha (by have : a ∈ A1 ++ A3 := by rw [eb]; simp [z]
                          simp at this ⊢; rcases this with y | y <;> simp [y])
    · obtain ⟨x1, x2⟩ := S a u ea fun z => na (by simp at z ⊢; rcases z with z | z | z <;> simp [z])
      refine ⟨x1, fun z => ?_⟩
      simp only [List.mem_append] at z x2 na
      rcases z with z | z | z | z
      · exact x2 (.inl z)
      · have : a ∈ A1 ++ A3 := by rw [eb]; simp [z]
        simp at this
        rcases this with y | y <;> exact x2 (by simp [y])
      · exact na (.inr (.inr (.inl z)))
      · have : a ∈ A1 ++ A3 := by rw [eb]; simp [z]
        simp at this
        rcases this with y | y <;> exact x2 (by simp [y])
  cases p with
  | sl i => exact ⟨F, E, nd, fun a ha => ha, fun E0 _ _ H2 ρ3 F3 G E3 nd3 S => ⟨hv, F3, E3, nd3, S⟩⟩
  | ix i j =>
    obtain ⟨ds, es, e⟩ := getP_ix e
    obtain ⟨Fh, h1, h2, h3, h4⟩ := gen i _ es fun w f r => by obtain ⟨a, _, _, q1, _, q2, _⟩ := r; exact ⟨a, q1, by rw [q2]; exact List.mem_cons_self⟩
    refine ⟨Fh, h1, h2, h3, fun E0 hE dE H2 ρ3 F3 G E3 nd3 S => ?_⟩
    obtain ⟨k1, k2⟩ := h4 E0 hE dE H2 ρ3 F3 G E3 nd3 S
    refine ⟨?_, k2⟩
    obtain ⟨a, vs, q1, q2, q3⟩ := hv
    exact ⟨a, vs, q1, k1 a q1 _ q2, q3⟩
  | key i k =>
    obtain ⟨kvs, es, e⟩ := getP_key e
    obtain ⟨Fh, h1, h2, h3, h4⟩ := gen i _ es fun w f r => by obtain ⟨a, _, _, q1, _, q2, _⟩ := r; exact ⟨a, q1, by rw [q2]; exact List.mem_cons_self⟩
    refine ⟨Fh, h1, h2, h3, fun E0 hE dE H2 ρ3 F3 G E3 nd3 S => ?_⟩
    obtain ⟨k1, k2⟩ := h4 E0 hE dE H2 ρ3 F3 G E3 nd3 S
    refine ⟨?_, k2⟩
    obtain ⟨a, vs, q1, q2, q3⟩ := hv
    exact ⟨a, vs, q1, k1 a q1 _ q2, q3⟩
end
end DL
/-! Methods that change a thing, stores. -/
namespace DL
open PySem PySem.Spec L2
def MutS (K : PySem.W.Frag) (r : V → List V → Hp → VK → Prop) (g : D → List D → Option (D × D)) : Prop :=
  ∀ (H : Hp) (d : D) (v : V) (f : List Addr) (ds : List D) (vs : List V) (p : List Addr) (d' z : D) (Q : VK), Rep K H d v f → RepL K H ds vs p → (f ++ p).Nodup → g d ds = some (d', z) →
    (∀ u H' f' h, Rep K H' d' v f' → Rep K H' z u h → (h ++ f').Nodup → (∀ a, a ∈ h ++ f' → a ∈ f ++ p ∨ H a = none) → (∀ a o, H a = some o → a ∉ f → H' a = some o) → Q u H') → r v vs H Q
def fMut (ok : D → Bool) (g : D → List D → Option (D × D)) (fp : FP) (fr : FA) : FE := fun ρ =>
  (fp ρ).bind fun (p, ρ1) => (getP ρ1 p).bind fun d0 => if ok d0 then (fr (hide ρ1 p)).bind fun (rs, ρ2) => (takes ρ2 rs).bind fun (ds, ρ3) =>
    (getP (unhide ρ1 ρ3 p) p).bind fun d => (g d ds).map fun (d', z) => (.val z, setP (unhide ρ1 ρ3 p) d' p) else none
def isLst : D → Bool
  | .lst _ => true
  | _ => false
section
variable {K : PySem.W.Frag} {X : Cx} {r : V → List V → Hp → VK → Prop} {g : D → List D → Option (D × D)} {fp : FP} {fr : FA}
/-- a thing is changed where it stands -/
theorem change {H H2 : Hp} {F F4 p2 : List Addr} {ρ4 : Fm} {σ : L2.St} {p : Pth} {d d' z : D} {ds : List D} {v : V} {vs : List V} {Q : VK} (hg : MutS K r g) (S : Step H F H2 (p2 ++ F4)) (E4 : EnvR K H2 ρ4 σ F4) (N4 : (p2 ++ F4).Nodup) (rd : RepL K H2 ds vs p2)
    (hv : valP H2 σ p v) (e3 : getP ρ4 p = some d) (e4 : g d ds = some (d', z)) (k : ∀ u H' h F', Rep K H' z u h → EnvR K H' (setP ρ4 d' p) σ F' → (h ++ F').Nodup → Step H F H' (h ++ F') → Q u H') : r v vs H2 Q := by
  obtain ⟨n1, n2, n3⟩ := nodup3 N4
  obtain ⟨f, G', rf, nf, dis, mem, up⟩ := E4.lens n2 e3 hv
  have inF : ∀ a, a ∈ f → a ∈ F4 := fun a ha => (mem a).mpr (.inl ha)
  have inG : ∀ a, a ∈ G' → a ∈ F4 := fun a ha => (mem a).mpr (.inr ha)
  refine hg H2 d v f ds vs p2 d' z Q rf rd (nodup_of nf n1 fun a ha hb => n3 a hb (inF a ha)) e4 fun u H3 f' h r1 r2 nd mm kp => ?_
  obtain ⟨m1, m2, m3⟩ := nodup3 nd
  have notG : ∀ a, a ∈ h ++ f' → a ∉ G' := fun a ha hb => by
    rcases mm a ha with q | q
    · rcases List.mem_append.mp q with q | q
      · exact dis a q hb
      · exact n3 a q (inG a hb)
    · obtain ⟨u, eu⟩ := (E4.mut a (inG a hb)).some_
      rw [q] at eu
      cases eu
  obtain ⟨F', E', nd', mem'⟩ := up H3 d' f' r1 m2 (fun a ha => notG a (List.mem_append_right _ ha)) kp
  refine k u H3 h F' r2 E' (nodup_of m1 nd' fun a ha hb => ?_) fun a w ea na => ?_
  · rcases (mem' a).mp hb with q | q
    · exact m3 a ha q
    · exact notG a (List.mem_append_left _ ha) q
  · obtain ⟨x1, x2⟩ := S a w ea na
    have x3 : a ∉ F4 := fun q => x2 (List.mem_append_right _ q)
    refine ⟨kp a w x1 fun q => x3 (inF a q), fun q => ?_⟩
    have : a ∈ h ++ f' ∨ a ∈ G' := by
      rcases List.mem_append.mp q with q | q
      · exact .inl (List.mem_append_left _ q)
      · rcases (mem' a).mp q with q | q
        · exact .inl (List.mem_append_right _ q)
        · exact .inr q
    rcases this with q | q
    · rcases mm a q with y | y
      · rcases List.mem_append.mp y with y | y
        · exact x3 (inF a y)
        · exact x2 (List.mem_append_left _ y)
      · rw [y] at x1; cases x1
    · exact x3 (inG a q)
theorem mut_of {ok : D → Bool} {T : V → Hp → Prop} (hg : MutS K r g) (hT : ∀ d v H f, ok d = true → Rep K H d v f → T v H) {σ : L2.St} {H : Hp} {Q : VK} (h : rdE K (fMut ok g fp fr) σ H Q) :
    rdP K fp σ H fun v H1 => T v H1 ∧ rdA K fr σ H1 fun vs H2 => r v vs H2 Q := by
  obtain ⟨ρ, F, r0, ρ', E, nd, ef, k⟩ := h
  obtain ⟨⟨p, ρ1⟩, e1, ef⟩ := Option.bind_eq_some_iff.mp ef
  obtain ⟨d0, e0, ef⟩ := Option.bind_eq_some_iff.mp ef
  obtain ⟨c, ef⟩ := by_cases_if ef
  obtain ⟨⟨rs, ρ2⟩, e2, ef⟩ := Option.bind_eq_some_iff.mp ef
  obtain ⟨⟨ds, ρ3⟩, e5, ef⟩ := Option.bind_eq_some_iff.mp ef
  obtain ⟨d, e3, ef⟩ := Option.bind_eq_some_iff.mp ef
  obtain ⟨⟨d', z⟩, e4, ef⟩ := Option.map_eq_some_iff.mp ef
  cases ef
  refine ⟨ρ, F, p, ρ1, E, nd, e1, fun v H1 F1 hv E1 N1 S1 => ?_⟩
  obtain ⟨f0, _, r00, _⟩ := E1.lens N1 e0 hv
  refine ⟨hT d0 v H1 f0 c r00, ?_⟩
  obtain ⟨Fh, Eh, nh, sub, cont⟩ := hidden E1 N1 e0 hv
  refine ⟨hide ρ1 p, Fh, rs, ρ2, Eh, nh, e2, fun vs H2 g2 F2 r2 E2 N2 S2 => ?_⟩
  obtain ⟨p2, F3, rd, E3, N3, s3⟩ := r2.takes E2 N2 e5
  obtain ⟨hv2, F4, E4, N4, S4⟩ := cont [] (by simp) (by simp) H2 ρ3 F3 p2 E3 N3 (S2.to fun a ha => .inl (s3 a ha))
  exact change hg (S1.trans S4) E4 N4 rd hv2 e3 e4 fun u H' h F' r1 E' n' S' => k u H' h F' r1 E' n' S'
theorem ok_lst {d : D} {v : V} {H : Hp} {f : List Addr} (h : isLst d = true) (r : Rep K H d v f) : tyV K "list" v H := by
  cases d <;> try cases h
  obtain ⟨a, vs, g, rfl, ha, _⟩ := r
  exact .inl ⟨rfl, vs, SqL.of ha⟩
theorem de_mut {E : Expr} (h : PE X E (tBM X.K "list" r (rdP X.K fp) (rdA X.K fr))) (hg : MutS X.K r g) : DE X E (fMut isLst g fp fr) :=
  ⟨pe_weak h fun σ H Q q => mut_of hg (fun d v H f c r => ok_lst c r) q⟩
end
/-! ### append, pop, insert, extend -/
section
variable {K : PySem.W.Frag} {H : Hp}
theorem keep_upd {a : Addr} {o : HO} {l : List Addr} (mu : MutO (H a)) (hl : a ∉ l) : Keep H l (upd H a o) := fun b u e q => by
  rw [upd_ne (a := a) (b := b) ?_]
  · exact e
  · rintro rfl
    rcases q with q | q
    · exact q mu
    · exact hl q
theorem upd_other {a : Addr} {o : HO} {g : List Addr} : ∀ b u, H b = some u → b ∉ a :: g → upd H a o b = some u := fun b u e n => by
  rw [upd_ne fun z => n (by rw [z]; exact List.mem_cons_self)]; exact e
def mAppend : D → List D → Option (D × D)
  | .lst ds, [y] => if ds.length < sizeLine then some (.lst (ds ++ [y]), .non) else none
  | _, _ => none
theorem RepL.one {d : D} {vs : List V} {p : List Addr} (h : RepL K H [d] vs p) : ∃ v, vs = [v] ∧ Rep K H d v p := by
  obtain ⟨v, vs', f1, f2, rfl, rfl, r1, r2⟩ := h
  obtain ⟨rfl, rfl⟩ := r2
  exact ⟨v, rfl, by rw [List.append_nil]; exact r1⟩
theorem RepL.of_one {d : D} {v : V} {p : List Addr} (h : Rep K H d v p) : RepL K H [d] [v] p := ⟨v, [], p, [], rfl, by simp, h, rfl, rfl⟩
theorem mu_append : MutS K rAppend mAppend := by
  intro H d v f ds vs p d' z Q r ra nd e k
  unfold mAppend at e
  split at e
  · obtain ⟨c, e⟩ := if_some e
    cases e
    obtain ⟨w, rfl, rw'⟩ := ra.one
    obtain ⟨a, ws, g, rfl, ha, rfl, rl⟩ := r
    obtain ⟨n0, n1⟩ := List.nodup_cons.mp nd
    have mu : MutO (H a) := by rw [ha]; trivial
    refine ⟨a, ws, w, rfl, rfl, ha, by rw [rl.length]; exact c, k .non _ (a :: (g ++ p)) [] ⟨a, _, _, rfl, upd_same, rfl, ?_⟩ ⟨rfl, rfl⟩ nd (fun b hb => .inl hb) upd_other⟩
    exact RepL.keep _ _ _ (rl.append (RepL.of_one rw')) (keep_upd mu n0)
  · cases e
def mPopAt : D → List D → Option (D × D)
  | .lst ds, [.int i] => if i.natAbs < 2 ^ 63 then (ixN ds.length i).bind fun j => (ds[j]?).map fun y => (.lst (ds.eraseIdx j), y) else none
  | _, _ => none
theorem pop_core {H : Hp} {a : Addr} {ws : List V} {ds : List D} {g : List Addr} {j : Nat} {y : D} {Q : VK} (ha : H a = some (.lst ws)) (rl : RepL K H ds ws g) (nd : (a :: g).Nodup) (e : ds[j]? = some y)
    (k : ∀ u H' f' h, Rep K H' (.lst (ds.eraseIdx j)) (.ref a) f' → Rep K H' y u h → (h ++ f').Nodup → (∀ b, b ∈ h ++ f' → b ∈ a :: g ∨ H b = none) → (∀ b o, H b = some o → b ∉ a :: g → H' b = some o) → Q u H') :
    ∃ w, ws[j]? = some w ∧ Q w (upd H a (.lst (ws.eraseIdx j))) := by
  obtain ⟨w, f1, f2, f3, e2, rfl, r2, _, re⟩ := rl.at e
  obtain ⟨n0, n1⟩ := List.nodup_cons.mp nd
  have mu : MutO (H a) := by rw [ha]; trivial
  have n2 := nodup_mid n1
  obtain ⟨q1, q2, q3⟩ := nodup3 n2
  have na2 : a ∉ f2 := fun z => n0 (by simp [z])
  have na13 : a ∉ f1 ++ f3 := fun z => n0 (by simp at z ⊢; rcases z with z | z <;> simp [z])
  refine ⟨w, e2, k w _ (a :: (f1 ++ f3)) f2 ⟨a, _, _, rfl, upd_same, rfl, RepL.keep _ _ _ re (keep_upd mu na13)⟩ (Rep.keep _ _ _ r2 (keep_upd mu na2)) (nodup_of q1 (List.nodup_cons.mpr ⟨na13, q2⟩) fun b hb hc => ?_) (fun b hb => .inl ?_) upd_other⟩
  · rcases List.mem_cons.mp hc with rfl | hc
    · exact na2 hb
    · exact q3 b hb hc
  · simp only [List.mem_append, List.mem_cons] at hb ⊢
    rcases hb with h | rfl | h | h <;> simp [*]
theorem mu_popAt : MutS K rPopAt mPopAt := by
  intro H d v f ds vs p d' z Q r ra nd e k
  unfold mPopAt at e
  split at e
  · rename_i i
    obtain ⟨c0, e⟩ := by_cases_if e
    have c1 : -(2 ^ 63) ≤ i := by omega
    have c2 : i < 2 ^ 63 := by omega
    obtain ⟨j, ej, e⟩ := Option.bind_eq_some_iff.mp e
    obtain ⟨y, e1, e⟩ := Option.map_eq_some_iff.mp e
    cases e
    obtain ⟨w0, rfl, rw'⟩ := ra.one
    obtain ⟨rfl, rfl⟩ := rw'
    obtain ⟨a, ws, g, rfl, ha, rfl, rl⟩ := r
    rw [List.append_nil] at nd
    obtain ⟨w, e2, q⟩ := pop_core ha rl nd e1 fun u H' f' h r1 r2 nd' mm kp => k u H' f' h r1 r2 nd' (fun b hb => (mm b hb).imp (fun z => by simpa using z) id) kp
    exact ⟨a, ws, _, j, w, rfl, rfl, ha, c1, c2, (ixN_seq (by rw [rl.length]; exact ej)).1, e2, q⟩
  · cases e
def mExtend : D → List D → Option (D × D)
  | .lst ds, [.lst es] => if ds.length + es.length ≤ sizeLine then some (.lst (ds ++ es), .non) else none
  | _, _ => none
theorem mu_extend : MutS K rExtend mExtend := by
  intro H d v f ds vs p d' z Q r ra nd e k
  unfold mExtend at e
  split at e
  · obtain ⟨c, e⟩ := if_some e
    cases e
    obtain ⟨w, rfl, rw'⟩ := ra.one
    obtain ⟨b, us, gb, rfl, hb, rfl, rb⟩ := rw'
    obtain ⟨a, ws, g, rfl, ha, rfl, rl⟩ := r
    obtain ⟨n0, n1⟩ := List.nodup_cons.mp nd
    have mu : MutO (H a) := by rw [ha]; trivial
    obtain ⟨y1, y2, y3⟩ := nodup3 n1
    obtain ⟨y4, y5⟩ := List.nodup_cons.mp y2
    have na : a ∉ g ++ gb := fun z => n0 (by simp at z ⊢; rcases z with z | z <;> simp [z])
    refine ⟨a, b, ws, us, rfl, rfl, ha, hb, by rw [rl.length, rb.length]; exact c, k .non _ (a :: (g ++ gb)) [] ⟨a, _, _, rfl, upd_same, rfl, ?_⟩ ⟨rfl, rfl⟩ (List.nodup_cons.mpr ⟨na, nodup_of y1 y5 fun x hx hy => y3 x hx (List.mem_cons_of_mem _ hy)⟩) (fun x hx => .inl ?_) upd_other⟩
    · exact RepL.keep _ _ _ (rl.append rb) (keep_upd mu na)
    · simp only [List.mem_append, List.mem_cons, List.nil_append] at hx ⊢
      rcases hx with rfl | h | h <;> simp [*]
  · cases e
/-! ### stores -/
def dStore (c key dv : D) : Option D := match c, key with
  | .lst ds, .int k => (ixN ds.length k).bind fun j => if j < ds.length then some (.lst (ds.set j dv)) else none
  | .dic kvs, key => (keyOf key).bind fun k => if imm dv = true ∧ kvs.length < sizeLine then some (.dic (kvPut kvs k dv)) else none
  | _, _ => none
theorem RepK.put {k : Key} {d : D} {v : V} (r : Rep K H d v []) : ∀ {kvs : List (Key × D)} {ws : List (Key × V)} {f : List Addr}, RepK K H kvs ws f → f.Nodup → ∃ g, RepK K H (kvPut kvs k d) (putK ws k v) g ∧ g.Nodup ∧ ∀ a ∈ g, a ∈ f := by
  intro kvs ws f h nd
  have hm : ∀ {kvs : List (Key × D)} {ws : List (Key × V)} {f : List Addr}, RepK K H kvs ws f → f.Nodup →
      ∃ g, RepK K H (kvs.map fun kv => if kv.1 = k then (kv.1, d) else kv) (ws.map fun kv => if kv.1 = k then (kv.1, v) else kv) g ∧ g.Nodup ∧ ∀ a ∈ g, a ∈ f := by
    intro kvs
    induction kvs with
    | nil => intro ws f h nd; obtain ⟨rfl, rfl⟩ := h; exact ⟨[], ⟨rfl, rfl⟩, nd, fun a ha => ha⟩
    | cons x kvs ih =>
      intro ws f h nd
      obtain ⟨k0, d0⟩ := x
      obtain ⟨v0, ws', f1, f2, rfl, rfl, r1, r2⟩ := h
      obtain ⟨n1, n2, n3⟩ := nodup3 nd
      obtain ⟨g, q1, q2, q3⟩ := ih r2 n2
      by_cases e : k0 = k
      · refine ⟨g, ?_, q2, fun a ha => List.mem_append_right _ (q3 a ha)⟩
        simp only [List.map_cons, e, if_true]
        exact ⟨v, _, [], g, rfl, rfl, r, q1⟩
      · refine ⟨f1 ++ g, ?_, nodup_of n1 q2 fun a ha hb => n3 a ha (q3 a hb), fun a ha => ?_⟩
        · simp only [List.map_cons, e, if_false]
          exact ⟨v0, _, f1, g, rfl, rfl, r1, q1⟩
        · rcases List.mem_append.mp ha with ha | ha
          · exact List.mem_append_left _ ha
          · exact List.mem_append_right _ (q3 a ha)
  have ha : ∀ {kvs : List (Key × D)} {ws : List (Key × V)} {f : List Addr}, RepK K H kvs ws f → RepK K H (kvs ++ [(k, d)]) (ws ++ [(k, v)]) f ∧ (kvs.any fun kv => decide (kv.1 = k)) = ws.any fun kv => decide (kv.1 = k) := by
    intro kvs
    induction kvs with
    | nil => intro ws f h; obtain ⟨rfl, rfl⟩ := h; exact ⟨⟨v, [], [], [], rfl, rfl, r, rfl, rfl⟩, rfl⟩
    | cons x kvs ih =>
      intro ws f h
      obtain ⟨k0, d0⟩ := x
      obtain ⟨v0, ws', f1, f2, rfl, rfl, r1, r2⟩ := h
      obtain ⟨q1, q2⟩ := ih r2
      exact ⟨⟨v0, _, f1, f2, rfl, rfl, r1, q1⟩, by rw [List.any_cons, List.any_cons, q2]⟩
  obtain ⟨q1, q2⟩ := ha h
  unfold kvPut putK
  rw [q2]
  split
  · exact hm h nd
  · exact ⟨f, q1, nd, fun a ha => ha⟩
end
end DL
/-! Statements, loops. -/
namespace DL
open PySem PySem.Spec L2
inductive Fl where
  | nx | bk | ct | ret (d : D)
abbrev FS := Fm → Option (Fl × Fm)
/-- what is to be shown at a statement's end: W the slots that it may store -/
def Post (K : PySem.W.Frag) (W : List Nat) (Dn : Ends) (σ : L2.St) (H : Hp) (F : List Addr) (o : Fl) (ρ' : Fm) : Prop := match o with
  | .nx => ∀ σ' H' F', EnvR K H' ρ' σ' F' → F'.Nodup → Step H F H' F' → (∀ j, j ∉ W → σ'[j]? = σ[j]?) → Dn.nx σ' H'
  | .bk => ∀ σ' H' F', EnvR K H' ρ' σ' F' → F'.Nodup → Step H F H' F' → (∀ j, j ∉ W → σ'[j]? = σ[j]?) → Dn.bk σ' H'
  | .ct => ∀ σ' H' F', EnvR K H' ρ' σ' F' → F'.Nodup → Step H F H' F' → (∀ j, j ∉ W → σ'[j]? = σ[j]?) → Dn.ct σ' H'
  | .ret d => ∀ v σ' H' g F', Rep K H' d v g → EnvR K H' ρ' σ' F' → (g ++ F').Nodup → Step H F H' (g ++ F') → (∀ j, j ∉ W → σ'[j]? = σ[j]?) → Dn.rt v H'
def rdS (K : PySem.W.Frag) (W : List Nat) (f : FS) : TS := fun Dn σ H => ∃ ρ F o ρ', EnvR K H ρ σ F ∧ F.Nodup ∧ f ρ = some (o, ρ') ∧ Post K W Dn σ H F o ρ'
structure DS (X : Cx) (W : List Nat) (st : Stmt) (f : FS) : Prop where
  ps : PS X st (rdS X.K W f)
structure DSs (X : Cx) (W : List Nat) (st : List Stmt) (f : FS) : Prop where
  pss : PSs X st (rdS X.K W f)
theorem Post.mono {K : PySem.W.Frag} {W W' : List Nat} {Dn : Ends} {σ : L2.St} {H : Hp} {F : List Addr} {o : Fl} {ρ' : Fm} (h : Post K W' Dn σ H F o ρ') (hs : ∀ j, j ∈ W → j ∈ W') : Post K W Dn σ H F o ρ' := by
  cases o with
  | nx => exact fun σ' H' F' a b c d => h σ' H' F' a b c fun j hj => d j fun z => hj (hs j z)
  | bk => exact fun σ' H' F' a b c d => h σ' H' F' a b c fun j hj => d j fun z => hj (hs j z)
  | ct => exact fun σ' H' F' a b c d => h σ' H' F' a b c fun j hj => d j fun z => hj (hs j z)
  | ret x => exact fun v σ' H' g F' a b c d e => h v σ' H' g F' a b c d fun j hj => e j fun z => hj (hs j z)
/-- behind a first part that ended plainly -/
theorem Post.after {K : PySem.W.Frag} {W1 W2 : List Nat} {Dn : Ends} {σ σ1 : L2.St} {H H1 : Hp} {F F1 : List Addr} {o : Fl} {ρ' : Fm} (h : Post K (W1 ++ W2) Dn σ H F o ρ') (S : Step H F H1 F1) (hw : ∀ j, j ∉ W1 → σ1[j]? = σ[j]?) : Post K W2 Dn σ1 H1 F1 o ρ' := by
  have key : ∀ {σ' : L2.St}, (∀ j, j ∉ W2 → σ'[j]? = σ1[j]?) → ∀ j, j ∉ W1 ++ W2 → σ'[j]? = σ[j]? := fun h2 j hj => by
    rw [List.mem_append, not_or] at hj
    rw [h2 j hj.2, hw j hj.1]
  cases o with
  | nx => exact fun σ' H' F' a b c d => h σ' H' F' a b (S.trans c) (key d)
  | bk => exact fun σ' H' F' a b c d => h σ' H' F' a b (S.trans c) (key d)
  | ct => exact fun σ' H' F' a b c d => h σ' H' F' a b (S.trans c) (key d)
  | ret x => exact fun v σ' H' g F' a b c d e => h v σ' H' g F' a b c (S.trans d) (key e)
theorem Post.step {K : PySem.W.Frag} {W : List Nat} {Dn : Ends} {σ : L2.St} {H H1 : Hp} {F F1 : List Addr} {o : Fl} {ρ' : Fm} (h : Post K W Dn σ H F o ρ') (S : Step H F H1 F1) : Post K W Dn σ H1 F1 o ρ' :=
  Post.after (W1 := []) h S fun _ _ => rfl
def fSkip : FS := fun ρ => some (.nx, ρ)
def fSeq (f g : FS) : FS := fun ρ => (f ρ).bind fun (o, ρ1) => match o with
  | .nx => g ρ1
  | o => some (o, ρ1)
section
variable {X : Cx} {st : Stmt} {rest : List Stmt} {f g : FS} {W W1 W2 : List Nat} {e c : Expr} {fe : FE} {ft : FT} {pos : Pos}
theorem dss_nil : DSs X [] [] fSkip := ⟨pss_weak pss_nil fun Dn σ H ⟨ρ, F, o, ρ', E, nd, ef, k⟩ => by
  cases ef
  exact k σ H F E nd Step.refl fun _ _ => rfl⟩
theorem dss_one (h : DS X W st f) : DSs X W [st] f := ⟨pss_one h.ps⟩
theorem dss_cons (h1 : DS X W1 st f) (h2 : DSs X W2 rest g) : DSs X (W1 ++ W2) (st :: rest) (fSeq f g) := ⟨pss_weak (pss_cons h1.ps h2.pss) fun Dn σ H ⟨ρ, F, o, ρ', E, nd, ef, k⟩ => by
  obtain ⟨⟨o1, ρ1⟩, e1, ef⟩ := Option.bind_eq_some_iff.mp ef
  refine ⟨ρ, F, o1, ρ1, E, nd, e1, ?_⟩
  cases o1 with
  | nx => exact fun σ1 H1 F1 E1 N1 S1 w1 => ⟨ρ1, F1, o, ρ', E1, N1, ef, k.after S1 w1⟩
  | bk => cases ef; exact k.mono fun j hj => List.mem_append_left _ hj
  | ct => cases ef; exact k.mono fun j hj => List.mem_append_left _ hj
  | ret d => cases ef; exact k.mono fun j hj => List.mem_append_left _ hj⟩
/-- e alone in a row: only what it changes counts -/
def fDrop (fe : FE) : FS := fun ρ => (fe ρ).map fun (_, ρ1) => (.nx, ρ1)
theorem ds_expr (he : DE X e fe) (hs : swapsWith e none pos.line X.env = pure false := by rfl) : DS X [] (.Expr e pos) (fDrop fe) := ⟨ps_weak (ps_expr he.pe hs) fun Dn σ H ⟨ρ, F, o, ρ', E, nd, ef, k⟩ => by
  obtain ⟨⟨r, ρ1⟩, e1, ef⟩ := Option.map_eq_some_iff.mp ef
  cases ef
  exact ⟨ρ, F, r, ρ', E, nd, e1, fun v H' g F' r1 E1 N1 S1 => k σ H' F' E1 (nodup3 N1).2.1 (S1.to fun a ha => .inl (List.mem_append_right _ ha)) fun _ _ => rfl⟩⟩
def fRet (fe : FE) : FS := fun ρ => (fe ρ).bind fun (r, ρ1) => (take1 ρ1 r).map fun (d, ρ2) => (.ret d, ρ2)
theorem ds_ret (he : DE X e fe) : DS X [] (.Return (some e) pos) (fRet fe) := ⟨ps_weak (ps_ret he.pe) fun Dn σ H ⟨ρ, F, o, ρ', E, nd, ef, k⟩ => by
  obtain ⟨⟨r, ρ1⟩, e1, ef⟩ := Option.bind_eq_some_iff.mp ef
  obtain ⟨⟨d, ρ2⟩, e2, ef⟩ := Option.map_eq_some_iff.mp ef
  cases ef
  refine ⟨ρ, F, r, ρ1, E, nd, e1, fun v H' g F' r1 E1 N1 S1 => ?_⟩
  obtain ⟨p, F2, r2, E2, N2, s2⟩ := r1.take E1 N1 e2
  exact k v σ H' p F2 r2 E2 N2 (S1.to fun a ha => .inl (s2 a ha)) fun _ _ => rfl⟩
def fRetN : FS := fun ρ => some (.ret .non, ρ)
def fIfS (ft : FT) (f g : FS) : FS := fun ρ => (ft ρ).bind fun (k, ρ1) => if k then f ρ1 else g ρ1
theorem ds_if {a b : List Stmt} (hc : DT X c ft) (ha : DSs X W1 a f) (hb : DSs X W2 b g) : DS X (W1 ++ W2) (.If c a b pos) (fIfS ft f g) := ⟨ps_weak (ps_if hc.pt ha.pss hb.pss) fun Dn σ H ⟨ρ, F, o, ρ', E, nd, ef, k⟩ => by
  obtain ⟨⟨k1, ρ1⟩, e1, ef⟩ := Option.bind_eq_some_iff.mp ef
  refine ⟨ρ, F, k1, ρ1, E, nd, e1, fun H' F' E1 N1 S1 => ?_⟩
  cases k1 with
  | true =>
    rw [if_pos rfl]
    exact ⟨ρ1, F', o, ρ', E1, N1, ef, (k.mono fun j hj => List.mem_append_left _ hj).step S1⟩
  | false =>
    rw [if_neg Bool.false_ne_true]
    exact ⟨ρ1, F', o, ρ', E1, N1, ef, (k.mono fun j hj => List.mem_append_right _ hj).step S1⟩⟩
/-! ### targets -/
abbrev FG := D → Fm → Option Fm
def rdG (K : PySem.W.Frag) (W : List Nat) (fg : FG) : TG := fun v σ H Q => ∃ ρ F d g ρ', EnvR K H ρ σ F ∧ Rep K H d v g ∧ (g ++ F).Nodup ∧ fg d ρ = some ρ' ∧
  ∀ σ' F', EnvR K H ρ' σ' F' → F'.Nodup → (∀ a, a ∈ F' → a ∈ g ++ F) → (σ'.length = σ.length ∧ ∀ j, j ∉ W → σ'[j]? = σ[j]?) → Q σ' H
structure DG (X : Cx) (W : List Nat) (t : Expr) (fg : FG) : Prop where
  pg : PG X t (rdG X.K W fg)
theorem pg_weak {X : Cx} {t : Expr} {g g' : TG} (h : PG X t g) (w : ∀ v σ H Q, g' v σ H Q → g v σ H Q) : PG X t g' := ⟨fun pins s σ H v u Q I r q => h.run pins s σ H v u Q I r (w _ _ _ _ q)⟩
/-- a slot is filled anew -/
theorem EnvR.store {K : PySem.W.Frag} {H : Hp} {ρ : Fm} {σ : L2.St} {F g : List Addr} {i : Nat} {d : D} {v : V} (E : EnvR K H ρ σ F) (r : Rep K H d v g) (nd : (g ++ F).Nodup) (hi : i < ρ.length) :
    ∃ F', EnvR K H (ρ.set i (some d)) (σ.set i (some v)) F' ∧ F'.Nodup ∧ ∀ a, a ∈ F' → a ∈ g ++ F := by
  obtain ⟨F1, f, F3, rfl, E1⟩ := E.drop (i := i)
  obtain ⟨n1, n2, n3⟩ := nodup3 nd
  have E2 := E1.other (o := some v)
  have hl : (σ.set i (some v))[i]? = some (some v) := by rw [List.getElem?_set_self (by rw [E.length]; exact hi)]
  obtain ⟨G1, G3, eg, E3⟩ := E2.put hi hl r
  have n4 : (F1 ++ F3).Nodup := (nodup3 (nodup_mid n2)).2.1
  refine ⟨_, E3, nodup_mid (nodup_of n1 (by rw [← eg]; exact n4) fun a ha hb => n3 a ha ?_), fun a ha => ?_⟩
  · rw [← eg] at hb; simp at hb ⊢; rcases hb with z | z <;> simp [z]
  · simp only [List.mem_append] at ha ⊢
    rcases ha with z | z | z
    · have : a ∈ F1 ++ F3 := by rw [eg]; simp [z]
      simp at this; rcases this with y | y <;> simp [y]
    · simp [z]
    · have : a ∈ F1 ++ F3 := by rw [eg]; simp [z]
      simp at this; rcases this with y | y <;> simp [y]
def fgName (i : Nat) : FG := fun d ρ => if i < ρ.length then some (ρ.set i (some d)) else none
theorem dg_name {t : Expr} {i : Nat} (h : PG X t (gName i)) : DG X [i] t (fgName i) := ⟨pg_weak h fun v σ H Q ⟨ρ, F, d, g, ρ', E, r, nd, ef, k⟩ => by
  obtain ⟨c, rfl⟩ := if_some ef
  obtain ⟨F', E', N', s'⟩ := E.store r nd c
  exact k _ F' E' N' s' ⟨List.length_set .., fun j hj => by rw [List.getElem?_set_ne]; intro z; exact hj (by simp [z])⟩⟩
/-- (a, b, ..) = .. -/
abbrev FGs := List D → Fm → Option Fm
def fgCons (f : FG) (fs : FGs) : FGs := fun ds ρ => match ds with
  | d :: ds => (f d ρ).bind fun ρ1 => fs ds ρ1
  | [] => none
def fgTup (n : Nat) (fs : FGs) : FG := fun d ρ => match d with
  | .tup ds => if ds.length = n then fs ds ρ else none
  | _ => none
/-- target = e -/
def fAsg (fe : FE) (fg : FG) : FS := fun ρ => (fe ρ).bind fun (r, ρ1) => (take1 ρ1 r).bind fun (d, ρ2) => (fg d ρ2).map fun ρ3 => (.nx, ρ3)
theorem asg_of {K : PySem.W.Frag} {fg : FG} {Dn : Ends} {σ : L2.St} {H : Hp} (h : rdS K W (fAsg fe fg) Dn σ H) : tAsg (rdE K fe) (rdG K W fg) Dn σ H := by
  obtain ⟨ρ, F, o, ρ', E, nd, ef, k⟩ := h
  obtain ⟨⟨r, ρ1⟩, e1, ef⟩ := Option.bind_eq_some_iff.mp ef
  obtain ⟨⟨d, ρ2⟩, e2, ef⟩ := Option.bind_eq_some_iff.mp ef
  obtain ⟨ρ3, e3, ef⟩ := Option.map_eq_some_iff.mp ef
  cases ef
  refine ⟨ρ, F, r, ρ1, E, nd, e1, fun v H' g F' r1 E1 N1 S1 => ?_⟩
  obtain ⟨p, F2, r2, E2, N2, s2⟩ := r1.take E1 N1 e2
  exact ⟨ρ2, F2, d, p, ρ', E2, r2, N2, e3, fun σ' F3 E3 N3 s3 w3 => k σ' H' F3 E3 N3 (S1.to fun a ha => .inl (s2 a (s3 a ha))) w3.2⟩
theorem ds_set {i : Nat} {x : Str} {pos' : Pos} (hN : X.N.Nodup) (hi : X.N[i]? = some x) (hx : Loc X.env.scope x) (he : DE X e fe) (hs : swapsWith e (some (.Name x pos')) pos.line X.env = pure false := by rfl)
    (hf : X.fn x = true ∨ X.env.scope.names.lookup x = some .local := by first | exact .inl rfl | exact .inr rfl | assumption) : DS X [i] (.Assign [.Name x pos'] e pos) (fAsg fe (fgName i)) :=
  ⟨ps_weak (ps_set hN hi hx he.pe hs hf) fun Dn σ H h => by
    obtain ⟨ρ, F, r, ρ', E, nd, ef, k⟩ := asg_of h
    refine ⟨ρ, F, r, ρ', E, nd, ef, fun v H' g F' r1 E1 N1 S1 => ?_⟩
    obtain ⟨ρ2, F2, d, p, ρ3, E2, r2, N2, e3, k2⟩ := k v H' g F' r1 E1 N1 S1
    obtain ⟨c, rfl⟩ := if_some e3
    obtain ⟨F3, E3, N3, s3⟩ := E2.store r2 N2 c
    exact k2 _ F3 E3 N3 s3 ⟨List.length_set .., fun j hj => by rw [List.getElem?_set_ne]; intro z; exact hj (by simp [z])⟩⟩
/-- a, b = x, y of two plain names -/
def fPar (i j : Nat) (fa : FA) : FS := fun ρ => (fa ρ).bind fun (rs, ρ1) => (takes ρ1 rs).bind fun (ds, ρ2) => match ds with
  | [d, e] => if i < ρ2.length ∧ j < ρ2.length then some (.nx, (ρ2.set i (some d)).set j (some e)) else none
  | _ => none
/-- o[i] = e -/
def fStore (fe : FE) (fp : FP) (fi : FE) : FS := fun ρ => (fe ρ).bind fun (r, ρ1) => (fp ρ1).bind fun (p, ρ2) => (getP ρ2 p).bind fun c0 => (fi (hide ρ2 p)).bind fun (x, ρ3) => (cont ρ3 x).bind fun key =>
  (take1 ρ3 r).bind fun (dv, ρ4) => (getP (unhide ρ2 ρ4 p) p).bind fun c => (dStore c key dv).map fun c' => (.nx, setP (unhide ρ2 ρ4 p) c' p)
def rSetAll : TSet := fun o i v H Q => rSetL o i v H Q ∨ rSetD o i v H Q
theorem set_all (hu : X.A.units + 1 < cLine) : PSet X rSetAll := fun pins s σ H o i v ov iv u Q I r1 r2 r3 h => h.elim (set_list pins s σ H o i v ov iv u Q I r1 r2 r3) (set_dict hu pins s σ H o i v ov iv u Q I r1 r2 r3)
def mStore : D → List D → Option (D × D)
  | c, [key, dv] => (dStore c key dv).map fun c' => (c', .non)
  | _, _ => none
def rStore : V → List V → Hp → VK → Prop := fun o vs H Q => ∃ i v, vs = [i, v] ∧ rSetAll o i v H fun H' => Q .non H'
theorem mu_store {K : PySem.W.Frag} : MutS K rStore mStore := by
  intro H d v f ds vs p d' z Q r ra nd e k
  unfold mStore at e
  split at e
  · rename_i key dv
    obtain ⟨c', e1, e⟩ := Option.map_eq_some_iff.mp e
    cases e
    obtain ⟨iv, vs', f1, f2, rfl, rfl, r1, r2⟩ := ra
    obtain ⟨w, rfl, rw'⟩ := r2.one
    refine ⟨iv, w, rfl, ?_⟩
    unfold dStore at e1
    split at e1
    · obtain ⟨j, e2, e1⟩ := Option.bind_eq_some_iff.mp e1
      obtain ⟨c, rfl⟩ := if_some e1
      obtain ⟨rfl, rfl⟩ := r1
      obtain ⟨a, ws, g, rfl, ha, rfl, rl⟩ := r
      have hj := List.getElem?_eq_getElem c
      obtain ⟨w0, g1, g2, g3, e3, rfl, r3, up, _⟩ := rl.at hj
      rw [List.nil_append] at nd
      obtain ⟨n0, n1⟩ := List.nodup_cons.mp nd
      have mu : MutO (H a) := by rw [ha]; trivial
      obtain ⟨y1, y2, y3⟩ := nodup3 n1
      have y4 := (nodup3 (nodup_mid y1)).2.1
      have nn : (g1 ++ (f2 ++ g3)).Nodup := nodup_mid (nodup_of y2 y4 fun b hb hc => y3 b (by simp at hc ⊢; rcases hc with z | z <;> simp [z]) hb)
      have na : a ∉ g1 ++ (f2 ++ g3) := fun z => n0 (by simp at z ⊢; rcases z with z | z | z <;> simp [z])
      refine .inl ⟨a, ws, _, j, rfl, rfl, ha, by rw [rl.length]; exact e2, k .non _ (a :: (g1 ++ (f2 ++ g3))) [] ⟨a, _, _, rfl, upd_same, rfl, RepL.keep _ _ _ (up dv w f2 rw') (keep_upd mu na)⟩ ⟨rfl, rfl⟩ (List.nodup_cons.mpr ⟨na, nn⟩) (fun b hb => .inl ?_) upd_other⟩
      simp only [List.mem_append, List.mem_cons, List.nil_append] at hb ⊢
      rcases hb with rfl | h | h | h <;> simp [*]
    · obtain ⟨kk, e2, e1⟩ := Option.bind_eq_some_iff.mp e1
      obtain ⟨⟨ci, c⟩, rfl⟩ := if_some e1
      obtain rfl := keyOf_kV r1 e2
      obtain ⟨a, ws, g, rfl, ha, rfl, rk⟩ := r
      have mu : MutO (H a) := by rw [ha]; trivial
      obtain ⟨n1, n2, n3⟩ := nodup3 nd
      obtain ⟨n4, n5⟩ := List.nodup_cons.mp n1
      obtain ⟨g', q1, q2, q3⟩ := RepK.put (k := kk) (rep_nil rw' ci) rk n5
      have na : a ∉ g' := fun z => n4 (q3 a z)
      refine .inr ⟨a, _, rfl, DPut.k ha (by rw [rk.length]; exact c), k .non _ (a :: g') [] ⟨a, _, _, rfl, upd_same, rfl, RepK.keep _ _ _ q1 (keep_upd mu na)⟩ ⟨rfl, rfl⟩ (List.nodup_cons.mpr ⟨na, q2⟩) (fun b hb => .inl ?_) upd_other⟩
      simp only [List.mem_append, List.mem_cons, List.nil_append] at hb ⊢
      rcases hb with rfl | h
      · simp
      · simp [q3 b h]
    · cases e1
  · cases e
theorem ds_store {S : Stmt} {fe : FE} {fp : FP} {fi : FE} (h : PS X S (tAsg (rdE X.K fe) (gSub (rdP X.K fp) (rdE X.K fi) rSetAll))) : DS X [] S (fStore fe fp fi) :=
  ⟨ps_weak h fun Dn σ H ⟨ρ, F, oo, ρ', E, nd, ef, k⟩ => by
    obtain ⟨⟨r, ρ1⟩, e1, ef⟩ := Option.bind_eq_some_iff.mp ef
    obtain ⟨⟨p, ρ2⟩, e2, ef⟩ := Option.bind_eq_some_iff.mp ef
    obtain ⟨c0, e3, ef⟩ := Option.bind_eq_some_iff.mp ef
    obtain ⟨⟨x, ρ3⟩, e4, ef⟩ := Option.bind_eq_some_iff.mp ef
    obtain ⟨key, e5, ef⟩ := Option.bind_eq_some_iff.mp ef
    obtain ⟨⟨dv, ρ4⟩, e6, ef⟩ := Option.bind_eq_some_iff.mp ef
    obtain ⟨c, e7, ef⟩ := Option.bind_eq_some_iff.mp ef
    obtain ⟨c', e8, ef⟩ := Option.map_eq_some_iff.mp ef
    cases ef
    refine ⟨ρ, F, r, ρ1, E, nd, e1, fun v H1 g1 F1 r1 E1 N1 S1 => ?_⟩
    obtain ⟨n1, n2, n3⟩ := nodup3 N1
    refine ⟨ρ1, F1, p, ρ2, E1, n2, e2, fun ov H2 F2 hv E2 N2 S2 => ?_⟩
    have r1' := r1.keep (S2.keep E1.mut n3)
    have d2 : ∀ a ∈ g1, a ∉ F2 := S2.apart r1.mut n3
    obtain ⟨Fh, Eh, nh, sub, cont⟩ := hidden E2 N2 e3 hv
    refine ⟨hide ρ2 p, Fh, x, ρ3, Eh, nh, e4, fun iv H3 g3 F3 r3 E3 N3 S3 => ?_⟩
    have dh : ∀ a ∈ g1, a ∉ Fh := fun a ha hb => d2 a ha (sub a hb)
    have r1'' := r1'.keep (S3.keep Eh.mut dh)
    have d3 : ∀ a ∈ g1, a ∉ g3 ++ F3 := S3.apart r1'.mut dh
    obtain ⟨pk, qk, _⟩ := r3.cont E3 e5
    obtain ⟨p2, F4, rv, E4, N4, s4⟩ := r1''.take E3 (nodup_of n1 (nodup3 N3).2.1 fun a ha hb => d3 a ha (List.mem_append_right _ hb)) e6
    obtain ⟨hv3, F5, E5, N5, S5⟩ := cont g1 (fun a ha => r1'.mut a ha) d2 H3 ρ4 F4 p2 E4 N4 fun a u ea na => by
      obtain ⟨x1, x2⟩ := S3 a u ea fun z => na (List.mem_append_right _ z)
      refine ⟨x1, fun z => ?_⟩
      rcases List.mem_append.mp (s4 a z) with y | y
      · exact na (List.mem_append_left _ y)
      · exact x2 (List.mem_append_right _ y)
    have S12 : Step H F H2 (g1 ++ F2) := fun a u ea na => by
      obtain ⟨x1, x2⟩ := S1 a u ea na
      obtain ⟨x3, x4⟩ := S2 a u x1 fun z => x2 (List.mem_append_right _ z)
      exact ⟨x3, fun z => (List.mem_append.mp z).elim (fun z => x2 (List.mem_append_left _ z)) x4⟩
    have hk : imm key = true := by
      unfold dStore at e8
      split at e8
      · rfl
      · obtain ⟨kk, e9, _⟩ := Option.bind_eq_some_iff.mp e8
        revert e9
        cases key <;> intro e9 <;> first | rfl | cases e9
      · cases e8
    obtain ⟨i', v', ev, q⟩ := change (ds := [key, dv]) (vs := [iv, v]) (p2 := p2) (z := .non) (Q := fun _ H' => Dn.nx σ H') mu_store (S12.trans S5) E5 N5 ⟨iv, [v], [], p2, rfl, rfl, rep_nil qk hk, RepL.of_one rv⟩ hv3 e7 (by show (dStore c key dv).map (fun c' => (c', D.non)) = _; rw [e8]; rfl)
      fun u H' h F' ru E' N' S' => k σ H' F' E' (nodup3 N').2.1 (S'.to fun a ha => .inl (List.mem_append_right _ ha)) fun _ _ => rfl
    cases ev
    exact q⟩
end
end DL
/-! Loops and comprehensions. -/
namespace DL
open PySem PySem.Spec L2
/-! ### a list that is not changed any more -/
mutual
def frzD : D → Option D
  | .lst ds => (frzL ds).map .flst
  | .flst ds => (frzL ds).map .flst
  | .tup ds => (frzL ds).map .tup
  | .dic kvs => if immK kvs = true then some (.fdic kvs) else none
  | .fdic kvs => if immK kvs = true then some (.fdic kvs) else none
  | .exc a C dd kvs => if immK kvs = true then some (.exc a C dd kvs) else none
  | .non => some .non
  | .bl b => some (.bl b)
  | .int i => some (.int i)
  | .str x => some (.str x)
def frzL : List D → Option (List D)
  | [] => some []
  | d :: ds => (frzD d).bind fun d' => (frzL ds).map fun ds' => d' :: ds'
end
mutual
theorem frz_id : ∀ (d : D), imm d = true → frzD d = some d
  | .non, _ => rfl
  | .bl _, _ => rfl
  | .int _, _ => rfl
  | .str _, _ => rfl
  | .tup ds, h => by show (frzL ds).map D.tup = _; rw [frzL_id ds h]; rfl
  | .flst ds, h => by show (frzL ds).map D.flst = _; rw [frzL_id ds h]; rfl
  | .lst _, h => by cases h
  | .dic _, h => by cases h
  | .fdic kvs, h => if_pos h
  | .exc _ _ _ kvs, h => if_pos h
theorem frzL_id : ∀ (ds : List D), immL ds = true → frzL ds = some ds
  | [], _ => rfl
  | d :: ds, h => by
    have h' : imm d = true ∧ immL ds = true := by simpa [immL] using h
    show (frzD d).bind _ = _
    rw [frz_id d h'.1]
    show (frzL ds).map _ = _
    rw [frzL_id ds h'.2]
    rfl
end
/-- a list or a dict that may be changed -/
def LD (H : Hp) (a : Addr) : Prop := (∃ xs, H a = some (.lst xs)) ∨ ∃ ws, H a = some (.dK ws)
/-- these stand still from now on -/
def Locked (H : Hp) (f : List Addr) (H' : Hp) : Prop := Keep H [] H' ∧ ∀ a ∈ f, ∀ u, H a = some u → LD H a → ∃ o, H' a = some (.frz o u)
section
variable {K : PySem.W.Frag} {H H' : Hp}
mutual
theorem Rep.frz : ∀ (d : D) (v : V) (f : List Addr) (d' : D), Rep K H d v f → frzD d = some d' → Locked H f H' → Rep K H' d' v []
  | .non, v, f, d', r, e, l => by cases e; exact ⟨r.1, rfl⟩
  | .bl _, v, f, d', r, e, l => by cases e; exact ⟨r.1, rfl⟩
  | .int _, v, f, d', r, e, l => by cases e; exact ⟨r.1, rfl⟩
  | .str _, v, f, d', r, e, l => by cases e; exact ⟨r.1, rfl⟩
  | .dic kvs, v, f, d', r, e, l => by
    obtain ⟨im, e⟩ := if_some (show (if immK kvs = true then some (D.fdic kvs) else none) = some d' from e)
    cases e
    obtain ⟨a, ws, g, rfl, ha, rfl, rk⟩ := r
    obtain ⟨o, ho⟩ := l.2 a List.mem_cons_self _ ha (.inr ⟨ws, ha⟩)
    have g0 := RepK.imm _ _ _ rk im
    subst g0
    exact ⟨a, ws, rfl, ⟨o, ho⟩, RepK.keep _ _ _ rk l.1⟩
  | .fdic kvs, v, f, d', r, e, l => by
    obtain ⟨im, e⟩ := if_some (show (if immK kvs = true then some (D.fdic kvs) else none) = some d' from e)
    cases e
    obtain ⟨a, ws, rfl, ⟨o, ho⟩, rk⟩ := r
    have g0 := RepK.imm _ _ _ rk im
    subst g0
    exact ⟨a, ws, rfl, ⟨o, l.1 a _ ho (.inl (by rw [ho]; exact id))⟩, RepK.keep _ _ _ rk l.1⟩
  | .exc a C dd kvs, v, f, d', r, e, l => by
    obtain ⟨im, e⟩ := if_some (show (if immK kvs = true then some (D.exc a C dd kvs) else none) = some d' from e)
    cases e
    obtain ⟨ws, rfl, ho, rk⟩ := r
    have g0 := RepK.imm _ _ _ rk im
    subst g0
    exact ⟨ws, rfl, l.1 dd _ ho (.inl (by rw [ho]; exact id)), RepK.keep _ _ _ rk l.1⟩
  | .tup ds, v, f, d', r, e, l => by
    obtain ⟨ds', e1, e2⟩ := Option.map_eq_some_iff.mp (show (frzL ds).map .tup = some d' from e)
    cases e2
    obtain ⟨a, vs, rfl, t, rl⟩ := r
    exact ⟨a, vs, rfl, tupR_keep t l.1, RepL.frz ds vs f ds' rl e1 l⟩
  | .flst ds, v, f, d', r, e, l => by
    obtain ⟨ds', e1, e2⟩ := Option.map_eq_some_iff.mp (show (frzL ds).map .flst = some d' from e)
    cases e2
    obtain ⟨a, vs, rfl, t, rl⟩ := r
    exact ⟨a, vs, rfl, SqF.keep t l.1, RepL.frz ds vs f ds' rl e1 l⟩
  | .lst ds, v, f, d', r, e, l => by
    obtain ⟨ds', e1, e2⟩ := Option.map_eq_some_iff.mp (show (frzL ds).map .flst = some d' from e)
    cases e2
    obtain ⟨a, vs, g, rfl, ha, rfl, rl⟩ := r
    obtain ⟨o, ho⟩ := l.2 a List.mem_cons_self _ ha (.inl ⟨vs, ha⟩)
    exact ⟨a, vs, rfl, .inl ⟨o, ho⟩, RepL.frz ds vs g ds' rl e1 ⟨l.1, fun b hb => l.2 b (List.mem_cons_of_mem _ hb)⟩⟩
theorem RepL.frz : ∀ (ds : List D) (vs : List V) (f : List Addr) (ds' : List D), RepL K H ds vs f → frzL ds = some ds' → Locked H f H' → RepL K H' ds' vs []
  | [], vs, f, ds', r, e, l => by cases e; exact ⟨r.1, rfl⟩
  | d :: ds, vs, f, ds', r, e, l => by
    obtain ⟨d', e1, e2⟩ := Option.bind_eq_some_iff.mp (show (frzD d).bind _ = some ds' from e)
    obtain ⟨es, e3, e4⟩ := Option.map_eq_some_iff.mp e2
    subst e4
    obtain ⟨v, vs', f1, f2, rfl, rfl, r1, r2⟩ := r
    exact ⟨v, vs', [], [], rfl, rfl, Rep.frz d v f1 d' r1 e1 ⟨l.1, fun a ha => l.2 a (List.mem_append_left _ ha)⟩, RepL.frz ds vs' f2 es r2 e3 ⟨l.1, fun a ha => l.2 a (List.mem_append_right _ ha)⟩⟩
end
mutual
theorem Rep.lsts : ∀ (d : D) (v : V) (f : List Addr) (d' : D), Rep K H d v f → frzD d = some d' → ∀ a ∈ f, LD H a
  | .non, v, f, d', r, e => by rw [r.2]; intro a ha; cases ha
  | .bl _, v, f, d', r, e => by rw [r.2]; intro a ha; cases ha
  | .int _, v, f, d', r, e => by rw [r.2]; intro a ha; cases ha
  | .str _, v, f, d', r, e => by rw [r.2]; intro a ha; cases ha
  | .dic kvs, v, f, d', r, e => by
    obtain ⟨im, e⟩ := if_some (show (if immK kvs = true then some (D.fdic kvs) else none) = some d' from e)
    obtain ⟨a, ws, g, rfl, ha, rfl, rk⟩ := r
    have g0 := RepK.imm _ _ _ rk im
    subst g0
    intro b hb
    rw [List.mem_singleton.1 hb]
    exact .inr ⟨ws, ha⟩
  | .fdic kvs, v, f, d', r, e => by
    obtain ⟨im, e⟩ := if_some (show (if immK kvs = true then some (D.fdic kvs) else none) = some d' from e)
    obtain ⟨a, ws, rfl, _, rk⟩ := r
    rw [RepK.imm _ _ _ rk im]
    intro b hb
    cases hb
  | .exc a C dd kvs, v, f, d', r, e => by
    obtain ⟨im, e⟩ := if_some (show (if immK kvs = true then some (D.exc a C dd kvs) else none) = some d' from e)
    obtain ⟨ws, rfl, _, rk⟩ := r
    rw [RepK.imm _ _ _ rk im]
    intro b hb
    cases hb
  | .tup ds, v, f, d', r, e => by
    obtain ⟨ds', e1, _⟩ := Option.map_eq_some_iff.mp (show (frzL ds).map .tup = some d' from e)
    obtain ⟨a, vs, rfl, t, rl⟩ := r
    exact RepL.lsts ds vs f ds' rl e1
  | .flst ds, v, f, d', r, e => by
    obtain ⟨ds', e1, _⟩ := Option.map_eq_some_iff.mp (show (frzL ds).map .flst = some d' from e)
    obtain ⟨a, vs, rfl, t, rl⟩ := r
    exact RepL.lsts ds vs f ds' rl e1
  | .lst ds, v, f, d', r, e => by
    obtain ⟨ds', e1, _⟩ := Option.map_eq_some_iff.mp (show (frzL ds).map .flst = some d' from e)
    obtain ⟨a, vs, g, rfl, ha, rfl, rl⟩ := r
    intro b hb
    rcases List.mem_cons.mp hb with rfl | hb
    · exact .inl ⟨vs, ha⟩
    · exact RepL.lsts ds vs g ds' rl e1 b hb
theorem RepL.lsts : ∀ (ds : List D) (vs : List V) (f : List Addr) (ds' : List D), RepL K H ds vs f → frzL ds = some ds' → ∀ a ∈ f, LD H a
  | [], vs, f, ds', r, e => by rw [r.2]; intro a ha; cases ha
  | d :: ds, vs, f, ds', r, e => by
    obtain ⟨d', e1, e2⟩ := Option.bind_eq_some_iff.mp (show (frzD d).bind _ = some ds' from e)
    obtain ⟨es, e3, e4⟩ := Option.map_eq_some_iff.mp e2
    obtain ⟨v, vs', f1, f2, rfl, rfl, r1, r2⟩ := r
    intro a ha
    rcases List.mem_append.mp ha with z | z
    · exact Rep.lsts d v f1 d' r1 e1 a z
    · exact RepL.lsts ds vs' f2 es r2 e3 a z
end
end
/-- locked, and nothing else -/
def LockTo (H : Hp) (f : List Addr) (H' : Hp) : Prop := (∀ b, b ∉ f → H' b = H b) ∧ ∀ a ∈ f, ∃ u o, H a = some u ∧ MutO (some u) ∧ H' a = some (.frz o u)
theorem LockTo.locked {H H' : Hp} {f : List Addr} (h : LockTo H f H') : Locked H f H' := by
  refine ⟨fun a u e hm => ?_, fun a ha xs e _ => ?_⟩
  · have : a ∉ f := fun z => by
      obtain ⟨xs, o, e1, m1, _⟩ := h.2 a z
      rcases hm with m | m
      · exact m (by rw [e1]; exact m1)
      · cases m
    rw [h.1 a this]
    exact e
  · obtain ⟨ys, o, e1, _, e2⟩ := h.2 a ha
    rw [e] at e1
    cases e1
    exact ⟨o, e2⟩
theorem LD.mut {H : Hp} {a : Addr} (h : LD H a) : ∃ u, H a = some u ∧ MutO (some u) ∧ Mut (some u) := by
  rcases h with ⟨xs, e⟩ | ⟨ws, e⟩
  · exact ⟨_, e, trivial, trivial⟩
  · exact ⟨_, e, trivial, trivial⟩
theorem lockAll {X : Cx} {pins : List (Addr × Obj)} {σ : L2.St} {s1 : Shared} : ∀ (f : List Addr) (H : Hp), f.Nodup → (∀ a ∈ f, LD H a) → Inv X pins σ H s1 → ∃ H', LockTo H f H' ∧ Inv X pins σ H' s1
  | [], H, _, _, I => ⟨H, ⟨fun _ _ => rfl, fun a ha => by cases ha⟩, I⟩
  | a :: f, H, nd, hl, I => by
    obtain ⟨na, nd'⟩ := List.nodup_cons.mp nd
    obtain ⟨u, ea, m0, m1⟩ := (hl a List.mem_cons_self).mut
    obtain ⟨H1, l1, I1⟩ := lockAll f H nd' (fun b hb => hl b (List.mem_cons_of_mem _ hb)) I
    have ea1 : H1 a = some u := by rw [l1.1 a na]; exact ea
    obtain ⟨od, I2⟩ := I1.lock ea1 m1
    refine ⟨_, ⟨fun b hb => ?_, fun b hb => ?_⟩, I2⟩
    · rw [upd_ne (fun z => hb (by simp [z]))]
      exact l1.1 b fun z => hb (List.mem_cons_of_mem _ z)
    · by_cases hba : b = a
      · subst hba
        exact ⟨u, od, ea, m0, upd_same⟩
      · have hb' : b ∈ f := by rcases List.mem_cons.mp hb with z | z; exact absurd z hba; exact z
        obtain ⟨ys, o, e1, mm, e2⟩ := l1.2 b hb'
        exact ⟨ys, o, e1, mm, by rw [upd_ne hba]; exact e2⟩
theorem pe_frz {X : Cx} {e : Expr} {te : TE} (h : PE X e te) : PE X e (fun σ H Q => te σ H fun x H1 => ∃ f : List Addr, f.Nodup ∧ (∀ a ∈ f, LD H1 a) ∧ ∀ H2, LockTo H1 f H2 → Q x H2) :=
  ⟨fun pins s σ H Q I hq => thn (h.run pins s σ H _ I hq) fun v s1 ⟨x, H1, I1, r1, f, nd, hl, q⟩ => by
    obtain ⟨H2, l2, I2⟩ := lockAll f H1 nd hl I1
    exact ⟨x, H2, I2, r1, q H2 l2⟩⟩
def fFrz (f : FE) : FE := fun ρ => (f ρ).bind fun (r, ρ1) => (cont ρ1 r).bind fun d => (frzD d).map fun d' => (.val d', match r with | .var i => ρ1.set i (some d') | .val _ => ρ1)
theorem de_frz {X : Cx} {e : Expr} {fe : FE} (h : DE X e fe) : DE X e (fFrz fe) := ⟨pe_weak (pe_frz h.pe) fun σ H Q ⟨ρ, F, r', ρ', E, nd, ef, k⟩ => by
  obtain ⟨⟨r, ρ1⟩, e1, ef⟩ := Option.bind_eq_some_iff.mp ef
  obtain ⟨d, e2, ef⟩ := Option.bind_eq_some_iff.mp ef
  obtain ⟨d', e3, ef⟩ := Option.map_eq_some_iff.mp ef
  cases ef
  refine ⟨ρ, F, r, ρ1, E, nd, e1, fun v H1 g F1 r1 E1 N1 S1 => ?_⟩
  obtain ⟨n1, n2, n3⟩ := nodup3 N1
  cases r with
  | val d0 =>
    cases e2
    refine ⟨g, n1, Rep.lsts _ _ _ _ r1 e3, fun H2 l2 => ?_⟩
    have lk := l2.locked
    refine k v H2 [] F1 (Rep.frz _ _ _ _ r1 e3 lk) (E1.keep fun a u ea hm => ?_) (by simpa using n2) fun b u eb nb => ?_
    · rw [l2.1 a fun z => ?_]
      · exact ea
      · rcases hm with m | m
        · obtain ⟨xs, o, e4, mm, _⟩ := l2.2 a z
          exact m (by rw [e4]; exact mm)
        · exact n3 a z m
    · obtain ⟨x1, x2⟩ := S1 b u eb nb
      exact ⟨by rw [l2.1 b fun z => x2 (List.mem_append_left _ z)]; exact x1, fun z => x2 (List.mem_append_right _ z)⟩
  | var i =>
    obtain ⟨h1, rfl⟩ := r1
    obtain ⟨w, A1, f, A3, e4, rfl, r2, E2⟩ := E1.at (slot_some e2)
    rw [e4] at h1
    cases h1
    have nd2 := nodup_mid n2
    obtain ⟨m1, m2, m3⟩ := nodup3 nd2
    refine ⟨f, m1, Rep.lsts _ _ _ _ r2 e3, fun H2 l2 => ?_⟩
    have lk := l2.locked
    have rf := Rep.frz _ _ _ _ r2 e3 lk
    have E2' : EnvR X.K H2 (ρ1.set i none) σ (A1 ++ A3) := E2.keep fun a u ea hm => by
      rw [l2.1 a fun z => ?_]
      · exact ea
      · rcases hm with m | m
        · obtain ⟨xs, o, e5, mm, _⟩ := l2.2 a z
          exact m (by rw [e5]; exact mm)
        · exact m3 a z m
    obtain ⟨B1, B3, eb, E3⟩ := E2'.put (slot_lt e2) e4 rf
    have m2' : (B1 ++ B3).Nodup := by rw [← eb]; exact m2
    refine k v H2 [] _ rf E3 (by simpa using m2') fun b u ebb nb => ?_
    obtain ⟨x1, x2⟩ := S1 b u ebb nb
    refine ⟨by rw [l2.1 b fun z => x2 (by simp [z])]; exact x1, fun z => x2 ?_⟩
    have : b ∈ A1 ++ A3 := by rw [eb]; simpa using z
    simp at this ⊢
    rcases this with y | y <;> simp [y]⟩
/-! ### what is walked -/
abbrev Yd := Hp → D → V → Prop
def Strong (K : PySem.W.Frag) : Yd := fun H d v => Rep K H d v []
structure SrcOk (K : PySem.W.Frag) (Y : Yd) (J : It) (ds : List D) (Good : Hp → Prop) : Prop where
  keep : ∀ H H', Good H → Keep H [] H' → Good H'
  go : ∀ H n, Good H → n < ds.length → J.go n H
  stop : ∀ H n, Good H → ds.length ≤ n → J.stop n H
  yld : ∀ H n x H' d, Good H → J.yld n H x H' → ds[n]? = some d → Y H' d x ∧ Same H H'
abbrev FI := Fm → Option (List D × Fm)
def rdI (K : PySem.W.Frag) (Y : Yd) (f : FI) : TI := fun σ H R => ∃ ρ F ds ρ', EnvR K H ρ σ F ∧ F.Nodup ∧ f ρ = some (ds, ρ') ∧
  ∀ J H' F' Good, SrcOk K Y J ds Good → Good H' → EnvR K H' ρ' σ F' → F'.Nodup → Step H F H' F' → R J H'
structure DI (X : Cx) (Y : Yd) (tg e : Expr) (f : FI) : Prop where
  pi : PI X tg e (rdI X.K Y f)
theorem pi_weak {X : Cx} {tg e : Expr} {t t' : TI} (h : PI X tg e t) (w : ∀ σ H R, t' σ H R → t σ H R) : PI X tg e t' := ⟨fun pins s σ H R I q => h.run pins s σ H R I (w _ _ _ q)⟩
theorem pi_or {X : Cx} {tg e : Expr} {t1 t2 : TI} (h1 : PI X tg e t1) (h2 : PI X tg e t2) : PI X tg e (fun σ H R => t1 σ H R ∨ t2 σ H R) :=
  ⟨fun pins s σ H R I h => h.elim (h1.run pins s σ H R I) (h2.run pins s σ H R I)⟩
section
variable {X : Cx} {tg e : Expr} {fe : FE} {pos p : Pos} {fr : FA}
/-- over a tuple, a list that stands still -/
def fSeqI (fe : FE) : FI := fun ρ => (fe ρ).bind fun (r, ρ1) => (cont ρ1 r).bind fun d => match d with
  | .tup ds => if immL ds = true then some (ds, ρ1) else none
  | .flst ds => if immL ds = true then some (ds, ρ1) else none
  | _ => none
theorem di_seq (h : DE X e fe) : DI X (Strong X.K) tg e (fSeqI fe) := ⟨pi_weak (pi_or (pi_list h.pe) (pi_tup h.pe)) fun σ H R ⟨ρ, F, ds, ρ', E, nd, ef, k⟩ => by
  obtain ⟨⟨r, ρ1⟩, e1, ef⟩ := Option.bind_eq_some_iff.mp ef
  obtain ⟨d, e2, ef⟩ := Option.bind_eq_some_iff.mp ef
  cases d <;> try cases ef
  · obtain ⟨c, ef⟩ := if_some ef
    cases ef
    refine .inr ⟨ρ, F, r, ρ', E, nd, e1, fun v H1 g F1 r1 E1 N1 S1 => ?_⟩
    obtain ⟨p, q, _⟩ := r1.cont E1 e2
    obtain ⟨a, vs, rfl, ta, rl⟩ := q
    refine ⟨a, rfl, ⟨vs, ta.sq⟩, k _ H1 F1 (fun H => TupR X.K H a vs ∧ RepL X.K H ds vs []) ⟨fun H H' ⟨x, y⟩ kp => ⟨tupR_keep x kp, RepL.keep _ _ _ y kp⟩, fun H n ⟨x, y⟩ hn => ?_, fun H n ⟨x, y⟩ hn => ?_, fun H n w H' d ⟨x, y⟩ yl hd => ?_⟩ ⟨ta, rl.nil_of c⟩ E1 (nodup3 N1).2.1 (S1.to fun b hb => .inl (List.mem_append_right _ hb))⟩
    · have hl : n < vs.length := by rw [y.length]; exact hn
      exact ⟨vs, vs[n], x.sq, List.getElem?_eq_getElem hl⟩
    · exact ⟨vs, x.sq, by rw [y.length]; exact hn⟩
    · obtain ⟨rfl, yl⟩ := yl
      have e3 := yl vs x.sq
      obtain ⟨d', e4, r4⟩ := y.each c n w e3
      rw [hd] at e4
      cases e4
      exact ⟨r4, Same.refl _⟩
  · obtain ⟨c, ef⟩ := if_some ef
    cases ef
    refine .inl ⟨ρ, F, r, ρ', E, nd, e1, fun v H1 g F1 r1 E1 N1 S1 => ?_⟩
    obtain ⟨p, q, _⟩ := r1.cont E1 e2
    obtain ⟨a, vs, rfl, ta, rl⟩ := q
    refine ⟨a, rfl, ⟨vs, ta.seq⟩, k _ H1 F1 (fun H => SqF X.K H a vs ∧ RepL X.K H ds vs []) ⟨fun H H' ⟨x, y⟩ kp => ⟨SqF.keep x kp, RepL.keep _ _ _ y kp⟩, fun H n ⟨x, y⟩ hn => ?_, fun H n ⟨x, y⟩ hn => ?_, fun H n w H' d ⟨x, y⟩ yl hd => ?_⟩ ⟨ta, rl.nil_of c⟩ E1 (nodup3 N1).2.1 (S1.to fun b hb => .inl (List.mem_append_right _ hb))⟩
    · have hl : n < vs.length := by rw [y.length]; exact hn
      exact ⟨vs, vs[n], x.seq, List.getElem?_eq_getElem hl⟩
    · exact ⟨vs, x.seq, by rw [y.length]; exact hn⟩
    · obtain ⟨rfl, yl⟩ := yl
      have e3 := yl vs x.seq
      obtain ⟨d', e4, r4⟩ := y.each c n w e3
      rw [hd] at e4
      cases e4
      exact ⟨r4, Same.refl _⟩⟩
/-- the whole numbers from lo on, n of them -/
def iota (lo : Int) (n : Nat) : List D := (List.range n).map fun i => .int (lo + (i : Nat))
theorem iota_length (lo : Int) (n : Nat) : (iota lo n).length = n := by simp [iota]
theorem iota_get {lo : Int} {n i : Nat} {d : D} (e : (iota lo n)[i]? = some d) : d = .int (lo + (i : Nat)) := by
  unfold iota at e
  rw [List.getElem?_map] at e
  cases h : (List.range n)[i]? with
  | none => rw [h] at e; cases e
  | some j =>
    rw [h] at e
    cases e
    obtain ⟨hi, rfl⟩ := List.getElem?_eq_some_iff.mp h
    simp
theorem src_rng {K : PySem.W.Frag} (lo : Int) (n : Nat) : SrcOk K (Strong K) (Itr lo n) (iota lo n) fun _ => True where
  keep := fun _ _ _ _ => trivial
  go := fun _ i _ h => by rw [iota_length] at h; exact h
  stop := fun _ i _ h => by rw [iota_length] at h; exact h
  yld := fun H i x H' d _ y hd => by
    obtain ⟨rfl, rfl⟩ := y
    rw [iota_get hd]
    exact ⟨⟨rfl, rfl⟩, Same.refl _⟩
def okR (j : Int) : Bool := decide (j.natAbs < 2 ^ 62)
def fRng1 (fr : FA) : FI := fun ρ => (fr ρ).bind fun (rs, ρ1) => (conts ρ1 rs).bind fun ds => match ds with
  | [.int j] => if okR j = true then some (iota 0 j.toNat, ρ1) else none
  | _ => none
def fRng2 (fr : FA) : FI := fun ρ => (fr ρ).bind fun (rs, ρ1) => (conts ρ1 rs).bind fun ds => match ds with
  | [.int i, .int j] => if okR i = true ∧ okR j = true then some (iota i (j - i).toNat, ρ1) else none
  | _ => none
theorem okR_of {j : Int} (h : okR j = true) : -(2 ^ 62) ≤ j ∧ j < 2 ^ 62 := by
  have := of_decide_eq_true h
  omega
theorem di_rng1 {a : Expr} (hg : Gl X "range") (hm : X.mg "range" = none) (ha : DA X [a] fr) (hs : starEach [a] X.env = [(false, eval a X.env)] := by rfl) : DI X (Strong X.K) tg (.Call (.Name "range" p) [a] [] pos) (fRng1 fr) :=
  ⟨pi_weak (pi_range1 hg hm ha.pa hs) fun σ H R ⟨ρ, F, ds, ρ', E, nd, ef, k⟩ => by
    obtain ⟨⟨rs, ρ1⟩, e1, ef⟩ := Option.bind_eq_some_iff.mp ef
    obtain ⟨xs, e2, ef⟩ := Option.bind_eq_some_iff.mp ef
    split at ef
    · obtain ⟨c, ef⟩ := if_some ef
      cases ef
      refine ⟨ρ, F, rs, ρ', E, nd, e1, fun vs H' g F' r1 E1 N1 S1 => ?_⟩
      obtain ⟨hl, hi⟩ := r1.conts E1 e2
      match vs, hl with
      | [v], _ =>
        obtain ⟨q, r, _⟩ := hi 0 _ v rfl rfl
        obtain ⟨c1, c2⟩ := okR_of c
        exact ⟨_, by rw [r.1], c1, c2, k _ H' F' _ (src_rng 0 _) trivial E1 (nodup3 N1).2.1 (S1.to fun b hb => .inl (List.mem_append_right _ hb))⟩
    · cases ef⟩
theorem di_rng2 {a b : Expr} (hg : Gl X "range") (hm : X.mg "range" = none) (ha : DA X [a, b] fr) (hs : starEach [a, b] X.env = [(false, eval a X.env), (false, eval b X.env)] := by rfl) (hs2 : starEach [b] X.env = [(false, eval b X.env)] := by rfl) :
    DI X (Strong X.K) tg (.Call (.Name "range" p) [a, b] [] pos) (fRng2 fr) :=
  ⟨pi_weak (pi_range2 hg hm ha.pa hs hs2) fun σ H R ⟨ρ, F, ds, ρ', E, nd, ef, k⟩ => by
    obtain ⟨⟨rs, ρ1⟩, e1, ef⟩ := Option.bind_eq_some_iff.mp ef
    obtain ⟨xs, e2, ef⟩ := Option.bind_eq_some_iff.mp ef
    split at ef
    · obtain ⟨⟨c, c'⟩, ef⟩ := if_some ef
      cases ef
      refine ⟨ρ, F, rs, ρ', E, nd, e1, fun vs H' g F' r1 E1 N1 S1 => ?_⟩
      obtain ⟨hl, hi⟩ := r1.conts E1 e2
      match vs, hl with
      | [v, w], _ =>
        obtain ⟨q, r, _⟩ := hi 0 _ v rfl rfl
        obtain ⟨q', r', _⟩ := hi 1 _ w rfl rfl
        obtain ⟨c1, c2⟩ := okR_of c
        obtain ⟨c3, c4⟩ := okR_of c'
        exact ⟨_, _, by rw [r.1, r'.1], ⟨c1, c2, c3, c4⟩, k _ H' F' _ (src_rng _ _) trivial E1 (nodup3 N1).2.1 (S1.to fun b hb => .inl (List.mem_append_right _ hb))⟩
    · cases ef⟩
end
/-! ### a loop's target -/
def rdY (K : PySem.W.Frag) (Y : Yd) (W : List Nat) (fg : FG) : TG := fun v σ H Q => ∃ ρ F d ρ', EnvR K H ρ σ F ∧ Y H d v ∧ F.Nodup ∧ fg d ρ = some ρ' ∧
  ∀ σ' F', EnvR K H ρ' σ' F' → F'.Nodup → (∀ a, a ∈ F' → a ∈ F) → (σ'.length = σ.length ∧ ∀ j, j ∉ W → σ'[j]? = σ[j]?) → Q σ' H
structure DY (X : Cx) (Y : Yd) (W : List Nat) (t : Expr) (fg : FG) : Prop where
  pg : PG X t (rdY X.K Y W fg)
section
variable {X : Cx} {W W1 W2 : List Nat} {t : Expr} {fg : FG} {pos : Pos}
theorem DG.dy (h : DG X W t fg) : DY X (Strong X.K) W t fg := ⟨pg_weak h.pg fun v σ H Q ⟨ρ, F, d, ρ', E, r, nd, ef, k⟩ =>
  ⟨ρ, F, d, [], ρ', E, r, by simpa using nd, ef, fun σ' F' a b c d => k σ' F' a b (fun x hx => by simpa using c x hx) d⟩⟩
/-! ### for -/
def forD (fg : FG) (fb : FS) : List D → FS
  | [], ρ => some (.nx, ρ)
  | d :: ds, ρ => (fg d ρ).bind fun ρ1 => (fb ρ1).bind fun (o, ρ2) => match o with
    | .nx => forD fg fb ds ρ2
    | .ct => forD fg fb ds ρ2
    | .bk => some (.nx, ρ2)
    | .ret d => some (.ret d, ρ2)
def fFor (fi : FI) (fg : FG) (fb : FS) : FS := fun ρ => (fi ρ).bind fun (ds, ρ1) => forD fg fb ds ρ1
theorem ds_for {Y : Yd} {tg iter : Expr} {body : List Stmt} {fi : FI} {fb : FS} (hp : PassesOwn (model X.prog X.w) X.A X.env X.xe) (hc : X.calm = true) (hi : DI X Y tg iter fi) (hg : DY X Y W1 tg fg) (hb : DSs X W2 body fb)
    (hs : ∀ x, foldedSetIterable iter X.env x = pure x := by intro _; rfl) : DS X (W1 ++ W2) (.For tg iter body [] pos) (fFor fi fg fb) :=
  ⟨ps_weak (ps_for hp hc hi.pi hg.pg hb.pss hs) fun Dn σ H ⟨ρ, F, o, ρ', E, nd, ef, k⟩ => by
    obtain ⟨⟨ds, ρ1⟩, e1, ef⟩ := Option.bind_eq_some_iff.mp ef
    refine ⟨ρ, F, ds, ρ1, E, nd, e1, fun J H1 F1 Good so gd E1 N1 S1 => ?_⟩
    refine ⟨fun i m σi Hi => m = ds.length - i ∧ i ≤ ds.length ∧ ∃ ρi Fi, EnvR X.K Hi ρi σi Fi ∧ Fi.Nodup ∧ forD fg fb (ds.drop i) ρi = some (o, ρ') ∧ Good Hi ∧ Step H F Hi Fi ∧ ∀ j, j ∉ W1 ++ W2 → σi[j]? = σ[j]?,
      ⟨ds.length, by simp, Nat.zero_le _, ρ1, F1, E1, N1, ef, gd, S1, fun _ _ => rfl⟩, ?_⟩
    rintro i m σi Hi ⟨rfl, hi, ρi, Fi, Ei, Ni, efi, gi, Si, wi⟩
    by_cases hlt : i < ds.length
    · have hd : ds[i]? = some ds[i] := List.getElem?_eq_getElem hlt
      have e3 : ds.drop i = ds[i] :: ds.drop (i + 1) := List.drop_eq_getElem_cons hlt
      rw [e3] at efi
      obtain ⟨ρ2, e4, efi⟩ := Option.bind_eq_some_iff.mp efi
      obtain ⟨⟨o1, ρ3⟩, e5, efi⟩ := Option.bind_eq_some_iff.mp efi
      refine .inr ⟨so.go Hi i gi hlt, fun σ' H' => (i + 1 ≤ ds.length ∧ ∃ ρi Fi, EnvR X.K H' ρi σ' Fi ∧ Fi.Nodup ∧ forD fg fb (ds.drop (i + 1)) ρi = some (o, ρ') ∧ Good H' ∧ Step H F H' Fi ∧ ∀ j, j ∉ W1 ++ W2 → σ'[j]? = σ[j]?), fun σ' H' h => ⟨ds.length - (i + 1), by omega, rfl, h⟩, fun x H' yl => ?_⟩
      obtain ⟨yr, sm⟩ := so.yld Hi i x H' _ gi yl hd
      have Ei' := Ei.keep (Same.keep (l := Fi) sm)
      have S' : Step H F H' Fi := fun a u ea na => by
        obtain ⟨x1, x2⟩ := Si a u ea na
        exact ⟨sm a u x1, x2⟩
      have gd' : Good H' := so.keep _ _ gi (Same.keep sm)
      refine ⟨ρi, Fi, _, ρ2, Ei', yr, Ni, e4, fun σ2 F2 E2 N2 s2 w2 => ?_⟩
      have S2 : Step H F H' F2 := S'.to fun a ha => .inl (s2 a ha)
      have wj : ∀ j, j ∉ W1 ++ W2 → σ2[j]? = σ[j]? := fun j hj => by
        rw [w2.2 j fun z => hj (List.mem_append_left _ z), wi j hj]
      have next : ∀ σ' H2 F3, EnvR X.K H2 ρ3 σ' F3 → F3.Nodup → Step H' F2 H2 F3 → (∀ j, j ∉ W2 → σ'[j]? = σ2[j]?) → forD fg fb (ds.drop (i + 1)) ρ3 = some (o, ρ') →
          (i + 1 ≤ ds.length ∧ ∃ ρi Fi, EnvR X.K H2 ρi σ' Fi ∧ Fi.Nodup ∧ forD fg fb (ds.drop (i + 1)) ρi = some (o, ρ') ∧ Good H2 ∧ Step H F H2 Fi ∧ ∀ j, j ∉ W1 ++ W2 → σ'[j]? = σ[j]?) := fun σ' H2 F3 E3 N3 S3 w3 e6 =>
        ⟨hlt, ρ3, F3, E3, N3, e6, so.keep _ _ gd' (S3.keep E2.mut (by simp)), S2.trans S3, fun j hj => by rw [w3 j fun z => hj (List.mem_append_right _ z), wj j hj]⟩
      refine ⟨ρ2, F2, o1, ρ3, E2, N2, e5, ?_⟩
      cases o1 with
      | nx => exact fun σ' H2 F3 E3 N3 S3 w3 => next σ' H2 F3 E3 N3 S3 w3 efi
      | ct => exact fun σ' H2 F3 E3 N3 S3 w3 => next σ' H2 F3 E3 N3 S3 w3 efi
      | bk =>
        cases efi
        exact fun σ' H2 F3 E3 N3 S3 w3 => k σ' H2 F3 E3 N3 (S2.trans S3) fun j hj => by rw [w3 j fun z => hj (List.mem_append_right _ z), wj j hj]
      | ret d =>
        cases efi
        exact fun v σ' H2 g F3 r3 E3 N3 S3 w3 => k v σ' H2 g F3 r3 E3 N3 (S2.trans S3) fun j hj => by rw [w3 j fun z => hj (List.mem_append_right _ z), wj j hj]
    · have e3 : i = ds.length := by omega
      subst e3
      rw [List.drop_length] at efi
      cases efi
      exact .inl ⟨so.stop Hi _ gi (Nat.le_refl _), k σi Hi Fi Ei Ni Si wi⟩⟩
/-! ### while -/
def whileD (ft : FT) (fb : FS) : Nat → FS
  | 0, _ => none
  | n + 1, ρ => (ft ρ).bind fun (k, ρ1) => if k then (fb ρ1).bind fun (o, ρ2) => match o with
      | .nx => whileD ft fb n ρ2
      | .ct => whileD ft fb n ρ2
      | .bk => some (.nx, ρ2)
      | .ret d => some (.ret d, ρ2)
    else some (.nx, ρ1)
theorem ds_while {c : Expr} {body : List Stmt} {ft : FT} {fb : FS} (n : Nat) (hp : PassesOwn (model X.prog X.w) X.A X.env X.xe) (hc : DT X c ft) (hb : DSs X W body fb) : DS X W (.While c body [] pos) (whileD ft fb n) :=
  ⟨ps_weak (ps_while hp hc.pt hb.pss) fun Dn σ H ⟨ρ, F, o, ρ', E, nd, ef, k⟩ => by
    refine ⟨fun m σi Hi => ∃ ρi Fi, EnvR X.K Hi ρi σi Fi ∧ Fi.Nodup ∧ whileD ft fb m ρi = some (o, ρ') ∧ Step H F Hi Fi ∧ ∀ j, j ∉ W → σi[j]? = σ[j]?, ⟨n, ρ, F, E, nd, ef, Step.refl, fun _ _ => rfl⟩, ?_⟩
    rintro m σi Hi ⟨ρi, Fi, Ei, Ni, efi, Si, wi⟩
    cases m with
    | zero => cases efi
    | succ m =>
      obtain ⟨⟨k1, ρ1⟩, e1, efi⟩ := Option.bind_eq_some_iff.mp efi
      refine ⟨ρi, Fi, k1, ρ1, Ei, Ni, e1, fun H1 F1 E1 N1 S1 => ?_⟩
      have S' := Si.trans S1
      cases k1 with
      | true =>
        refine iteT ?_
        obtain ⟨⟨o1, ρ2⟩, e2, efi⟩ := Option.bind_eq_some_iff.mp efi
        refine ⟨fun σ' H' => ∃ ρi Fi, EnvR X.K H' ρi σ' Fi ∧ Fi.Nodup ∧ whileD ft fb m ρi = some (o, ρ') ∧ Step H F H' Fi ∧ ∀ j, j ∉ W → σ'[j]? = σ[j]?, fun σ' H' h => ⟨m, Nat.lt_succ_self m, h⟩, ρ1, F1, o1, ρ2, E1, N1, e2, ?_⟩
        cases o1 with
        | nx => exact fun σ' H2 F3 E3 N3 S3 w3 => ⟨ρ2, F3, E3, N3, efi, S'.trans S3, fun j hj => by rw [w3 j hj, wi j hj]⟩
        | ct => exact fun σ' H2 F3 E3 N3 S3 w3 => ⟨ρ2, F3, E3, N3, efi, S'.trans S3, fun j hj => by rw [w3 j hj, wi j hj]⟩
        | bk =>
          cases efi
          exact fun σ' H2 F3 E3 N3 S3 w3 => k σ' H2 F3 E3 N3 (S'.trans S3) fun j hj => by rw [w3 j hj, wi j hj]
        | ret d =>
          cases efi
          exact fun v σ' H2 g F3 r3 E3 N3 S3 w3 => k v σ' H2 g F3 r3 E3 N3 (S'.trans S3) fun j hj => by rw [w3 j hj, wi j hj]
      | false =>
        refine iteF ?_
        cases efi
        exact k σi H1 F1 E1 N1 S' wi⟩
end
end DL
/-! Comprehensions, slices. -/
namespace DL
open PySem PySem.Spec L2
def wipeF (ρ : Fm) : List Nat → Fm
  | [] => ρ
  | v :: vs => (wipeF ρ vs).set v none
section
variable {K : PySem.W.Frag} {H : Hp}
theorem EnvR.congr : ∀ {ρ : Fm} {σ σ' : L2.St} {F : List Addr}, EnvR K H ρ σ F → σ'.length = σ.length → (∀ (i : Nat) (d : D), ρ[i]? = some (some d) → σ'[i]? = σ[i]?) → EnvR K H ρ σ' F
  | [], σ, σ', F, h, hl, _ => by
    obtain ⟨rfl, rfl⟩ := h
    exact ⟨List.eq_nil_of_length_eq_zero hl, rfl⟩
  | none :: ρ, σ, σ', F, h, hl, e => by
    obtain ⟨o, τ, rfl, h⟩ := h
    match σ', hl with
    | o' :: τ', hl => exact ⟨o', τ', rfl, EnvR.congr h (by simpa using hl) fun i d q => by simpa using e (i + 1) d (by simpa using q)⟩
  | some d :: ρ, σ, σ', F, h, hl, e => by
    obtain ⟨v, τ, f, g, rfl, rfl, r, h⟩ := h
    match σ', hl with
    | o' :: τ', hl =>
      have e0 := e 0 d rfl
      simp at e0
      subst e0
      exact ⟨v, τ', f, g, rfl, rfl, r, EnvR.congr h (by simpa using hl) fun i d q => by simpa using e (i + 1) d (by simpa using q)⟩
theorem EnvR.wiped {ρ : Fm} {σ : L2.St} {F : List Addr} (h : EnvR K H ρ σ F) (nd : F.Nodup) : ∀ vs : List Nat, ∃ F', EnvR K H (wipeF ρ vs) (wipe σ vs) F' ∧ F'.Nodup ∧ ∀ a, a ∈ F' → a ∈ F
  | [] => ⟨F, h, nd, fun a ha => ha⟩
  | v :: vs => by
    obtain ⟨F', h1, n1, s1⟩ := EnvR.wiped h nd vs
    obtain ⟨A, f, B, rfl, h2⟩ := h1.drop (i := v)
    exact ⟨A ++ B, h2.other, (nodup3 (nodup_mid n1)).2.1, fun a ha => s1 a (by simp at ha ⊢; rcases ha with z | z <;> simp [z])⟩
theorem wipeF_get {ρ : Fm} {i : Nat} {d : D} : ∀ {vs : List Nat}, (wipeF ρ vs)[i]? = some (some d) → ρ[i]? = some (some d) ∧ i ∉ vs
  | [], h => ⟨h, by simp⟩
  | v :: vs, h => by
    unfold wipeF at h
    rw [List.getElem?_set] at h
    split at h
    · split at h <;> cases h
    · rename_i hv
      obtain ⟨h1, h2⟩ := wipeF_get h
      exact ⟨h1, by simp only [List.mem_cons, not_or]; exact ⟨fun z => hv z.symm, h2⟩⟩
theorem wipe_get {σ : L2.St} {i : Nat} : ∀ {vs : List Nat}, i ∉ vs → (wipe σ vs)[i]? = σ[i]?
  | [], _ => rfl
  | v :: vs, h => by
    simp only [List.mem_cons, not_or] at h
    unfold wipe
    rw [List.getElem?_set_ne (fun z => h.1 z.symm), wipe_get h.2]
theorem EnvR.unwiped {ρ : Fm} {σ : L2.St} {F : List Addr} {vs : List Nat} (h : EnvR K H ρ (wipe σ vs) F) (e : wipeF ρ vs = ρ) : EnvR K H ρ σ F :=
  h.congr (by rw [wipe_length]) fun i d q => by
    rw [← e] at q
    rw [wipe_get (wipeF_get q).2]
theorem wipe_same {σ σ' : L2.St} {W vs : List Nat} (hl : σ'.length = σ.length) (hw : ∀ j, j ∉ W → σ'[j]? = (wipe σ vs)[j]?) (hs : ∀ j, j ∈ W → j ∈ vs) : wipe σ' vs = wipe σ vs := by
  apply List.ext_getElem?
  intro i
  by_cases hi : i ∈ vs
  · have key : ∀ (τ : L2.St), i < τ.length → ∀ ws : List Nat, i ∈ ws → (wipe τ ws)[i]? = some none := by
      intro τ hτ ws
      induction ws with
      | nil => intro h; cases h
      | cons w ws ih =>
        intro h
        unfold wipe
        by_cases hw : w = i
        · subst hw
          rw [List.getElem?_set_self (by rw [wipe_length]; exact hτ)]
        · rw [List.getElem?_set_ne hw]
          exact ih ((List.mem_cons.mp h).resolve_left fun z => hw z.symm)
    by_cases hb : i < σ.length
    · rw [key σ hb vs hi, key σ' (by rw [hl]; exact hb) vs hi]
    · rw [List.getElem?_eq_none (by rw [wipe_length, hl]; omega), List.getElem?_eq_none (by rw [wipe_length]; omega)]
  · rw [wipe_get hi, hw i fun z => hi (hs i z)]
theorem wipeF_idem (ρ : Fm) (vs : List Nat) : wipeF (wipeF ρ vs) vs = wipeF ρ vs := by
  apply List.ext_getElem?
  intro i
  have len : ∀ (τ : Fm) (ws : List Nat), (wipeF τ ws).length = τ.length := by
    intro τ ws
    induction ws with
    | nil => rfl
    | cons w ws ih => unfold wipeF; rw [List.length_set, ih]
  have inn : ∀ (τ : Fm), i < τ.length → ∀ ws : List Nat, i ∈ ws → (wipeF τ ws)[i]? = some none := by
    intro τ hτ ws
    induction ws with
    | nil => intro h; cases h
    | cons w ws ih =>
      intro h
      unfold wipeF
      by_cases hw : w = i
      · subst hw
        rw [List.getElem?_set_self (by rw [len]; exact hτ)]
      · rw [List.getElem?_set_ne hw]
        exact ih ((List.mem_cons.mp h).resolve_left fun z => hw z.symm)
  have out : ∀ (τ : Fm) (ws : List Nat), i ∉ ws → (wipeF τ ws)[i]? = τ[i]? := by
    intro τ ws
    induction ws with
    | nil => intro _; rfl
    | cons w ws ih =>
      intro h
      simp only [List.mem_cons, not_or] at h
      unfold wipeF
      rw [List.getElem?_set_ne (fun z => h.1 z.symm), ih h.2]
  by_cases hi : i ∈ vs
  · by_cases hb : i < ρ.length
    · rw [inn _ (by rw [len]; exact hb) vs hi, inn _ hb vs hi]
    · rw [List.getElem?_eq_none (by rw [len, len]; omega), List.getElem?_eq_none (by rw [len]; omega)]
  · rw [out _ _ hi]
end
/-! ### [e for t in it if c] -/
def lcD (vs : List Nat) (fg : FG) (ft : FT) (fe : FE) : List D → Fm → Option (List D × Fm)
  | [], ρ => some ([], ρ)
  | d :: ds, ρ => (fg d ρ).bind fun ρ1 => (ft ρ1).bind fun (k, ρ2) => if k then
      (fe ρ2).bind fun (r, ρ3) => (take1 ρ3 r).bind fun (z, ρ4) => (lcD vs fg ft fe ds (wipeF ρ4 vs)).map fun (zs, ρ5) => (z :: zs, ρ5)
    else lcD vs fg ft fe ds (wipeF ρ2 vs)
def fLc (vs : List Nat) (fi : FI) (fg : FG) (ft : FT) (fe : FE) : FE := fun ρ => (fi ρ).bind fun (ds, ρ1) => (lcD vs fg ft fe ds (wipeF ρ1 vs)).bind fun (zs, ρ2) =>
  if zs.length ≤ sizeLine then some (.val (.lst zs), ρ2) else none
def fYes : FT := fun ρ => some (true, ρ)
structure DTs (X : Cx) (ifs : List Expr) (f : FT) : Prop where
  pt : PTs X ifs (rdT X.K f)
theorem dts_nil {X : Cx} : DTs X [] fYes := ⟨⟨fun pins s σ H Q I ⟨ρ, F, k0, ρ2, E, nd, ef, k⟩ => by
  cases ef
  exact pts_nil.run pins s σ H Q I (k H F E nd Step.refl)⟩⟩
theorem dts_one {X : Cx} {c : Expr} {f : FT} (h : DT X c f) : DTs X [c] f := ⟨pts_one h.pt⟩
section
variable {X : Cx} {Y : Yd} {elt tg iter : Expr} {ifs : List Expr} {scope : Scope} {own : List (Str × Nat)} {pos : Pos} {fi : FI} {fg : FG} {ft : FT} {fe : FE} {W : List Nat}
theorem lc_of {K : PySem.W.Frag} {vs : List Nat} (hw : ∀ j, j ∈ W → j ∈ vs) {σ : L2.St} {H : Hp} {Q : VK} (h : rdE K (fLc vs fi fg ft fe) σ H Q) : tLc (rdI K Y fi) (rdY K Y W fg) (rdT K ft) (rdE K fe) vs σ H Q := by
  obtain ⟨ρ, F, r0, ρ', E, nd, ef, k⟩ := h
  obtain ⟨⟨ds, ρ1⟩, e1, ef⟩ := Option.bind_eq_some_iff.mp ef
  obtain ⟨⟨zs, ρ2⟩, e2, ef⟩ := Option.bind_eq_some_iff.mp ef
  obtain ⟨cl, ef⟩ := if_some ef
  cases ef
  refine ⟨ρ, F, ds, ρ1, E, nd, e1, fun J H1 F1 Good so gd E1 N1 S1 D hD => ?_⟩
  obtain ⟨Fb, Eb, Nb, sb⟩ := E1.wiped N1 vs
  have sm := upd_same_of (o := .lst []) hD
  have nD : D ∉ Fb := fun z => by
    obtain ⟨u, eu⟩ := (E1.mut D (sb D z)).some_
    rw [hD] at eu
    cases eu
  refine ⟨fun i m Hi => m = ds.length - i ∧ i ≤ ds.length ∧ ∃ ρi Fi acc ys rest g, EnvR K Hi ρi (wipe σ vs) Fi ∧ Hi D = some (.lst acc) ∧ RepL K Hi ys acc g ∧ ((D :: g) ++ Fi).Nodup ∧ wipeF ρi vs = ρi ∧
      lcD vs fg ft fe (ds.drop i) ρi = some (rest, ρ') ∧ ys ++ rest = zs ∧ Good Hi ∧ Step H F Hi ((D :: g) ++ Fi),
    ⟨ds.length, by simp, Nat.zero_le _, wipeF ρ1 vs, Fb, [], [], zs, [], Eb.keep (Same.keep sm), upd_same, ⟨rfl, rfl⟩, List.nodup_cons.mpr ⟨by simpa using nD, by simpa using Nb⟩, wipeF_idem _ _, e2, rfl, so.keep _ _ gd (Same.keep sm), fun a u ea na => ?_⟩, ?_⟩
  · obtain ⟨x1, x2⟩ := S1 a u ea na
    refine ⟨sm a u x1, fun z => ?_⟩
    rcases List.mem_cons.mp z with rfl | z
    · rw [hD] at x1; cases x1
    · exact x2 (sb a (by simpa using z))
  rintro i m Hi ⟨rfl, hi, ρi, Fi, acc, ys, rest, g, Ei, hacc, rl, ndi, wi, efi, es, gi, Si⟩
  obtain ⟨n1, n2, n3⟩ := nodup3 ndi
  have mu : MutO (Hi D) := by rw [hacc]; trivial
  have mg : ∀ a ∈ D :: g, MutO (Hi a) := fun a ha => (List.mem_cons.mp ha).elim (fun z => z ▸ mu) (RepL.mut _ _ _ rl a)
  by_cases hlt : i < ds.length
  · have hd : ds[i]? = some ds[i] := List.getElem?_eq_getElem hlt
    have e3 : ds.drop i = ds[i] :: ds.drop (i + 1) := List.drop_eq_getElem_cons hlt
    rw [e3] at efi
    obtain ⟨ρa, e4, efi⟩ := Option.bind_eq_some_iff.mp efi
    obtain ⟨⟨kt, ρb⟩, e5, efi⟩ := Option.bind_eq_some_iff.mp efi
    refine .inr ⟨so.go Hi i gi hlt, fun H' => (i + 1 ≤ ds.length ∧ ∃ ρi Fi acc ys rest g, EnvR K H' ρi (wipe σ vs) Fi ∧ H' D = some (.lst acc) ∧ RepL K H' ys acc g ∧ ((D :: g) ++ Fi).Nodup ∧ wipeF ρi vs = ρi ∧
        lcD vs fg ft fe (ds.drop (i + 1)) ρi = some (rest, ρ') ∧ ys ++ rest = zs ∧ Good H' ∧ Step H F H' ((D :: g) ++ Fi)), fun H' h => ⟨ds.length - (i + 1), by omega, rfl, h⟩, fun x H' yl => ?_⟩
    obtain ⟨yr, sm'⟩ := so.yld Hi i x H' _ gi yl hd
    have Ei' := Ei.keep (Same.keep (l := Fi) sm')
    have gd' : Good H' := so.keep _ _ gi (Same.keep sm')
    refine ⟨ρi, Fi, _, ρa, Ei', yr, n2, e4, fun σ2 F2 E2 N2 s2 w2 => ?_⟩
    refine ⟨wipe_same (by rw [w2.1, wipe_length]) w2.2 hw, ?_⟩
    -- what is made so far stands by itself
    have step1 : Step H F H' ((D :: g) ++ Fi) := fun a u ea na => by
      obtain ⟨x1, x2⟩ := Si a u ea na
      exact ⟨sm' a u x1, x2⟩
    have d2 : ∀ a ∈ D :: g, a ∉ F2 := fun a ha hb => n3 a ha (s2 a hb)
    have acc2 : H' D = some (.lst acc) := sm' _ _ hacc
    have rl2 : RepL K H' ys acc g := RepL.keep _ _ _ rl (Same.keep sm')
    have mg2 : ∀ a ∈ D :: g, MutO (H' a) := fun a ha => (List.mem_cons.mp ha).elim (fun z => by rw [z, acc2]; trivial) (RepL.mut _ _ _ rl2 a)
    refine ⟨ρa, F2, kt, ρb, E2, N2, e5, fun H3 F3 E3 N3 S3 => ?_⟩
    have kp3 : Keep H' (D :: g) H3 := S3.keep E2.mut d2
    have d3 : ∀ a ∈ D :: g, a ∉ F3 := S3.apart mg2 d2
    have acc3 : H3 D = some (.lst acc) := kp3 D _ acc2 (.inr List.mem_cons_self)
    have rl3 : RepL K H3 ys acc g := RepL.keep _ _ _ rl2 (kp3.sub fun a ha => List.mem_cons_of_mem _ ha)
    have gd3 : Good H3 := so.keep _ _ gd' (S3.keep E2.mut (by simp))
    have step3 : Step H F H3 ((D :: g) ++ F3) := fun a u ea na => by
      obtain ⟨x1, x2⟩ := step1 a u ea na
      obtain ⟨x3, x4⟩ := S3 a u x1 fun z => x2 (List.mem_append_right _ (s2 a z))
      exact ⟨x3, fun z => (List.mem_append.mp z).elim (fun z => x2 (List.mem_append_left _ z)) x4⟩
    have wlen : ∀ {Hx : Hp} {ρx : Fm} {Fx : List Addr}, EnvR K Hx ρx σ2 Fx → Fx.Nodup → ∃ F', EnvR K Hx (wipeF ρx vs) (wipe σ vs) F' ∧ F'.Nodup ∧ ∀ a, a ∈ F' → a ∈ Fx := fun {Hx ρx Fx} Ex Nx => by
      obtain ⟨F', q1, q2, q3⟩ := Ex.wiped Nx vs
      rw [wipe_same (by rw [w2.1, wipe_length]) w2.2 hw] at q1
      exact ⟨F', q1, q2, q3⟩
    cases kt with
    | true =>
      refine iteT ?_
      obtain ⟨⟨r, ρ3⟩, e6, efi⟩ := Option.bind_eq_some_iff.mp efi
      obtain ⟨⟨z, ρ4⟩, e7, efi⟩ := Option.bind_eq_some_iff.mp efi
      obtain ⟨⟨zs', ρ5⟩, e8, efi⟩ := Option.map_eq_some_iff.mp efi
      cases efi
      refine ⟨ρb, F3, r, ρ3, E3, N3, e6, fun y H4 g4 F4 r4 E4 N4 S4 => ?_⟩
      obtain ⟨p4, F5, r5, E5, N5, s5⟩ := r4.take E4 N4 e7
      have S4' : Step H3 F3 H4 (p4 ++ F5) := S4.to fun a ha => .inl (s5 a ha)
      have kp4 : Keep H3 (D :: g) H4 := S4'.keep E3.mut d3
      have mg3 : ∀ a ∈ D :: g, MutO (H3 a) := fun a ha => (List.mem_cons.mp ha).elim (fun z => by rw [z, acc3]; trivial) (RepL.mut _ _ _ rl3 a)
      have d4 : ∀ a ∈ D :: g, a ∉ p4 ++ F5 := S4'.apart mg3 d3
      have acc4 : H4 D = some (.lst acc) := kp4 D _ acc3 (.inr List.mem_cons_self)
      have rl4 : RepL K H4 ys acc g := RepL.keep _ _ _ rl3 (kp4.sub fun a ha => List.mem_cons_of_mem _ ha)
      have mu4 : MutO (H4 D) := by rw [acc4]; trivial
      have gd4 : Good H4 := so.keep _ _ gd3 (S4'.keep E3.mut (by simp))
      obtain ⟨F6, E6, N6, s6⟩ := wlen E5 (nodup3 N5).2.1
      obtain ⟨nDg, ng⟩ := List.nodup_cons.mp n1
      obtain ⟨m1, m2, m3⟩ := nodup3 N5
      have nd' : ((D :: (g ++ p4)) ++ F6).Nodup := by
        have q1 : (g ++ p4).Nodup := nodup_of ng m1 fun a ha hb => d4 a (List.mem_cons_of_mem _ ha) (List.mem_append_left _ hb)
        refine nodup_of (List.nodup_cons.mpr ⟨fun z => ?_, q1⟩) N6 fun a ha hb => ?_
        · rcases List.mem_append.mp z with z | z
          · exact nDg z
          · exact d4 D List.mem_cons_self (List.mem_append_left _ z)
        · rcases List.mem_cons.mp ha with rfl | ha
          · exact d4 _ List.mem_cons_self (List.mem_append_right _ (s6 _ hb))
          · rcases List.mem_append.mp ha with ha | ha
            · exact d4 a (List.mem_cons_of_mem _ ha) (List.mem_append_right _ (s6 _ hb))
            · exact m3 a ha (s6 a hb)
      have nDp : D ∉ g ++ p4 := (List.nodup_cons.mp (nodup3 nd').1).1
      have kpD : ∀ {l : List Addr}, D ∉ l → Keep H4 l (upd H4 D (.lst (acc ++ [y]))) := fun hl => keep_upd mu4 hl
      refine ⟨acc, acc4, ?_, hlt, wipeF ρ4 vs, F6, acc ++ [y], ys ++ [z], zs', g ++ p4, E6.keep (kpD fun q => (nodup3 nd').2.2 D List.mem_cons_self q), upd_same, RepL.keep _ _ _ (rl4.append (RepL.of_one r5)) (kpD nDp), nd', wipeF_idem _ _, e8, by rw [← es, List.append_assoc]; rfl, so.keep _ _ gd4 (kpD (by simp)), fun a u ea na => ?_⟩
      · have := rl4.length
        rw [this]
        rw [← es, List.length_append, List.length_cons] at cl
        omega
      · obtain ⟨x1, x2⟩ := step3 a u ea na
        obtain ⟨x3, x4⟩ := S4' a u x1 fun q => x2 (List.mem_append_right _ q)
        have hb : a ≠ D := fun q => x2 (by simp [q])
        refine ⟨by rw [upd_ne hb]; exact x3, fun q => ?_⟩
        simp only [List.mem_append, List.mem_cons] at q x2 x4
        rcases q with (q | q | q) | q
        · exact hb q
        · exact x2 (.inl (.inr q))
        · exact x4 (.inl q)
        · exact x4 (.inr (s6 a q))
    | false =>
      refine iteF ?_
      obtain ⟨F6, E6, N6, s6⟩ := wlen E3 N3
      refine ⟨hlt, wipeF ρb vs, F6, acc, ys, rest, g, E6, acc3, rl3, nodup_of n1 N6 fun a ha hb => d3 a ha (s6 a hb), wipeF_idem _ _, efi, es, gd3, step3.to fun a ha => .inl ?_⟩
      rcases List.mem_append.mp ha with q | q
      · exact List.mem_append_left _ q
      · exact List.mem_append_right _ (s6 a q)
  · have e3 : i = ds.length := by omega
    subst e3
    rw [List.drop_length] at efi
    cases efi
    rw [List.append_nil] at es
    subst es
    exact .inl ⟨so.stop Hi _ gi (Nat.le_refl _), k (.ref D) Hi (D :: g) Fi ⟨D, acc, g, rfl, hacc, rfl, rl⟩ (Ei.unwiped wi) ndi Si⟩
theorem de_lc (hc : X.calm = true) (hN : X.N.Nodup) (hi : DI X Y tg iter fi) (ok : BlkOk X.N X.env.scope scope own)
    (hg : ∀ (s : Shared) (H : Hp) (C : Addr) (cl : List (Str × Addr)) (fp : List Addr), DY (X.blk s H scope (compEnvC scope cl C X.env) fp) Y W tg fg)
    (ht : ∀ (s : Shared) (H : Hp) (C : Addr) (cl : List (Str × Addr)) (fp : List Addr), DTs (X.blk s H scope (compEnvC scope cl C X.env) fp) ifs ft)
    (he : ∀ (s : Shared) (H : Hp) (C : Addr) (cl : List (Str × Addr)) (fp : List Addr), DE (X.blk s H scope (compEnvC scope cl C X.env) fp) elt fe)
    (hw : ∀ j, j ∈ W → j ∈ own.map (·.2)) (hs : ∀ x, foldedSetIterable iter X.env x = pure x := by intro _; rfl) :
    DE X (.ListComp elt [⟨tg, iter, ifs, 0⟩] scope pos) (fLc (own.map (·.2)) fi fg ft fe) :=
  ⟨pe_weak (pe_lc hc hN hi.pi ok (fun s H C cl fp => (hg s H C cl fp).pg) (fun s H C cl fp => (ht s H C cl fp).pt) (fun s H C cl fp => (he s H C cl fp).pe) hs) fun σ H Q h => lc_of hw h⟩
/-- y = [..], y a local -/
theorem ds_setLc {i : Nat} {y : Str} {py spos : Pos} (hc : X.calm = true) (hN : X.N.Nodup) (hy : X.N[i]? = some y) (hyl : X.env.scope.names.lookup y = some .local)
    (hsw : swapsWith (.ListComp elt [⟨tg, iter, ifs, 0⟩] scope pos) (some (.Name y py)) spos.line X.env = pure true) (hi : DI X Y tg iter fi) (ok : BlkOk X.N X.env.scope scope own)
    (hg : ∀ (s : Shared) (H : Hp) (C : Addr) (cl : List (Str × Addr)) (fp : List Addr), DY (X.blk s H scope (compEnvC scope cl C X.env) fp) Y W tg fg)
    (ht : ∀ (s : Shared) (H : Hp) (C : Addr) (cl : List (Str × Addr)) (fp : List Addr), DTs (X.blk s H scope (compEnvC scope cl C X.env) fp) ifs ft)
    (he : ∀ (s : Shared) (H : Hp) (C : Addr) (cl : List (Str × Addr)) (fp : List Addr), DE (X.blk s H scope (compEnvC scope cl C X.env) fp) elt fe)
    (hw : ∀ j, j ∈ W → j ∈ own.map (·.2)) (hs : ∀ x, foldedSetIterable iter X.env x = pure x := by intro _; rfl) :
    DS X [i] (.Assign [.Name y py] (.ListComp elt [⟨tg, iter, ifs, 0⟩] scope pos) spos) (fAsg (fLc (own.map (·.2)) fi fg ft fe) (fgName i)) :=
  ⟨ps_weak (ps_setLc hc hN hy hyl hsw hi.pi ok (fun s H C cl fp => (hg s H C cl fp).pg) (fun s H C cl fp => (ht s H C cl fp).pt) (fun s H C cl fp => (he s H C cl fp).pe) hs) fun Dn σ H h => by
    obtain ⟨ρ, F, r, ρ', E, nd, ef, k⟩ := asg_of h
    refine lc_of (Y := Y) (W := W) hw ⟨ρ, F, r, ρ', E, nd, ef, fun v H' g F' r1 E1 N1 S1 => ?_⟩
    obtain ⟨ρ2, F2, d, p, ρ3, E2, r2, N2, e3, k2⟩ := k v H' g F' r1 E1 N1 S1
    obtain ⟨c, rfl⟩ := if_some e3
    obtain ⟨F3, E3, N3, s3⟩ := E2.store r2 N2 c
    exact k2 _ F3 E3 N3 s3 ⟨List.length_set .., fun j hj => by rw [List.getElem?_set_ne]; intro z; exact hj (by simp [z])⟩⟩
end
/-! ### slices -/
def rdO (K : PySem.W.Frag) (f : Fm → Option (Option Int × Fm)) : TO := fun σ H Q => ∃ ρ F o ρ', EnvR K H ρ σ F ∧ F.Nodup ∧ f ρ = some (o, ρ') ∧
  ∀ H' F', EnvR K H' ρ' σ F' → F'.Nodup → Step H F H' F' → Q o H'
structure DO (X : Cx) (e : Option Expr) (f : Fm → Option (Option Int × Fm)) : Prop where
  po : PO X e (rdO X.K f)
theorem po_weak {X : Cx} {e : Option Expr} {t t' : TO} (h : PO X e t) (w : ∀ σ H Q, t' σ H Q → t σ H Q) : PO X e t' := ⟨by
  intro pins s σ H Q I q
  exact h.run pins s σ H Q I (w _ _ _ q)⟩
def foNone : Fm → Option (Option Int × Fm) := fun ρ => some (none, ρ)
def foSome (f : FE) : Fm → Option (Option Int × Fm) := fun ρ => (f ρ).bind fun (r, ρ1) => (cont ρ1 r).bind fun d => match d with
  | .int i => some (some i, ρ1)
  | _ => none
theorem do_none {X : Cx} : DO X none foNone := ⟨po_weak po_none fun σ H Q ⟨ρ, F, o, ρ', E, nd, ef, k⟩ => by
  cases ef
  exact k H F E nd Step.refl⟩
theorem do_some {X : Cx} {e : Expr} {f : FE} (h : DE X e f) : DO X (some e) (foSome f) := ⟨po_weak (po_some h.pe) fun σ H Q ⟨ρ, F, o, ρ', E, nd, ef, k⟩ => by
  obtain ⟨⟨r, ρ1⟩, e1, ef⟩ := Option.bind_eq_some_iff.mp ef
  obtain ⟨d, e2, ef⟩ := Option.bind_eq_some_iff.mp ef
  cases d <;> try cases ef
  refine ⟨ρ, F, r, _, E, nd, e1, fun v H' g F' r1 E1 N1 S1 => ?_⟩
  obtain ⟨p, q, _⟩ := r1.cont E1 e2
  exact ⟨_, q.1, k H' F' E1 (nodup3 N1).2.1 (S1.to fun a ha => .inl (List.mem_append_right _ ha))⟩⟩
def cut {α : Type} (xs : List α) (lo hi : Option Int) : List α := (xs.drop (HT.sIx xs.length 0 lo)).take (HT.sIx xs.length xs.length hi - HT.sIx xs.length 0 lo)
def dCut (d : D) (lo hi : Option Int) : Option D := match d with
  | .tup ds => if immL ds = true then some (.tup (cut ds lo hi)) else none
  | .lst ds => if immL ds = true then some (.lst (cut ds lo hi)) else none
  | .flst ds => if immL ds = true then some (.lst (cut ds lo hi)) else none
  | _ => none
def fCut (fe : FE) (fl fh : Fm → Option (Option Int × Fm)) : FE := fun ρ => (fe ρ).bind fun (r, ρ1) => (fl ρ1).bind fun (lo, ρ2) => (fh ρ2).bind fun (hi, ρ3) => (cont ρ3 r).bind fun d => (dCut d lo hi).map fun z => (.val z, ρ3)
theorem RepL.cut {K : PySem.W.Frag} {H : Hp} {ds : List D} {vs : List V} {p : List Addr} (r : RepL K H ds vs p) (c : immL ds = true) (lo hi : Option Int) : RepL K H (DL.cut ds lo hi) (cutV vs lo hi) [] := by
  unfold DL.cut cutV
  rw [r.length]
  generalize HT.sIx ds.length 0 lo = a
  generalize HT.sIx ds.length ds.length hi - a = b
  have hl := r.length
  refine RepL.of_each (by simp [hl]) fun i d v e1 e2 => ?_
  rw [List.getElem?_take] at e1 e2
  split at e1
  · rw [if_pos (by assumption)] at e2
    rw [List.getElem?_drop] at e1 e2
    obtain ⟨d', e3, r3⟩ := r.each c _ v e2
    rw [e1] at e3
    cases e3
    exact r3
  · cases e1
theorem cut_whole {α : Type} {ds : List α} {lo hi : Option Int} (h : whole ds.length lo hi) : cut ds lo hi = ds := by
  unfold cut
  rw [h.1, h.2]
  simp
theorem de_cut {X : Cx} {e : Expr} {lo hi : Option Expr} {fe : FE} {fl fh : Fm → Option (Option Int × Fm)} {p2 pos : Pos} (he : DE X e fe) (hl : DO X lo fl) (hh : DO X hi fh) : DE X (.Subscript e (.Slice lo hi none p2) pos) (fCut fe fl fh) :=
  ⟨pe_weak (pe_slice (sl_tupF.or sl_list) he.pe hl.po hh.po) fun σ H Q ⟨ρ, F, r', ρ', E, nd, ef, k⟩ => by
    obtain ⟨⟨r, ρ1⟩, e1, ef⟩ := Option.bind_eq_some_iff.mp ef
    obtain ⟨⟨l, ρ2⟩, e2, ef⟩ := Option.bind_eq_some_iff.mp ef
    obtain ⟨⟨h, ρ3⟩, e3, ef⟩ := Option.bind_eq_some_iff.mp ef
    obtain ⟨d, e4, ef⟩ := Option.bind_eq_some_iff.mp ef
    obtain ⟨z, e5, ef⟩ := Option.map_eq_some_iff.mp ef
    cases ef
    refine ⟨ρ, F, r, ρ1, E, nd, e1, fun v H1 g F1 r1 E1 N1 S1 => ⟨ρ1, F1, l, ρ2, E1, (nodup3 N1).2.1, e2, fun H2 F2 E2 N2 S2 => ⟨ρ2, F2, h, ρ', E2, N2, e3, fun H3 F3 E3 N3 S3 => ?_⟩⟩⟩
    obtain ⟨n1, n2, n3⟩ := nodup3 N1
    have S23 := S2.trans S3
    have r3 := r1.keep (S23.keep E1.mut n3)
    have S4 : Step H F H3 F3 := fun a u ea na => by
      obtain ⟨x1, x2⟩ := S1 a u ea na
      exact S23 a u x1 fun q => x2 (List.mem_append_right _ q)
    obtain ⟨p, q, _⟩ := r3.cont E3 e4
    have T : Tells X.K H3 z Q := fun u H' hh ru nh fr sm => k u H' hh F3 ru (E3.keep (Same.keep sm)) (nodup_fresh E3 N3 nh fr) (S4.fresh sm fr fun a ha => ha)
    cases d <;> try cases e5
    · obtain ⟨c, rfl⟩ := if_some e5
      obtain ⟨a, vs, rfl, ta, rl⟩ := q
      have rc := rl.cut c l h
      refine .inl ⟨a, vs, rfl, ta.sq, fun hw => ?_, fun _ => T.tup rc⟩
      have : cut (α := D) _ l h = _ := cut_whole (rl.length ▸ hw)
      exact T.flat ⟨a, vs, rfl, ta, by rw [this]; exact rl.nil_of c⟩
    · obtain ⟨c, rfl⟩ := if_some e5
      obtain ⟨a, vs, g', rfl, ta, rl, _⟩ := Rep.sqL q rfl
      exact .inr ⟨a, vs, rfl, ta, fun p hp => T.list (rl.cut c l h) hp⟩
    · obtain ⟨c, rfl⟩ := if_some e5
      obtain ⟨a, vs, g', rfl, ta, rl, _⟩ := Rep.sqL q rfl
      exact .inr ⟨a, vs, rfl, ta, fun p hp => T.list (rl.cut c l h) hp⟩⟩
end DL
/-! repr, displays of dicts, list(range); defs and their calls; the end of a law. -/
namespace DL
open PySem PySem.Spec L2
/-! ### repr -/
def rRepr (K : PySem.W.Frag) : List V → Hp → VK → Prop := fun xs H Q => ∃ v d, xs = [v] ∧ Dp K H v d ∧ d.showable = true ∧ d.hasDict = false ∧ d.depth ≤ 32 ∧ d.shown.length ≤ sizeLine ∧ Q (.str d.shown) H
theorem cx_repr {X : Cx} (hg : X.A.guards = some []) (hu : X.A.units + 40 < cLine) : CallR X (.builtin "repr") (rRepr X.K) := by
  rintro pins s σ H _ _ Q I (_ | ⟨ru, _ | _⟩) ⟨v, d, ev, dp, sh, nd, hd, hz, q⟩ <;> cases ev
  cases dp with
  | non => cases ru; exact PySem.P.repr_of_none ⟨.str _, H, I.tok _, ⟨_, rfl⟩, q⟩
  | bl b => cases ru; exact PySem.P.repr_of_bool ⟨.str _, H, I.tok _, ⟨_, rfl⟩, q⟩
  | int i =>
    obtain ⟨t, rfl⟩ := ru
    exact PySem.P.repr_of_int (of_decide_eq_true sh) ⟨.str _, H, I.tok _, ⟨_, rfl⟩, q⟩
  | str x =>
    obtain ⟨t, rfl⟩ := ru
    exact PySem.P.repr_of_str ⟨.str _, H, I.tok _, ⟨_, rfl⟩, q⟩ hz
  | lst h1 h2 =>
    cases ru
    obtain ⟨as, rd⟩ := Dp.reads I _ _ _ (.lst h1 h2) rfl
    exact repr_of_reads' rd sh (fun z => by rw [nd] at z; cases z) hg (by omega) (fun _ _ e => e) (fun h' u tk kp => ⟨.str _, H, I.kept kp, ⟨_, rfl⟩, q⟩) hz
  | tup h1 h2 =>
    cases ru
    obtain ⟨as, rd⟩ := Dp.reads I _ _ _ (.tup h1 h2) rfl
    exact repr_of_reads' rd sh (fun z => by rw [nd] at z; cases z) hg (by omega) (fun _ _ e => e) (fun h' u tk kp => ⟨.str _, H, I.kept kp, ⟨_, rfl⟩, q⟩) hz
def reprOk (x : D) : Bool := noDic x && (toP x).showable && !(toP x).hasDict && decide ((toP x).depth ≤ 32) && decide ((toP x).shown.length ≤ sizeLine)
def dRepr : List D → Option D
  | [x] => if reprOk x = true then some (.str (toP x).shown) else none
  | _ => none
theorem cs_repr {K : PySem.W.Frag} : CallS K (rRepr K) dRepr := by
  intro H ds vs z Q a e k
  unfold dRepr at e
  split at e
  · obtain ⟨v, p, rfl, r⟩ := a.one
    obtain ⟨c, rfl⟩ := if_some e
    unfold reprOk at c
    simp only [Bool.and_eq_true, Bool.not_eq_true', decide_eq_true_eq] at c
    obtain ⟨⟨⟨⟨c1, c2⟩, c3⟩, c4⟩, c5⟩ := c
    exact ⟨v, _, rfl, Rep.dp _ _ _ r c1, c2, c3, c4, c5, k.flat ⟨rfl, rfl⟩⟩
  · cases e
/-! ### list(range(..)) -/
section
variable {X : Cx} {a b e : Expr} {fa fb : FE} {p p2 pos pos2 : Pos}
theorem rgV_rep {K : PySem.W.Frag} {H : Hp} (i j : Int) : RepL K H (iota i (j - i).toNat) (rgV i j) [] := by
  refine RepL.of_each (by simp [rgV, iota]) fun n d v e1 e2 => ?_
  rw [iota_get e1]
  unfold rgV at e2
  rw [List.getElem?_map] at e2
  cases h : (List.range (j - i).toNat)[n]? with
  | none => rw [h] at e2; cases e2
  | some m =>
    rw [h] at e2
    cases e2
    obtain ⟨_, rfl⟩ := List.getElem?_eq_some_iff.mp h
    exact ⟨by simp, rfl⟩
def fLstRg1 (fa : FE) : FE := fun ρ => (fa ρ).bind fun (r, ρ1) => (cont ρ1 r).bind fun d => match d with
  | .int j => if okR j = true ∧ j.toNat ≤ 2 ^ 24 then some (.val (.lst (iota 0 j.toNat)), ρ1) else none
  | _ => none
theorem de_lstRg1 (hc : X.calm = true) (hg : Gl X "list") (hm : X.mg "list" = none) (hg2 : Gl X "range") (hm2 : X.mg "range" = none) (ha : DE X a fa)
    (na : starEach [Expr.Call (.Name "range" p2) [a] [] pos2] X.env = (false, eval (Expr.Call (.Name "range" p2) [a] [] pos2) X.env) :: starEach [] X.env := by rfl)
    (nb : starEach [a] X.env = (false, eval a X.env) :: starEach [] X.env := by rfl) : DE X (.Call (.Name "list" p) [.Call (.Name "range" p2) [a] [] pos2] [] pos) (fLstRg1 fa) :=
  ⟨pe_weak (pe_listRg hc hg hm (prg_1 hg2 hm2 ha.pe nb) na) fun σ H Q ⟨ρ, F, r', ρ', E, nd, ef, k⟩ => by
    obtain ⟨⟨r, ρ1⟩, e1, ef⟩ := Option.bind_eq_some_iff.mp ef
    obtain ⟨d, e2, ef⟩ := Option.bind_eq_some_iff.mp ef
    cases d <;> try cases ef
    rename_i j
    obtain ⟨⟨c1, c2⟩, ef⟩ := if_some ef
    cases ef
    refine ⟨ρ, F, r, ρ', E, nd, e1, fun v H' g F' r1 E1 N1 S1 => ?_⟩
    obtain ⟨pp, q, _⟩ := r1.cont E1 e2
    obtain ⟨b1, b2⟩ := okR_of c1
    refine ⟨j, q.1, ⟨by decide, by decide, b1, b2, by simpa using c2⟩, fun t ht => ?_⟩
    have T : Tells X.K H' (.lst (iota 0 j.toNat)) Q := fun u H2 hh ru nh fr sm => k u H2 hh F' ru (E1.keep (Same.keep sm)) (nodup_fresh E1 (nodup3 N1).2.1 nh fr) (S1.fresh sm fr fun a ha => List.mem_append_right _ ha)
    have := rgV_rep (K := X.K) (H := H') 0 j
    rw [Int.sub_zero] at this
    exact T.list this ht⟩
end
/-! ### {k: v, ..} -/
theorem rdA_cons {K : PySem.W.Frag} {f : FE} {fr : FA} {σ : L2.St} {H : Hp} {Q : List V → Hp → Prop} (h : rdA K (fCons f fr) σ H Q) : rdE K f σ H fun v H1 => rdA K fr σ H1 fun ws H2 => Q (v :: ws) H2 := by
  obtain ⟨ρ, F, r, ρ2, E, nd, ef, k⟩ := h
  obtain ⟨⟨x, ρ1⟩, e1, e⟩ := Option.bind_eq_some_iff.mp ef
  obtain ⟨⟨rs, ρ3⟩, e2, e⟩ := Option.map_eq_some_iff.mp e
  cases e
  exact oneA E nd e1 e2 fun v ws H2 gx gy F2 r1 r2 E2 N2 S2 => k (v :: ws) H2 (gx ++ gy) F2 ⟨v, ws, gx, gy, rfl, rfl, r1, r2⟩ E2 (by rw [List.append_assoc]; exact N2) (by rw [List.append_assoc]; exact S2)
def flat2 : List (V × V) → List V
  | [] => []
  | (k, v) :: r => k :: v :: flat2 r
theorem rdE_mono {K : PySem.W.Frag} {f : FE} {σ : L2.St} {H : Hp} {Q Q' : VK} (h : ∀ v H, Q v H → Q' v H) (q : rdE K f σ H Q) : rdE K f σ H Q' := by
  obtain ⟨ρ, F, r, ρ', E, nd, ef, k⟩ := q
  exact ⟨ρ, F, r, ρ', E, nd, ef, fun v H' g F' a b c d => h _ _ (k v H' g F' a b c d)⟩
structure DPP (X : Cx) (pos : Pos) (keys : List (Option Expr)) (values : List Expr) (fr : FA) : Prop where
  ex : ∃ trs, PPs X pos keys values trs ∧ ∀ σ H (Q : List V → Hp → Prop) (P : List (V × V) → Hp → Prop), (∀ ps H2, Q (flat2 ps) H2 → P ps H2) → rdA X.K fr σ H Q → tPairs trs σ H P
theorem dpp_nil {X : Cx} {pos : Pos} : DPP X pos [] [] fNil := ⟨[], pps_nil, fun σ H Q P hP ⟨ρ, F, r, ρ2, E, nd, ef, k⟩ => by
  cases ef
  exact hP [] H (k [] H [] F ⟨rfl, rfl⟩ E nd Step.refl)⟩
theorem dpp_cons {X : Cx} {pos : Pos} {k v : Expr} {ks : List (Option Expr)} {vs : List Expr} {fk fv : FE} {fr : FA} (hk : DE X k fk) (hv : DE X v fv) (hr : DPP X pos ks vs fr) : DPP X pos (some k :: ks) (v :: vs) (fCons fk (fCons fv fr)) := by
  obtain ⟨trs, h1, h2⟩ := hr
  refine ⟨_, pps_cons hk.pe hv.pe h1, fun σ H Q P hP h => ?_⟩
  exact rdE_mono (fun x H1 q1 => rdE_mono (fun y H2 q2 => h2 σ H2 _ _ (fun ps H3 q3 => hP ((x, y) :: ps) H3 q3) q2) (rdA_cons q1)) (rdA_cons h)
def pairUp : List D → Option (List (Key × D))
  | [] => some []
  | k :: d :: r => (keyOf k).bind fun kk => (pairUp r).map fun kvs => (kk, d) :: kvs
  | _ => none
def fDic (fr : FA) : FE := fun ρ => (fr ρ).bind fun (rs, ρ1) => (takes ρ1 rs).bind fun (ds, ρ2) => (pairUp ds).bind fun kvs => if (kvs.map (·.1)).Nodup ∧ kvs.length ≤ 15 then some (.val (.dic kvs), ρ2) else none
theorem pairUp_rep {K : PySem.W.Frag} {H : Hp} : ∀ {ds : List D} {ps : List (V × V)} {p : List Addr} {kvs : List (Key × D)}, RepL K H ds (flat2 ps) p → pairUp ds = some kvs →
    ∃ ws : List (Key × V), ps = ws.map (fun kv => (kV kv.1, kv.2)) ∧ RepK K H kvs ws p ∧ ws.map (·.1) = kvs.map (·.1)
  | [], ps, p, kvs, r, e => by
    cases e
    obtain ⟨r1, rfl⟩ := r
    cases ps with
    | nil => exact ⟨[], rfl, ⟨rfl, rfl⟩, rfl⟩
    | cons x ps => cases r1
  | [_], ps, p, kvs, r, e => by cases e
  | k :: d :: ds, ps, p, kvs, r, e => by
    obtain ⟨kk, e1, e⟩ := Option.bind_eq_some_iff.mp e
    obtain ⟨kvs', e2, rfl⟩ := Option.map_eq_some_iff.mp e
    obtain ⟨v, vs', f1, f2, e3, rfl, r1, r2⟩ := r
    obtain ⟨w, vs2, f3, f4, rfl, rfl, r3, r4⟩ := r2
    cases ps with
    | nil => cases e3
    | cons x ps =>
      obtain ⟨x1, x2⟩ := x
      injection e3 with y1 y2
      injection y2 with y2 y3
      subst y1; subst y2; subst y3
      obtain ⟨ws, rfl, q1, q2⟩ := pairUp_rep r4 e2
      obtain rfl := keyOf_kV r1 e1
      have : f1 = [] := Rep.imm _ _ _ r1 (by revert e1; cases k <;> intro e1 <;> first | rfl | cases e1)
      subst this
      exact ⟨(kk, x2) :: ws, rfl, ⟨x2, ws, f3, f4, rfl, rfl, r3, q1⟩, by simp [q2]⟩
theorem mergeK_nodup : ∀ (ws acc : List (Key × V)), ((acc ++ ws).map (·.1)).Nodup → mergeK acc ws = acc ++ ws
  | [], acc, _ => by simp [mergeK]
  | (k, v) :: ws, acc, h => by
    have hn : valV acc k = none := by
      have hk : k ∉ acc.map (·.1) := fun z => by
        rw [List.map_append, List.nodup_append] at h
        exact h.2.2 k z k (by simp) rfl
      clear h
      induction acc with
      | nil => rfl
      | cons x acc ih =>
        simp only [List.map_cons, List.mem_cons, not_or] at hk
        rw [valV_neg (fun z => hk.1 z.symm)]
        exact ih hk.2
    show mergeK (putK acc k v) ws = _
    rw [putK_new _ hn, mergeK_nodup ws _ (by simpa using h)]
    simp
theorem de_dic {X : Cx} {pos : Pos} {keys : List (Option Expr)} {values : List Expr} {fr : FA} (h : DPP X pos keys values fr) (hall : keys.all (·.isSome) = true) (hl : keys.length = values.length) (h0 : keys ≠ []) (h15 : keys.length ≤ 15) : DE X (.Dict keys values pos) (fDic fr) := by
  obtain ⟨trs, h1, h2⟩ := h
  refine ⟨pe_weak (pe_disp h1 hall hl h0 h15) fun σ H Q ⟨ρ, F, r, ρ2, E, nd, ef, k⟩ p hp => ?_⟩
  obtain ⟨⟨rs, ρ1⟩, e1, e⟩ := Option.bind_eq_some_iff.mp ef
  obtain ⟨⟨ds, ρ3⟩, e2, e⟩ := Option.bind_eq_some_iff.mp e
  obtain ⟨kvs, e3, e⟩ := Option.bind_eq_some_iff.mp e
  obtain ⟨⟨cn, cl⟩, e⟩ := if_some e
  cases e
  have sm0 := upd_same_of (o := .dK []) hp
  have np : p ∉ F := fun z => by
    obtain ⟨u, eu⟩ := (E.mut p z).some_
    rw [hp] at eu
    cases eu
  refine h2 σ (upd H p (.dK [])) (fun vs H2 => ∀ ps, vs = flat2 ps → (H2 p = some (.dK []) ∧ ∃ ws : List (Key × V), ps = ws.map (fun kv => (kV kv.1, kv.2)) ∧ ws.length ≤ 15 ∧ Q (.ref p) (upd H2 p (.dK (mergeK [] ws))))) _ (fun ps H2 q => q ps rfl)
    ⟨ρ, F, rs, ρ1, E.keep (Same.keep sm0), nd, e1, fun vs H' g F' r1 E1 N1 S1 ps ev => ?_⟩
  · subst ev
    obtain ⟨p2, F2, r2, E2, N2, s2⟩ := r1.takes E1 N1 e2
    obtain ⟨ws, rfl, rk, kq⟩ := pairUp_rep r2 e3
    obtain ⟨hp2, np2⟩ := S1 p _ upd_same np
    have np3 : p ∉ p2 ++ F2 := fun z => np2 (s2 p z)
    have hl2 := rk.length
    have mu : MutO (H' p) := by rw [hp2]; trivial
    refine ⟨hp2, ws, rfl, by rw [hl2]; exact cl, ?_⟩
    rw [mergeK_nodup ws [] (by rw [List.nil_append, kq]; exact cn), List.nil_append]
    refine k _ _ (p :: p2) F2 ⟨p, ws, p2, rfl, upd_same, rfl, RepK.keep _ _ _ rk (keep_upd mu fun z => np3 (List.mem_append_left _ z))⟩ (E2.keep (keep_upd mu fun z => np3 (List.mem_append_right _ z))) (List.nodup_cons.mpr ⟨np3, N2⟩) fun b u eb nb => ?_
    have hb : b ≠ p := fun z => by rw [z, hp] at eb; cases eb
    obtain ⟨x1, x2⟩ := S1 b u (sm0 b u eb) nb
    refine ⟨by rw [upd_ne hb]; exact x1, fun z => ?_⟩
    rcases List.mem_cons.mp z with z | z
    · exact hb z
    · exact x2 (s2 b z)
end DL
/-! A def by its meaning; its call; the end of a law. -/
namespace DL
open PySem PySem.Spec L2
open PyProof.Rows (envOfC AllBare)
/-- data in, what is told out, and what the arguments are then (none: not known) -/
abbrev Den := List D → Option (D × Fm)
def spD (K : PySem.W.Frag) (den : Den) (vs : List V) (H : Hp) (Q : VK) : Prop := ∃ ds F r ρ', RepL K H ds vs F ∧ F.Nodup ∧ den ds = some (r, ρ') ∧
  ∀ v H' g F', Rep K H' r v g → EnvR K H' ρ' (vs.map some) F' → (g ++ F').Nodup → Step H F H' (g ++ F') → Q v H'
structure FnD (P : Program) (w : World) (K : PySem.W.Frag) (mg : Str → Option Value) (base : Heap) (k : Nat) (f : Addr) (fd : FuncData) (ps : List Str) (den : Den) : Prop where
  run : ∀ (A : Around) (outer : List PySem.Env) (s : Shared) (H : Hp) (args : PySem.Args) (us : List Value) (vs : List V) (Q : VK), A.guards = some [] → Room k A →
    Env0 P w K mg base A outer s H → BindsTo s fd args (ps.zip us) → Vals vs us → vs.length = ps.length → spD K den vs H Q →
    codeAny (model P w) A (.call (.ref f) args) (CR CX0 outer P w H s Q E0) s
theorem FnD.mono {P : Program} {w : World} {K : PySem.W.Frag} {mg : Str → Option Value} {base : Heap} {j k : Nat} {f : Addr} {fd : FuncData} {ps : List Str} {den : Den} (F : FnD P w K mg base j f fd ps den) (h : j ≤ k) : FnD P w K mg base k f fd ps den :=
  ⟨fun A outer s H args us vs Q hg hr => F.run A outer s H args us vs Q hg (hr.mono h)⟩
/-- the parameters at the end: such as were not stored -/
def params (W : List Nat) (n : Nat) (ρ : Fm) : Fm := (List.range n).map fun i => if i ∈ W then none else slot ρ i
def denOf (N n : Nat) (W : List Nat) (fb : FS) : Den := fun ds => (fb (ds.map some ++ List.replicate (N - ds.length) none)).bind fun (o, ρ) => match o with
  | .ret d => some (d, params W n ρ)
  | .nx => some (.non, params W n ρ)
  | _ => none
section
variable {K : PySem.W.Frag} {H : Hp}
theorem EnvR.of_vals : ∀ {ds : List D} {vs : List V} {F : List Addr} (n : Nat), RepL K H ds vs F → EnvR K H (ds.map some ++ List.replicate n none) (vs.map some ++ List.replicate n none) F
  | [], vs, F, n, r => by
    obtain ⟨rfl, rfl⟩ := r
    induction n with
    | zero => exact ⟨rfl, rfl⟩
    | succ n ih => exact ⟨none, _, rfl, ih⟩
  | d :: ds, vs, F, n, r => by
    obtain ⟨v, vs', f1, f2, rfl, rfl, r1, r2⟩ := r
    exact ⟨v, _, f1, f2, rfl, rfl, r1, EnvR.of_vals n r2⟩
/-- the first slots alone -/
theorem EnvR.first {σ : L2.St} {ρ : Fm} {F : List Addr} {vs : List V} {W : List Nat} (E : EnvR K H ρ σ F) (nd : F.Nodup) (hv : ∀ i, i ∉ W → i < vs.length → σ[i]? = some (vs[i]?)) :
    ∃ F', EnvR K H (params W vs.length ρ) (vs.map some) F' ∧ F'.Nodup ∧ ∀ a, a ∈ F' → a ∈ F := by
  -- slot by slot
  have gen : ∀ (n : Nat), n ≤ vs.length → ∀ (τ : Fm) (G : List Addr), EnvR K H τ σ G → G.Nodup → (∀ i d, slot τ i = some d → slot ρ i = some d) → (∀ i, n ≤ i → i ∉ W → slot τ i = slot ρ i) →
      ∃ F', EnvR K H ((List.range (vs.length - n)).map fun i => if (i + n) ∈ W then none else slot ρ (i + n)) ((vs.drop n).map some) F' ∧ F'.Nodup ∧ ∀ a, a ∈ F' → a ∈ G := by
    intro n hn
    generalize hm : vs.length - n = m
    induction m generalizing n with
    | zero =>
      intro τ G Eτ nG _ _
      have : vs.drop n = [] := List.drop_eq_nil_of_le (by omega)
      rw [this]
      exact ⟨[], ⟨rfl, rfl⟩, List.nodup_nil, fun a ha => by cases ha⟩
    | succ m ih =>
      intro τ G Eτ nG h1 h2
      have hlt : n < vs.length := by omega
      have hd : vs.drop n = vs[n] :: vs.drop (n + 1) := List.drop_eq_getElem_cons hlt
      rw [hd, List.range_succ_eq_map, List.map_cons, List.map_map, List.map_cons]
      have fe : ((fun i => if (i + n) ∈ W then none else slot ρ (i + n)) ∘ Nat.succ) = fun i => if (i + (n + 1)) ∈ W then none else slot ρ (i + (n + 1)) := by
        funext i
        have : Nat.succ i + n = i + (n + 1) := by omega
        simp only [Function.comp, this]
      rw [fe]
      by_cases hW : (0 + n) ∈ W ∨ slot ρ (0 + n) = none
      · have e0 : (if (0 + n) ∈ W then none else slot ρ (0 + n)) = none := by
          rcases hW with h | h
          · rw [if_pos h]
          · rw [h]; split <;> rfl
        rw [e0]
        obtain ⟨F', q1, q2, q3⟩ := ih (n + 1) (by omega) (by omega) τ G Eτ nG h1 fun i hi => h2 i (by omega)
        exact ⟨F', ⟨_, _, rfl, q1⟩, q2, q3⟩
      · rw [not_or] at hW
        rw [Nat.zero_add] at hW ⊢
        obtain ⟨d, ed⟩ := Option.ne_none_iff_exists'.mp hW.2
        rw [if_neg hW.1, ed]
        have et : slot τ n = some d := by rw [h2 n (Nat.le_refl _) hW.1, ed]
        obtain ⟨v, G1, f, G3, e1, rfl, r1, E1⟩ := Eτ.at (slot_some et)
        have ev := hv n hW.1 hlt
        rw [e1] at ev
        have ev' : v = vs[n] := by
          have := Option.some.inj ev
          rw [List.getElem?_eq_getElem hlt] at this
          exact Option.some.inj this
        subst ev'
        have nd' := nodup_mid nG
        obtain ⟨m1, m2, m3⟩ := nodup3 nd'
        obtain ⟨F', q1, q2, q3⟩ := ih (n + 1) (by omega) (by omega) (τ.set n none) (G1 ++ G3) E1 m2 (fun i d' e => h1 i d' (by
          have e' := slot_some e
          rw [List.getElem?_set] at e'
          unfold slot
          split at e'
          · split at e' <;> cases e'
          · rw [e'])) fun i hi hw => by
            rw [← h2 i (by omega) hw]
            unfold slot
            rw [List.getElem?_set_ne (by omega)]
        refine ⟨f ++ F', ⟨vs[n], _, f, F', rfl, rfl, r1, q1⟩, nodup_of m1 q2 fun a ha hb => m3 a ha (q3 a hb), fun a ha => ?_⟩
        rcases List.mem_append.mp ha with z | z
        · simp [z]
        · have := q3 a z
          simp at this ⊢
          rcases this with y | y <;> simp [y]
  obtain ⟨F', q1, q2, q3⟩ := gen 0 (Nat.zero_le _) ρ F E nd (fun _ _ e => e) fun _ _ _ => rfl
  exact ⟨F', by simpa [params] using q1, q2, q3⟩
end
/-! ### a def of the text by its body
Three facts, then the rule: what the base holds is there at the call; a body's end is the call's end; the body alone, from its parameters on. -/
section
variable {P : Program} {w : World} {K : PySem.W.Frag} {mg : Str → Option Value} {base : Heap} {A : Around} {outer : List PySem.Env} {s : Shared} {H : Hp}
theorem at_call (e : Env0 P w K mg base A outer s H) : K.In s.heap ∧ s.heap.NoLimit :=
  have up : ∀ c u, base.get? c = some u → s.heap.get? c = some u := fun c u q => And.left (e.bs c u q)
  ⟨e.mod.kin.keeps up, e.mod.nolimit.keeps up⟩
/-- the context of a def's body at a call -/
abbrev ctx (P : Program) (w : World) (K : PySem.W.Frag) (mg : Str → Option Value) (base : Heap) (N : List Str) (qual : Str) (sc : Scope) (f : Addr) (cdv : Value) (A : Around) (outer : List PySem.Env) (s : Shared) (H : Hp) : Cx := cxOf CX0 P w K mg base N qual sc f cdv A outer s H E0
theorem body_left {N : List Str} {qual : Str} {sc : Scope} {f : Addr} {cdv : Value} {Q : VK} : ∀ (o : Flow) (t : Shared), SP (ctx P w K mg base N qual sc f cdv A outer s H) [] { nx := fun _ G => Q .non G, rt := Q } o t →
    match o with
    | .next => CE outer P w H s Q .none t
    | .ret u => CE outer P w H s Q u t
    | _ => False
  | .next, t, ⟨_, G, J, q⟩ => ⟨V.non, G, J.os, J.bare, J.base, J.hok, rfl, q⟩
  | .ret _, t, ⟨x, _, G, J, rx, q⟩ => ⟨x, G, J.os, J.bare, J.base, J.hok, rx, q⟩
  | .brk, _, ⟨_, _, _, no⟩ => no
  | .cont, _, ⟨_, _, _, no⟩ => no
/-- slots that the body stores nothing into hold the arguments at the end -/
theorem args_stay {N : List Str} {vs : List V} {W : List Nat} {τ : L2.St} (h : ∀ j, j ∉ W → τ[j]? = (L2.start N vs)[j]?) (i : Nat) (hi : i ∉ W) (hlt : i < vs.length) : τ[i]? = some (vs[i]?) := by
  have e : (L2.start N vs)[i]? = some (vs[i]?) := by
    simp [L2.start, List.getElem?_append_left, hlt]
  exact (h i hi).trans e
/-- the body alone: what the meaning tells comes about -/
theorem body_does {X : Cx} {body : List Stmt} {fb : FS} {W : List Nat} {N : List Str} {n : Nat} {vs : List V} {Q : VK} {t : Shared} (hb : PSs X body (rdS X.K W fb)) (I : Inv X [] (L2.start N vs) H t) (hl : vs.length = n) (sp : spD X.K (denOf N.length n W fb) vs H Q) :
    wpAny (model X.prog X.w) X.A (execs body X.env) (SP X [] { nx := fun _ G => Q .non G, rt := Q }) X.xe t := by
  subst hl
  obtain ⟨ds, G, r, out, rl, nd, told, k⟩ := sp
  obtain ⟨⟨o, ρ1⟩, run, end1⟩ := Option.bind_eq_some_iff.mp told
  have E : EnvR X.K H (ds.map some ++ List.replicate (N.length - ds.length) none) (L2.start N vs) G := by
    have := EnvR.of_vals (N.length - ds.length) rl
    rwa [← rl.length] at this ⊢
  refine hb.run [] t _ H _ I ⟨_, G, o, ρ1, E, nd, run, ?_⟩
  match o, end1 with
  | .nx, rfl =>
    intro τ H' F' E' N' S' still
    obtain ⟨F2, q1, q2, q3⟩ := E'.first N' (args_stay still)
    exact k .non H' [] F2 ⟨rfl, rfl⟩ q1 q2 (S'.to fun a ha => .inl (q3 a ha))
  | .ret d, rfl =>
    intro v τ H' g F' rv E' N' S' still
    have ⟨n1, n2, n3⟩ := nodup3 N'
    obtain ⟨F2, q1, q2, q3⟩ := E'.first n2 (args_stay still)
    refine k v H' g F2 rv q1 (nodup_of n1 q2 fun a ha hb => n3 a ha (q3 a hb)) (S'.to fun a ha => .inl ?_)
    simp only [List.mem_append] at ha ⊢
    exact ha.imp id (q3 a)
end
theorem fnD_of {P : Program} {w : World} {K : PySem.W.Frag} {mg : Str → Option Value} {base : Heap} {k : Nat} {f : Addr} {fd : FuncData} {x qual : Str} {st : Stmt} {N ps : List Str} {W : List Nat} {fb : FS} (F : Fun K x qual st f fd) (S : FnScope N ps (defScope st))
    (hbody : ∀ (cdv : Value) (A : Around) (outer : List PySem.Env) (s : Shared) (H : Hp), A.guards = some [] → Room k (A.deeper (envOfC qual (defScope st) s.heap.objs.size f cdv)) →
      DSs (ctx P w K mg base N qual (defScope st) f cdv A outer s H).nox W (defBody st) fb) : FnD P w K mg base (k + 1) f fd ps (denOf N.length ps.length W fb) := by
  obtain ⟨_, _, _, _, _, _, cd, _, _, rfl, here, code⟩ := F.ex
  constructor
  intro A outer s H args us vs Q guards room e binds rel len sp
  obtain ⟨inK, free⟩ := at_call e
  have names (y : Str × Value) (hy : y ∈ ps.zip us) := (S.par y.1 (List.of_mem_zip (b := y.2) hy).1).imp_right fun c => And.intro c (PySem.W.cellsFrom_some (defScope st).names (s.heap.objs.size + 1) [] (Or.inl c))
  apply codeAny_call_function room.depth (inK _ _ here) rfl S.co S.gen rfl (PySem.W.codeRec_of inK code)
  apply binds
  apply wpAny_newFunctionEnv_cells S.kind names
  rintro _ rfl t call
  have I := inv_start (CX := CX0) (w := w) (E := E0) S room.hd e len rel call
  refine ⟨free.keeps call.toInCall.keep, codeAny_func (wpAny_mono (body_does (hbody cd A outer s H guards (room.deeper _)).pss.nox I len sp) (fun o t' h => ?_) fun _ _ h => h)⟩
  have := body_left o t' h
  cases o <;> first | exact this | exact False.elim this
/-! ### calls -/
/-- what the slots hold again, behind the call -/
def giveBack : List R → List D → Fm → Fm → Fm
  | .var i :: rs, d :: ds, o :: os, ρ => giveBack rs ds os (if imm d then ρ else ρ.set i o)
  | .val _ :: rs, _ :: ds, _ :: os, ρ => giveBack rs ds os ρ
  | _, _, _, ρ => ρ
def fCallD (den : Den) (fr : FA) : FE := fun ρ => (fr ρ).bind fun (rs, ρ1) => (takes ρ1 rs).bind fun (ds, ρ2) => (den ds).map fun (r, ρp) => (.val r, giveBack rs ds ρp ρ2)
section
variable {K : PySem.W.Frag} {H : Hp} {σ : L2.St}
theorem give : ∀ {rs : List R} {vs : List V} {g : List Addr} {ds : List D} {os ρ : Fm} {F Fp : List Addr} {H0 : Hp}, RepRs K H0 σ rs vs g → EnvR K H os (vs.map some) Fp → EnvR K H ρ σ F → (Fp ++ F).Nodup →
    ∃ F', EnvR K H (giveBack rs ds os ρ) σ F' ∧ F'.Nodup ∧ ∀ a, a ∈ F' → a ∈ Fp ++ F
  | [], vs, g, ds, os, ρ, F, Fp, H0, r, Eo, E, nd => ⟨F, by unfold giveBack; exact E, (nodup3 nd).2.1, fun a ha => List.mem_append_right _ ha⟩
  | x :: rs, vs, g, [], os, ρ, F, Fp, H0, r, Eo, E, nd => ⟨F, by cases x <;> (unfold giveBack; exact E), (nodup3 nd).2.1, fun a ha => List.mem_append_right _ ha⟩
  | x :: rs, vs, g, d :: ds, [], ρ, F, Fp, H0, r, Eo, E, nd => ⟨F, by cases x <;> (unfold giveBack; exact E), (nodup3 nd).2.1, fun a ha => List.mem_append_right _ ha⟩
  | .val d0 :: rs, vs, g, d :: ds, o :: os, ρ, F, Fp, H0, r, Eo, E, nd => by
    obtain ⟨v, vs', g1, g2, rfl, rfl, r1, r2⟩ := r
    have Eo' : ∃ G, EnvR K H os (vs'.map some) G ∧ G.Nodup ∧ ∀ a ∈ G, a ∈ Fp := by
      obtain ⟨n1, n2, n3⟩ := nodup3 nd
      cases o with
      | none => obtain ⟨o', τ, e, h⟩ := Eo; injection e with _ e; subst e; exact ⟨Fp, h, n1, fun a ha => ha⟩
      | some d' => obtain ⟨w, τ, f, f', e, rfl, _, h⟩ := Eo; injection e with _ e; subst e; exact ⟨f', h, (nodup3 n1).2.1, fun a ha => List.mem_append_right _ ha⟩
    obtain ⟨G, EG, nG, sG⟩ := Eo'
    obtain ⟨n1, n2, n3⟩ := nodup3 nd
    obtain ⟨F', q1, q2, q3⟩ := give (ds := ds) r2 EG E (nodup_of nG n2 fun a ha => n3 a (sG a ha))
    exact ⟨F', by unfold giveBack; exact q1, q2, fun a ha => by
      rcases List.mem_append.mp (q3 a ha) with z | z
      · exact List.mem_append_left _ (sG a z)
      · exact List.mem_append_right _ z⟩
  | .var i :: rs, vs, g, d :: ds, o :: os, ρ, F, Fp, H0, r, Eo, E, nd => by
    obtain ⟨v, vs', g1, g2, rfl, rfl, r1, r2⟩ := r
    obtain ⟨n1, n2, n3⟩ := nodup3 nd
    obtain ⟨hv, _⟩ := r1
    -- the rest of the arguments, and this one
    have key : ∀ (ρ' : Fm) (Fn G : List Addr), EnvR K H os (vs'.map some) G → EnvR K H ρ' σ Fn → (G ++ Fn).Nodup → (∀ a, a ∈ G ++ Fn → a ∈ Fp ++ F) → (if imm d then ρ else ρ.set i o) = ρ' →
        ∃ F', EnvR K H (giveBack (.var i :: rs) (d :: ds) (o :: os) ρ) σ F' ∧ F'.Nodup ∧ ∀ a, a ∈ F' → a ∈ Fp ++ F := fun ρ' Fn G EG En nn sub eq => by
      obtain ⟨F', q1, q2, q3⟩ := give (ds := ds) r2 EG En nn
      exact ⟨F', by unfold giveBack; rw [eq]; exact q1, q2, fun a ha => sub a (q3 a ha)⟩
    by_cases hi : imm d = true
    · cases o with
      | none =>
        obtain ⟨o', τ, e, h⟩ := Eo; injection e with _ e; subst e
        exact key ρ F Fp h E nd (fun a ha => ha) (by rw [if_pos hi])
      | some d' =>
        obtain ⟨w, τ, f, f', e, rfl, _, h⟩ := Eo; injection e with _ e; subst e
        exact key ρ F f' h E (nodup_of (nodup3 n1).2.1 n2 fun a ha => n3 a (List.mem_append_right _ ha)) (fun a ha => by simp at ha ⊢; rcases ha with z | z <;> simp [z]) (by rw [if_pos hi])
    · cases o with
      | none =>
        obtain ⟨o', τ, e, h⟩ := Eo; injection e with _ e; subst e
        obtain ⟨A, f, B, rfl, E1⟩ := E.drop (i := i)
        refine key _ (A ++ B) Fp h E1 (nodup_of n1 (nodup3 (nodup_mid n2)).2.1 fun a ha hb => n3 a ha ?_) (fun a ha => ?_) (by rw [if_neg hi])
        · simp at hb ⊢; rcases hb with z | z <;> simp [z]
        · simp at ha ⊢; rcases ha with z | z | z <;> simp [z]
      | some d' =>
        obtain ⟨w, τ, f, f', e, rfl, rw', h⟩ := Eo
        injection e with e0 e
        subst e
        cases e0
        obtain ⟨m1, m2, m3⟩ := nodup3 n1
        by_cases hlt : i < ρ.length
        · obtain ⟨A, fo, B, rfl, E1⟩ := E.drop (i := i)
          have nAB : (A ++ B).Nodup := (nodup3 (nodup_mid n2)).2.1
          obtain ⟨A', B', eab, E2⟩ := E1.put hlt hv rw'
          have nn : (f ++ (A' ++ B')).Nodup := nodup_of m1 (by rw [← eab]; exact nAB) fun a ha hb => n3 a (List.mem_append_left _ ha) (by rw [← eab] at hb; simp at hb ⊢; rcases hb with z | z <;> simp [z])
          refine key _ (A' ++ (f ++ B')) f' h E2 (nodup_of m2 (nodup_mid nn) fun a ha hb => ?_) (fun a ha => ?_) (by rw [if_neg hi])
          · simp only [List.mem_append] at hb
            rcases hb with z | z | z
            · have : a ∈ A ++ B := by rw [eab]; simp [z]
              exact n3 a (List.mem_append_right _ ha) (by simp at this ⊢; rcases this with y | y <;> simp [y])
            · exact m3 a z ha
            · have : a ∈ A ++ B := by rw [eab]; simp [z]
              exact n3 a (List.mem_append_right _ ha) (by simp at this ⊢; rcases this with y | y <;> simp [y])
          · simp only [List.mem_append] at ha ⊢
            rcases ha with z | z | z | z
            · simp [z]
            · have : a ∈ A ++ B := by rw [eab]; simp [z]
              simp at this; rcases this with y | y <;> simp [y]
            · simp [z]
            · have : a ∈ A ++ B := by rw [eab]; simp [z]
              simp at this; rcases this with y | y <;> simp [y]
        · have : ρ.set i (some d') = ρ := List.set_eq_of_length_le (by omega)
          exact key ρ F f' h E (nodup_of m2 n2 fun a ha => n3 a (List.mem_append_right _ ha)) (fun a ha => by simp at ha ⊢; rcases ha with z | z <;> simp [z]) (by rw [if_neg hi, this])
end
section
variable {X : Cx} {x : Str} {p pos : Pos} {e : Expr} {es : List Expr} {fr : FA} {k : Nat} {f : Addr} {fd : FuncData} {ps : List Str} {den : Den}
theorem run_fnD {pins : List (Addr × Obj)} {σ : L2.St} {H : Hp} {s : Shared} {Q : VK} {us : List Value} {vs : List V} (F : FnD X.prog X.w X.K X.mg X.base k f fd ps den) (hgd : X.A.guards = some []) (hr : Room k X.A) (hb : Binds X.K fd ps [])
    (I : Inv X pins σ H s) (r : Vals vs us) (hl : vs.length = ps.length) (h : spD X.K den vs H Q) : wpAny (model X.prog X.w) X.A (call (.ref f) us) (EP X pins σ Q) X.xe s := by
  have hb' := hb s us I.kIn (by rw [List.append_nil, ← r.length]; exact hl)
  rw [List.append_nil] at hb'
  refine wpAny_call (codeAny_mono (F.run X.A X.stack s H ⟨us, []⟩ us vs Q hgd hr I.env0 hb' r hl h) fun rr s' hq => ?_)
  match rr, hq with
  | .ok (.ret u), hq => exact I.after hq
  | .ok .next, hq => exact False.elim hq
  | .ok .brk, hq => exact False.elim hq
  | .ok .cont, hq => exact False.elim hq
  | .error ee, hq => exact False.elim hq
theorem call_core {σ : L2.St} {H : Hp} {Q : VK} {n : Nat} (hn : ∀ (ρ ρ1 : Fm) (rs : List R), fr ρ = some (rs, ρ1) → rs.length = n) (h : rdE X.K (fCallD den fr) σ H Q) : rdA X.K fr σ H fun vs H1 => vs.length = n ∧ spD X.K den vs H1 Q := by
  obtain ⟨ρ, F, r, ρ', E, nd, ef, k⟩ := h
  obtain ⟨⟨rs, ρ1⟩, e1, ef⟩ := Option.bind_eq_some_iff.mp ef
  obtain ⟨⟨ds, ρ2⟩, e2, ef⟩ := Option.bind_eq_some_iff.mp ef
  obtain ⟨⟨rr, ρp⟩, e3, ef⟩ := Option.map_eq_some_iff.mp ef
  cases ef
  refine ⟨ρ, F, rs, ρ1, E, nd, e1, fun vs H1 g F1 r1 E1 N1 S1 => ?_⟩
  obtain ⟨p2, F2, r2, E2, N2, s2⟩ := r1.takes E1 N1 e2
  have hl : ∀ {rs : List R} {vs : List V} {g : List Addr}, RepRs X.K H1 σ rs vs g → vs.length = rs.length := by
    intro rs
    induction rs with
    | nil => intro vs g h; rw [h.1]; rfl
    | cons x rs ih => intro vs g h; obtain ⟨v, vs', _, _, rfl, _, _, h⟩ := h; simp [ih h]
  refine ⟨by rw [hl r1, hn _ _ _ e1], ds, p2, rr, ρp, r2, (nodup3 N2).1, e3, fun v H' g' F' rv Ep np Sp => ?_⟩
  obtain ⟨n1, n2, n3⟩ := nodup3 N2
  have n3' : ∀ a ∈ F2, a ∉ p2 := fun a ha hb => n3 a hb ha
  have E2' := E2.keep (Sp.keep r2.mut n3')
  have ap : ∀ a ∈ F2, a ∉ g' ++ F' := Sp.apart E2.mut n3'
  obtain ⟨m1, m2, m3⟩ := nodup3 np
  obtain ⟨F3, E3, N3, s3⟩ := give (ds := ds) r1 Ep E2' (nodup_of m2 n2 fun a ha hb => ap a hb (List.mem_append_right _ ha))
  refine k v H' g' F3 rv E3 (nodup_of m1 N3 fun a ha hb => ?_) fun a u ea na => ?_
  · rcases List.mem_append.mp (s3 a hb) with z | z
    · exact m3 a ha z
    · exact ap a z (List.mem_append_left _ ha)
  · obtain ⟨x1, x2⟩ := S1 a u ea na
    have x3 : a ∉ p2 ++ F2 := fun z => x2 (s2 a z)
    obtain ⟨x4, x5⟩ := Sp a u x1 fun z => x3 (List.mem_append_left _ z)
    refine ⟨x4, fun z => ?_⟩
    rcases List.mem_append.mp z with z | z
    · exact x5 (List.mem_append_left _ z)
    · rcases List.mem_append.mp (s3 a z) with y | y
      · exact x5 (List.mem_append_right _ y)
      · exact x3 (List.mem_append_right _ y)
theorem fNil_len : ∀ (ρ ρ1 : Fm) (rs : List R), fNil ρ = some (rs, ρ1) → rs.length = 0 := fun ρ ρ1 rs h => by cases h; rfl
theorem fCons_len {f : FE} {fr : FA} {n : Nat} (h : ∀ (ρ ρ1 : Fm) (rs : List R), fr ρ = some (rs, ρ1) → rs.length = n) : ∀ (ρ ρ1 : Fm) (rs : List R), fCons f fr ρ = some (rs, ρ1) → rs.length = n + 1 := fun ρ ρ1 rs e => by
  obtain ⟨⟨x, ρ2⟩, e1, e⟩ := Option.bind_eq_some_iff.mp e
  obtain ⟨⟨rs', ρ3⟩, e2, e⟩ := Option.map_eq_some_iff.mp e
  cases e
  rw [List.length_cons, h _ _ _ e2]
theorem de_call (F : FnD X.prog X.w X.K X.mg X.base k f fd ps den) (hgd : X.A.guards = some []) (hr : Room k X.A) (hg : Gl X x) (hm : X.mg x = some (.ref f)) (hk : PySem.W.keepIn X.K (.ref f) = true) (hb : Binds X.K fd ps [])
    (hn : ∀ (ρ ρ1 : Fm) (rs : List R), fr ρ = some (rs, ρ1) → rs.length = ps.length) (ha : DA X (e :: es) fr) (hdb : (x == ("__debug__" : Str)) = false := by decide)
    (he : starEach (e :: es) X.env = (false, eval e X.env) :: starEach es X.env := by rfl) (hpl : (backTo pos (starEach es X.env)).any (·.1) = false := by rfl) : DE X (.Call (.Name x p) (e :: es) [] pos) (fCallD den fr) := by
  refine ⟨⟨fun pins s σ H Q I h => wpAny_Call_Name_kw (ld_glob I hg hm ?_ hdb)⟩⟩
  refine PySem.W.callWith_K (h₀ := X.base) I.ok.mod.kin hk (thn (ha.pa.run pos pins s σ H _ I (call_core hn h)) fun us s1 hh => ?_) he hpl
  obtain ⟨vs, H1, I1, r, hl, q⟩ := hh
  exact ⟨I1.kIn, run_fnD F hgd hr hb I1 r hl q⟩
end
/-! ### the end of a law -/
/-- what the end wants of a law: its bound, its def as a meaning, and that the meaning says True -/
structure Kept (l : PySem.W.OpenLaw) (n k : Nat) (d : DefRec) (K : Params → PySem.W.Frag) (x : Str) (den : Den) : Prop where
  most : l.most = some n
  small : n ≤ sizeLine
  plain : d.params.defaults = []
  room : Room k callerA
  made : ∀ w mg fa h, (K (World.params w)).In h → Heap.Ns h mainGlobals mg → mg d.name = some (.ref fa) →
    ∃ fd, (∀ t u, BindsTo t fd ⟨[u], []⟩ [(x, u)]) ∧ ∀ base, (K w.params).In base → base.Ns mainGlobals mg → FnD l.prog w (K w.params) mg base k fa fd [x] den
  says : ∀ ns : List Int, ns.length ≤ n → ∃ ρ', den [.flst (ns.map .int)] = some (.bl true, ρ')
/-- the law's promise at the heap behind the top -/
theorem law_end {l : PySem.W.OpenLaw} {n k : Nat} {q : Program} {loose : List Str} {XP : (Str → Option Value) → Heap → Prop} {YP : World → Heap → Prop} {d : DefRec} {K : Params → PySem.W.Frag} {x : Str} {den : Den}
    (L : Kept l n k d K x den) (there : ∀ w h, YP w h → (K (World.params w)).In h) : PySem.W.WalkO q loose XP YP l.row.toRowW d [] (fun f vs => PySem.call f vs) := by
  have hn2 := L.small
  have hr := L.room
  have hlaw := L.says
  apply Att.attach_call L.most L.plain
  intro w _ s₁ mg mb fa _ _ _ _ a vs ns G Y _ _ _ hmg hobj hints hlen hg
  have KX := there w _ Y
  have ⟨fd, hb, hF⟩ := L.made w mg fa _ KX G.T.g hmg
  have rv := vals_ints hints
  have core : ∀ H : Hp, Only H → SqF (K w.params) H a (ns.map V.int) → HOk l.prog w H s₁.heap → (∀ b, H b ≠ none → b = a) → (H a ≠ none → (K w.params).lookup a = none) →
      codeAny (model l.prog w) callerA (.call (.ref fa) ⟨[.ref a], []⟩) (fun r s' => r = .ok (.ret (.bool true)) ∧ OldK s₁.heap s'.heap ∧ s'.os = s₁.os ∧ AllBare s'.gens) s₁ := by
    intro H hO hS hok hA hK
    have base_of : ∀ {b : Addr} {ob : Obj}, s₁.heap.get? b = some ob → H b = none → (hidT s₁.heap H).get? b = some ob := fun e z => hidT_get e z
    have noA : ∀ {b : Addr} {ob : Obj} {es : Array DictEntry} {ep : Nat}, s₁.heap.get? b = some ob → ob.data = .dict es ep → H b = none := fun {b ob es ep} e dd => by
      by_cases z : H b = none
      · exact z
      · rw [hA b z, hobj] at e
        cases e
        have dd' : Data.seq vs.toArray _ = Data.dict es ep := dd
        cases dd'
    have nsK : ∀ {b : Addr} {m : Str → Option Value}, s₁.heap.Ns b m → (hidT s₁.heap H).Ns b m := fun ⟨ob, es, ep, e, dd, r⟩ => ⟨ob, es, ep, base_of e (noA e dd), dd, r⟩
    have hKb : (K w.params).In (hidT s₁.heap H) := fun b ob e => base_of (KX b ob e) (by
      by_cases z : H b = none
      · exact z
      · have eb := hA b z
        rw [eb] at z e
        rw [hK z] at e
        cases e)
    have hM : Mod (K w.params) mg (hidT s₁.heap H) := ⟨hKb, nsK G.T.g, ⟨mb, nsK G.T.b, G.T.builtins⟩, let ⟨mc, h1, h2⟩ := G.T.nolimit; ⟨mc, nsK h1, h2⟩⟩
    have e0 : Env0 l.prog w (K w.params) mg (hidT s₁.heap H) callerA [] s₁ H :=
      ⟨rfl, hM, fun b ob e => of_hidT e, Nat.le_of_eq (hidT_size _ _), trivial, fun b hb => absurd (show b ∈ ([] : List Addr) from hb) (by simp), hok, .of_eq hg⟩
    obtain ⟨ρ', hl⟩ := hlaw ns hlen
    have rl : ∀ ms : List Int, RepL (K w.params) H (ms.map D.int) (ms.map V.int) [] := fun ms => RepL.of_each (by simp) fun i dd v e1 e2 => by
      rw [List.getElem?_map] at e1 e2
      cases e3 : ms[i]? with
      | none => rw [e3] at e1; cases e1
      | some z => rw [e3] at e1 e2; cases e1; cases e2; exact ⟨rfl, rfl⟩
    have sp : spD (K w.params) den [.ref a] H fun v _ => v = .bl true := ⟨[.flst (ns.map .int)], [], .bl true, ρ', RepL.of_one ⟨a, _, rfl, hS, rl ns⟩, List.nodup_nil, hl, fun v H' g F' rr _ _ _ => rr.1⟩
    refine codeAny_mono ((hF _ hKb (nsK G.T.g)).run callerA [] s₁ H ⟨[.ref a], []⟩ [.ref a] [.ref a] _ rfl hr e0 (hb s₁ (.ref a)) (.cons rfl .nil) rfl sp) fun r s' h => ?_
    match r, h with
    | .error _, h => exact False.elim h
    | .ok .next, h => exact False.elim h
    | .ok .brk, h => exact False.elim h
    | .ok .cont, h => exact False.elim h
    | .ok (.ret u), h =>
      obtain ⟨v, H', os, bare, un, hok', r', qv⟩ := h
      have qv' : v = .bl true := qv
      subst qv'
      cases (r' : u = .bool true)
      refine ⟨rfl, OldK.of_keep fun b ob e => ?_, os, bare⟩
      by_cases z : H b = none
      · exact un.keep b ob e z (fun y => absurd (show b ∈ ([] : List Addr) from y) (by simp)) (by simp)
      · rcases hO b with y | ⟨ob', xs, y⟩
        · exact absurd y z
        · have y2 := un.frzs b ob' _ y
          obtain ⟨x1, _⟩ := hok b _ y
          obtain ⟨x2, _⟩ := hok' b _ y2
          rw [e] at x1
          cases x1
          exact x2
  have hz : ns.length ≤ sizeLine := Nat.le_trans hlen hn2
  have lenV := hints.length
  by_cases hk : (K w.params).lookup a = none
  · refine core (fun b => if b = a then some (.frz { cls := .type "list", data := .seq vs.toArray } (.lst (ns.map V.int))) else none) (fun b => ?_) (.inl ⟨_, if_pos rfl⟩) (fun b u z => ?_) (fun b z => ?_) fun _ => hk
    · exact (Decidable.em (b = a)).symm.imp (fun no => if_neg no) fun yes => ⟨_, _, if_pos yes⟩
    · by_cases hb : b = a
      · have z' := Eq.trans (if_pos hb).symm z
        cases z'
        subst hb
        exact ⟨hobj, by rw [List.length_map]; exact hz, vs, _, rv, hobj⟩
      · have z' := Eq.trans (if_neg hb).symm z
        cases z'
    · by_cases hb : b = a
      · exact hb
      · exact absurd (if_neg hb) z
  · obtain ⟨ob, hk'⟩ := Option.ne_none_iff_exists'.mp hk
    have e := KX a ob hk'
    rw [hobj] at e
    cases e
    refine core (fun _ => none) (fun _ => .inl rfl) (.inr (.inr ⟨_, vs.toArray, _, hk', rfl, rfl, rfl, by rw [List.size_toArray, lenV]; exact hz, by simpa using rv⟩)) (fun b u z => by cases z) (fun b z => absurd rfl z) fun z => absurd rfl z
end DL
/-! Smaller things: is None, -x, chains; a def as its callers see it. -/
namespace DL
open PySem PySem.Spec L2
open PyProof.Rows (envOfC AllBare)
def isNon : D → Bool
  | .non => true
  | _ => false
def dIsN (x y : D) : Option D := match y with
  | .non => some (.bl (isNon x))
  | _ => none
def dIsNotN (x y : D) : Option D := match y with
  | .non => some (.bl (!isNon x))
  | _ => none
def fNeg (fa : FE) : FE := fun ρ => (fa ρ).bind fun (r, ρ1) => (cont ρ1 r).bind fun d => match d with
  | .int i => some (.val (.int (-i)), ρ1)
  | _ => none
/-- a def, as its callers see it -/
structure DefOk (P : Program) (w : World) (K : PySem.W.Frag) (mg : Str → Option Value) (base : Heap) (x : Str) (k : Nat) (ps : List Str) (den : Den) : Prop where
  ex : ∃ (f : Addr) (fd : FuncData), FnD P w K mg base k f fd ps den ∧ mg x = some (.ref f) ∧ PySem.W.keepIn K (.ref f) = true ∧ Binds K fd ps []
theorem de_callG {X : Cx} {x : Str} {p pos : Pos} {e : Expr} {es : List Expr} {fr : FA} {j k : Nat} {ps : List Str} {den : Den} (G : DefOk X.prog X.w X.K X.mg X.base x j ps den) (hgd : X.A.guards = some []) (hr : Room k X.A) (hjk : j ≤ k) (hg : Gl X x)
    (hn : ∀ (ρ ρ1 : Fm) (rs : List R), fr ρ = some (rs, ρ1) → rs.length = ps.length) (ha : DA X (e :: es) fr) (hdb : (x == ("__debug__" : Str)) = false := by decide)
    (he : starEach (e :: es) X.env = (false, eval e X.env) :: starEach es X.env := by rfl) (hpl : (backTo pos (starEach es X.env)).any (·.1) = false := by rfl) : DE X (.Call (.Name x p) (e :: es) [] pos) (fCallD den fr) := by
  obtain ⟨f, fd, F, hm, hk, hb⟩ := G.ex
  exact de_call F hgd (hr.mono hjk) hg hm hk hb hn ha hdb he hpl
end DL
/-! Names that the printed meanings use. -/
namespace DL
open PySem PySem.Spec L2
abbrev pLt : Int → Int → Bool := fun i j => decide (i < j)
abbrev pLe : Int → Int → Bool := fun i j => decide (i ≤ j)
abbrev pGt : Int → Int → Bool := fun i j => decide (j < i)
abbrev pGe : Int → Int → Bool := fun i j => decide (j ≤ i)
/-- turns that a while may take -/
def fuel : Nat := 100000
theorem room_u {n k u : Nat} (h : n + 1 ≤ 200) (hu : u + 16 * k + 200 < cLine) : u + n < cLine := by omega
/-- {} -/
def fDic0 : FE := fun ρ => some (.val (.dic []), ρ)
theorem de_dic0 {X : Cx} {pos : Pos} : DE X (.Dict [] [] pos) fDic0 := ⟨pe_weak pe_dnewK fun σ H Q ⟨ρ, F, r, ρ', E, nd, ef, k⟩ p hp => by
  cases ef
  have sm := upd_same_of (o := .dK []) hp
  have np : p ∉ F := fun z => by
    obtain ⟨u, eu⟩ := (E.mut p z).some_
    rw [hp] at eu
    cases eu
  exact k _ _ [p] F ⟨p, [], [], rfl, upd_same, rfl, rfl, rfl⟩ (E.keep (Same.keep sm)) (List.nodup_cons.mpr ⟨np, nd⟩) (Step.fresh Step.refl sm (by simpa using hp) fun a ha => ha)⟩
end DL
/-! A tuple walked with its count: the library's walk (WalksT.enumerateD over Draws.tuple) as a turn of the hand layer. -/
namespace DL
open PySem PySem.Spec L2
/-- the items with their counts -/
def counted (ds : List D) : List D := ds.mapIdx fun i d => .tup [.int (i : Nat), d]
/-- enumerate(e) over a tuple, a list that stands still -/
def fEnum (fr : FA) : FI := fun ρ => (fr ρ).bind fun (rs, ρ1) => (conts ρ1 rs).bind fun ds => match ds with
  | [.tup ds] => if immL ds = true then some (counted ds, ρ1) else none
  | [.flst ds] => if immL ds = true then some (counted ds, ρ1) else none
  | _ => none
end DL
/-! t[::-1], isinstance of built-in kinds, is of truths, what is never reached. -/
namespace DL
open PySem PySem.Spec L2
/-! ### a tuple backwards -/
section
variable {X : Cx} {e : Expr} {fe : FE} {k0 : Nat} {p1 p2 p3 p pos : Pos}
def dRev : D → Option D
  | .tup ds => if immL ds = true then some (.tup ds.reverse) else none
  | .lst ds => if immL ds = true then some (.lst ds.reverse) else none
  | .flst ds => if immL ds = true then some (.lst ds.reverse) else none
  | _ => none
def fRev (f : FE) : FE := fun ρ => (f ρ).bind fun (r, ρ1) => (cont ρ1 r).bind fun d => (dRev d).map fun z => (.val z, ρ1)
theorem RepL.reverse {K : PySem.W.Frag} {H : Hp} : ∀ {ds : List D} {vs : List V}, RepL K H ds vs [] → immL ds = true → RepL K H ds.reverse vs.reverse []
  | [], vs, r, _ => by rw [r.1]; exact ⟨rfl, rfl⟩
  | d :: ds, vs, r, c => by
    obtain ⟨v, vs', f1, f2, rfl, e, r1, r2⟩ := r
    obtain ⟨rfl, rfl⟩ := List.nil_eq_append_iff.mp e
    have c' : (DL.imm d && immL ds) = true := c
    rw [Bool.and_eq_true] at c'
    rw [List.reverse_cons, List.reverse_cons]
    exact RepL.append (RepL.reverse r2 c'.2) (RepL.of_one r1)
end
/-! ### isinstance -/
inductive Kd where
  | int | bool | tuple | list | str | dict
/-- a caught exception -/
def isX : D → Bool
  | .exc _ _ _ _ => true
  | _ => false
def isK : Kd → D → Bool
  | .int, .int _ => true | .int, .bl _ => true
  | .bool, .bl _ => true
  | .tuple, .tup _ => true
  | .list, .lst _ => true | .list, .flst _ => true
  | .str, .str _ => true
  | .dict, .dic _ => true | .dict, .fdic _ => true
  | _, _ => false
def fIsi (k : Kd) (f : FE) : FE := fun ρ => (f ρ).bind fun (r, ρ1) => (cont ρ1 r).bind fun d => if isX d = true then none else some (.val (.bl (isK k d)), ρ1)
section
variable {X : Cx} {e : Expr} {fe : FE} {p p2 pos : Pos}
theorem boot_isi : bootBuiltins "isinstance" = some (.builtin "isinstance") := by decide +kernel
end
/-! ### is of truths -/
def dIsB : D → D → Option D
  | .bl a, .bl b => some (.bl (decide (a = b)))
  | _, _ => none
def dIsNotB : D → D → Option D
  | .bl a, .bl b => some (.bl (!decide (a = b)))
  | _, _ => none
theorem o2_isNotB {K : PySem.W.Frag} : Op2 K rNotB dIsNotB := by
  intro H x y v w p q z Q rx ry e k
  unfold dIsNotB at e
  split at e
  · cases e
    obtain ⟨rfl, _⟩ := rx
    obtain ⟨rfl, _⟩ := ry
    exact ⟨_, _, rfl, rfl, k _ H [] ⟨rfl, rfl⟩ List.nodup_nil (by simp) (Same.refl H)⟩
  · cases e
/-! ### what is never reached -/
end DL
/-! Sets of whole numbers, made of a list or a tuple, their size, sorted. -/
namespace DL
open PySem PySem.Spec L2
/-! ### rising lists without doubles -/
def insUp (x : Int) : List Int → List Int
  | [] => [x]
  | y :: ys => if x < y then x :: y :: ys else if x = y then y :: ys else y :: insUp x ys
def ascend (ns : List Int) : List Int := ns.foldr insUp []
/-! ### set(xs) -/
end DL
/-! len(set(xs)), sorted(set(xs)); min, max of two; range of three; xs.count(k). -/
namespace DL
open PySem PySem.Spec L2
section
variable {X : Cx} {e : Expr} {fe : FE} {p p2 q pos : Pos}
def intsIn (d : D) : Option (List Int) := (seqOf d).bind intsOf
def fSetLen (f : FE) : FE := fun ρ => (f ρ).bind fun (r, ρ1) => (cont ρ1 r).bind fun d => (intsIn d).bind fun ns => if ns.length ≤ 4000 then some (.val (.int (ascend ns).length), ρ1) else none
def fSetSorted (f : FE) : FE := fun ρ => (f ρ).bind fun (r, ρ1) => (cont ρ1 r).bind fun d => (intsIn d).bind fun ns => if ns.length ≤ 4000 ∧ (ascend ns).length < 64 then some (.val (.lst ((ascend ns).map .int)), ρ1) else none
/-! ### min, max of two -/
def dMin2 : List D → Option D
  | [.int i, .int j] => some (.int (if j < i then j else i))
  | _ => none
def dMax2 : List D → Option D
  | [.int i, .int j] => some (.int (if j > i then j else i))
  | _ => none
end
end DL
/-! for x in xs: .., where xs is a name's own list and x's things are changed in their places. -/
namespace DL
open PySem PySem.Spec L2
def loopM (i j : Nat) (fb : FS) : List D → List D → FS
  | done, [], ρ => some (.nx, ρ.set i (some (.lst done)))
  | done, d :: rest, ρ => if j < ρ.length then (fb (ρ.set j (some d))).bind fun (o, ρ2) => (slot ρ2 j).bind fun d' => match o with
    | .nx => loopM i j fb (done ++ [d']) rest (ρ2.set j none)
    | .ct => loopM i j fb (done ++ [d']) rest (ρ2.set j none)
    | .bk => none
    | .ret r => if imm r = true then some (.ret r, (ρ2.set j none).set i (some (.lst (done ++ d' :: rest)))) else none
    else none
def fForM (i j : Nat) (fb : FS) : FS := fun ρ => match slot ρ i with
  | some (.lst ds) => loopM i j fb [] ds (ρ.set i none)
  | _ => none
/-- over a name's own list so, over a thing that stands still as ever -/
def fForN (i j : Nat) (fb : FS) : FS := fun ρ => match slot ρ i with
  | some (.lst ds) => loopM i j fb [] ds (ρ.set i none)
  | _ => fFor (fSeqI (fVar i)) (fgName j) fb ρ
section
variable {X : Cx} {l tg : Expr} {body : List Stmt} {fb : FS} {W : List Nat} {pos : Pos} {i j : Nat}
/-! ### an item of a display taken out of it -/
/-- [x, ..][k], the items may be such as are changed -/
def fPick (fa fb : FE) : FE := fun ρ => (fa ρ).bind fun (x, ρ1) => (fb ρ1).bind fun (y, ρ2) => match x, cont ρ2 y with
  | .val (.lst ds), some (.int i) => (atI ds i).map fun d => (.val d, ρ2)
  | _, _ => none
theorem de_pick {a b : Expr} {fa fb' : FE} (ha : DE X a fa) (hb : DE X b fb') (hs : PlainIx b) : DE X (.Subscript a b pos) (fPick fa fb') :=
  ⟨pe_weak (pe_ix ix_list ha.pe hb.pe hs) fun σ H Q ⟨ρ, F, r, ρ', E, nd, ef, k⟩ => by
    obtain ⟨⟨x, ρ1⟩, e1, ef⟩ := Option.bind_eq_some_iff.mp ef
    obtain ⟨⟨y, ρ2⟩, e2, ef⟩ := Option.bind_eq_some_iff.mp ef
    dsimp only at ef
    split at ef
    · rename_i ds n ey _
      obtain ⟨d, e3, ef⟩ := Option.map_eq_some_iff.mp ef
      cases ef
      refine two E nd e1 e2 fun v w H2 gx gy F2 r1 r2 E2 N2 S2 => ?_
      obtain ⟨p, q, _⟩ := r2.cont E2 ey
      obtain ⟨a', vs, g, rfl, ha', rfl, rl⟩ := r1
      unfold atI at e3
      obtain ⟨m, e4, e5⟩ := Option.bind_eq_some_iff.mp e3
      obtain ⟨u, f1, f2, f3, e6, rfl, ru, _, _⟩ := rl.at e5
      obtain ⟨n1, n2, n3⟩ := nodup3 N2
      obtain ⟨m1, m2, m3⟩ := nodup3 n2
      have n4 := (List.nodup_cons.mp n1).2
      have n5 := (nodup3 (nodup3 n4).2.1).1
      refine ⟨a', vs, n, u, rfl, q.1, SqL.of ha', by unfold atI; rw [rl.length, e4]; exact e6, k u H2 f2 F2 ru E2 (nodup_of n5 m2 fun z y1 y2 => n3 z (by simp [y1]) (by simp [y2])) (S2.to fun z hz => .inl ?_)⟩
      rcases List.mem_append.mp hz with h | h <;> simp [h]
    · cases ef⟩
end
end DL
/-! for a, b in zip(x, y): lists that stand still and tuples, in any mix. -/
namespace DL
open PySem PySem.Spec L2
/-- one side of it: a tuple, else a list -/
def SqK (tup : Bool) (K : PySem.W.Frag) (H : Hp) (a : Addr) (vs : List V) : Prop := match tup with
  | true => SqT K H a vs
  | false => SqL K H a vs
/-- pairs, as far as both go -/
def zipped (ds es : List D) : List D := List.zipWith (fun d e => .tup [d, e]) ds es
def fZip (fr : FA) : FI := fun ρ => (fr ρ).bind fun (rs, ρ1) => (conts ρ1 rs).bind fun ds => match ds with
  | [x, y] => (seqS x).bind fun ds => (seqS y).map fun es => (zipped ds es, ρ1)
  | _ => none
where
  /-- what stands still -/
  seqS : D → Option (List D)
    | .tup ds => if immL ds = true then some ds else none
    | .flst ds => if immL ds = true then some ds else none
    | _ => none
section
variable {K : PySem.W.Frag}
/-- such a thing at any later time -/
def StillS (K : PySem.W.Frag) (k : Bool) (a : Addr) (vs : List V) (ds : List D) (H : Hp) : Prop := (match k with
  | true => TupR K H a vs
  | false => SqF K H a vs) ∧ RepL K H ds vs []
theorem StillS.keep {k : Bool} {a : Addr} {vs : List V} {ds : List D} {H G : Hp} (h : StillS K k a vs ds H) (kp : Keep H [] G) : StillS K k a vs ds G := by
  cases k with
  | true => exact ⟨tupR_keep h.1 kp, RepL.keep _ _ _ h.2 kp⟩
  | false => exact ⟨SqF.keep h.1 kp, RepL.keep _ _ _ h.2 kp⟩
theorem StillS.sq {k : Bool} {a : Addr} {vs : List V} {ds : List D} {H : Hp} (h : StillS K k a vs ds H) : SqK k K H a vs := by
  cases k with
  | true => exact h.1.sq
  | false => exact h.1.seq
end
end DL
namespace DL
open PySem PySem.Spec L2
/-! ### a name's list made longer by another name's whole numbers, which stay there -/
def fExtV (i j : Nat) : FE := fun ρ => (slot ρ i).bind fun d => (slot ρ j).bind fun e => match d, e with
  | .lst ds, .lst es => (intsOf es).bind fun ns => if ds.length + ns.length ≤ sizeLine then some (.val .non, ρ.set i (some (.lst (ds ++ ns.map .int)))) else none
  | _, _ => none
end DL
namespace DL
open PySem PySem.Spec L2 PyProof.Rows
/-! ### a tuple times a whole number -/
end DL
/-! tuple(range(n)), tuple(range(i, j, c)), list(range(i, j, c)), by steps above nought. -/
namespace DL
open PySem PySem.Spec L2 PyProof.Rows
def stepN (i j c : Int) : Nat := if i < j then ((j - i - 1) / c + 1).toNat else 0
def stepOk (i j c : Int) : Bool := okR i && okR j && decide (0 < c) && decide (c < 1000000) && decide (stepN i j c ≤ 2 ^ 24)
def stepD (i c : Int) (n : Nat) : List D := (List.range n).map fun k => D.int (i + (k : Nat) * c)
/-! ### meanings -/
def fTupRg1 (fa : FE) : FE := fun ρ => (fa ρ).bind fun (r, ρ1) => (cont ρ1 r).bind fun d => match d with
  | .int j => if stepOk 0 j 1 = true then some (.val (.tup (stepD 0 1 (stepN 0 j 1))), ρ1) else none
  | _ => none
def dSt : List D → Option (Int × Int × Nat)
  | [.int i, .int j, .int c] => if stepOk i j c = true then some (i, c, stepN i j c) else none
  | _ => none
def fTupRg3 (fr : FA) : FE := fun ρ => (fr ρ).bind fun (rs, ρ1) => (conts ρ1 rs).bind fun ds => (dSt ds).map fun z => (.val (.tup (stepD z.1 z.2.1 z.2.2)), ρ1)
def fLstRg3 (fr : FA) : FE := fun ρ => (fr ρ).bind fun (rs, ρ1) => (conts ρ1 rs).bind fun ds => (dSt ds).map fun z => (.val (.lst (stepD z.1 z.2.1 z.2.2)), ρ1)
end DL
/-! min of a list of data that can be put in order. -/
namespace DL
open PySem PySem.Spec L2
mutual
/-- numbers, texts, truths, tuples of such -/
def plain : D → Bool
  | .bl _ => true | .int _ => true | .str _ => true
  | .tup ds => plainL ds
  | _ => false
def plainL : List D → Bool
  | [] => true
  | d :: ds => plain d && plainL ds
end
end DL
/-! A list's count of a number; tuple(range(a, b)). -/
namespace DL
open PySem PySem.Spec L2 PyProof.Rows
section
variable {K : PySem.W.Frag} {X : Cx}
variable {a b : Expr} {ta : TA} {fr : FA} {p p2 pos pos2 : Pos}
def dSt2 : List D → Option (Int × Nat)
  | [.int i, .int j] => if stepOk i j 1 = true then some (i, stepN i j 1) else none
  | _ => none
def fTupRg2 (fr : FA) : FE := fun ρ => (fr ρ).bind fun (rs, ρ1) => (conts ρ1 rs).bind fun ds => (dSt2 ds).map fun z => (.val (.tup (stepD z.1 1 z.2)), ρ1)
end
/-! ### list + list, one of them standing still -/
end DL
/-! sorted of a tuple of numbers. -/
namespace DL
open PySem PySem.Spec L2 PyProof.Rows
end DL
/-! d.get(k, x); list(d.values()). -/
namespace DL
open PySem PySem.Spec L2 PyProof.Rows
end DL
/-! More of the layer: a list emptied in its place. -/
namespace DL
open PySem PySem.Spec L2
section
variable {K : PySem.W.Frag}
def mClear : D → List D → Option (D × D)
  | .lst _, [] => some (.lst [], .non)
  | _, _ => none
end
/-! ### ranges by any step -/
open PyProof.Rows
def rangeN (i j c : Int) : Nat := (Builtin.Range.rangeSize i j c).toNat
def rangeOk (i j c : Int) : Bool := decide (c ≠ 0) && decide (c.natAbs < 1073741824) && Builtin.Range.small i j c && decide (0 ≤ Builtin.Range.rangeSize i j c) && decide (Builtin.Range.rangeSize i j c ≤ 16777216)
def dRg : List D → Option (Int × Int × Nat)
  | [.int i, .int j, .int c] => if rangeOk i j c = true then some (i, c, rangeN i j c) else none
  | _ => none
def fLstRgC (fr : FA) : FE := fun ρ => (fr ρ).bind fun (rs, ρ1) => (conts ρ1 rs).bind fun ds => (dRg ds).map fun z => (.val (.lst (stepD z.1 z.2.1 z.2.2)), ρ1)
def fRng3 (fr : FA) : FI := fun ρ => (fr ρ).bind fun (rs, ρ1) => (conts ρ1 rs).bind fun ds => (dRg ds).map fun z => (stepD z.1 z.2.1 z.2.2, ρ1)
end DL
/-! The keys of a dict that stands still, one by one. -/
namespace DL
open PySem PySem.Spec L2
def keyD : Key → D
  | .inl i => .int i
  | .inr x => .str x
def keysD (kvs : List (Key × D)) : List D := kvs.map fun kv => keyD kv.1
/-- over the keys of a dict that stands still -/
def fKeysI (fe : FE) : FI := fun ρ => (fe ρ).bind fun (r, ρ1) => (cont ρ1 r).bind fun d => match d with
  | .fdic kvs => some (keysD kvs, ρ1)
  | _ => none
end DL
/-! Three names told at once. -/
namespace DL
open PySem PySem.Spec L2
end DL
/-! A number shifted up. -/
namespace DL
open PySem PySem.Spec L2
end DL
/-! [e for x in xs if c], where xs is a name's own list, whose things stand still, and neither e nor c asks for xs. -/
namespace DL
open PySem PySem.Spec L2
end DL
/-! A name's list is changed by things for which the name itself is asked. -/
namespace DL
open PySem PySem.Spec L2
end DL
/-! Whether data are among a tuple's. -/
namespace DL
open PySem PySem.Spec L2
end DL
/-! Exceptions of the program: expressions and statements that may end with one. -/
namespace DL
open PySem PySem.Spec L2
/-- an exception: its class's name, its fields -/
structure XD where
  cls : Str
  fs : List (Key × D)
/-- the exception of this class, whose dict stands at d, is x -/
def XRep (K : PySem.W.Frag) (mg : Str → Option Value) (H : Hp) (x : XD) (cls : Value) (d : Option Addr) : Prop :=
  ∃ (C dd : Addr) (ws : List (Key × V)), mg x.cls = some (.ref C) ∧ cls = .ref C ∧ d = some dd ∧ H dd = some (.xd (xdOf ws)) ∧ RepK K H x.fs ws [] ∧ immK x.fs = true
theorem XRep.keep {K : PySem.W.Frag} {mg : Str → Option Value} {H H' : Hp} {x : XD} {cls : Value} {d : Option Addr} {f : List Addr} (h : XRep K mg H x cls d) (k : Keep H f H') : XRep K mg H' x cls d := by
  obtain ⟨C, dd, ws, a, b, c, e, r, i⟩ := h
  exact ⟨C, dd, ws, a, b, c, k dd _ e (.inl (by rw [e]; exact id)), RepK.keep _ _ _ r (k.sub fun a ha => by cases ha), i⟩
/-- a plain end, or an exception -/
inductive RX where
  | ok (r : R) | up (x : XD)
inductive AX where
  | ok (rs : List R) | up (x : XD)
inductive FlX where
  | go (o : Fl) | up (x : XD)
abbrev FEX := Fm → Option (RX × Fm)
abbrev FAX := Fm → Option (AX × Fm)
abbrev FSX := Fm → Option (FlX × Fm)
/-- what is to be shown where an exception flies -/
def UpP (K : PySem.W.Frag) (mg : Str → Option Value) (Wx : WX) (σ : L2.St) (H : Hp) (F : List Addr) (x : XD) (ρ' : Fm) : Prop := ∀ cls d H' F', XRep K mg H' x cls d → EnvR K H' ρ' σ F' → F'.Nodup → Step H F H' F' → Wx cls d σ H'
theorem UpP.step {K : PySem.W.Frag} {mg : Str → Option Value} {Wx : WX} {σ : L2.St} {H H1 : Hp} {F F1 : List Addr} {x : XD} {ρ' : Fm} (h : UpP K mg Wx σ H F x ρ') (S : Step H F H1 F1) : UpP K mg Wx σ H1 F1 x ρ' := fun cls d H' F' a b c e => h cls d H' F' a b c (S.trans e)
def rdEX (K : PySem.W.Frag) (mg : Str → Option Value) (Wx : WX) (f : FEX) : TE := fun σ H Q => ∃ ρ F r ρ', EnvR K H ρ σ F ∧ F.Nodup ∧ f ρ = some (r, ρ') ∧ match r with
  | .ok r => ∀ v H' g F', RepR K H' σ r v g → EnvR K H' ρ' σ F' → (g ++ F').Nodup → Step H F H' (g ++ F') → Q v H'
  | .up x => UpP K mg Wx σ H F x ρ'
def rdAX (K : PySem.W.Frag) (mg : Str → Option Value) (Wx : WX) (f : FAX) : TA := fun σ H Q => ∃ ρ F r ρ', EnvR K H ρ σ F ∧ F.Nodup ∧ f ρ = some (r, ρ') ∧ match r with
  | .ok rs => ∀ vs H' g F', RepRs K H' σ rs vs g → EnvR K H' ρ' σ F' → (g ++ F').Nodup → Step H F H' (g ++ F') → Q vs H'
  | .up x => UpP K mg Wx σ H F x ρ'
/-- what is to be shown at a statement's end -/
def PostX (K : PySem.W.Frag) (mg : Str → Option Value) (Wx : WX) (W : List Nat) (Dn : Ends) (σ : L2.St) (H : Hp) (F : List Addr) (o : FlX) (ρ' : Fm) : Prop := match o with
  | .go o => Post K W Dn σ H F o ρ'
  | .up x => ∀ σ', (∀ j, j ∉ W → σ'[j]? = σ[j]?) → UpP K mg Wx σ' H F x ρ'
def rdSX (K : PySem.W.Frag) (mg : Str → Option Value) (Wx : WX) (W : List Nat) (f : FSX) : TS := fun Dn σ H => ∃ ρ F o ρ', EnvR K H ρ σ F ∧ F.Nodup ∧ f ρ = some (o, ρ') ∧ PostX K mg Wx W Dn σ H F o ρ'
structure DEX (X : Cx) (Wx : WX) (e : Expr) (f : FEX) : Prop where
  pe : PE X e (rdEX X.K X.mg Wx f)
structure DAX (X : Cx) (Wx : WX) (es : List Expr) (f : FAX) : Prop where
  pa : PA X es (rdAX X.K X.mg Wx f)
structure DSX (X : Cx) (Wx : WX) (W : List Nat) (st : Stmt) (f : FSX) : Prop where
  ps : PS X st (rdSX X.K X.mg Wx W f)
structure DSsX (X : Cx) (Wx : WX) (W : List Nat) (st : List Stmt) (f : FSX) : Prop where
  pss : PSs X st (rdSX X.K X.mg Wx W f)
theorem PostX.mono {K : PySem.W.Frag} {mg : Str → Option Value} {Wx : WX} {W W' : List Nat} {Dn : Ends} {σ : L2.St} {H : Hp} {F : List Addr} {o : FlX} {ρ' : Fm} (h : PostX K mg Wx W' Dn σ H F o ρ') (hs : ∀ j, j ∈ W → j ∈ W') : PostX K mg Wx W Dn σ H F o ρ' := by
  cases o with
  | go o => exact Post.mono h hs
  | up x => exact fun σ' w => h σ' fun j hj => w j fun z => hj (hs j z)
theorem PostX.after {K : PySem.W.Frag} {mg : Str → Option Value} {Wx : WX} {W1 W2 : List Nat} {Dn : Ends} {σ σ1 : L2.St} {H H1 : Hp} {F F1 : List Addr} {o : FlX} {ρ' : Fm} (h : PostX K mg Wx (W1 ++ W2) Dn σ H F o ρ') (S : Step H F H1 F1) (hw : ∀ j, j ∉ W1 → σ1[j]? = σ[j]?) : PostX K mg Wx W2 Dn σ1 H1 F1 o ρ' := by
  cases o with
  | go o => exact Post.after h S hw
  | up x =>
    refine fun σ' w => (h σ' fun j hj => ?_).step S
    rw [List.mem_append, not_or] at hj
    rw [w j hj.2, hw j hj.1]
theorem PostX.step {K : PySem.W.Frag} {mg : Str → Option Value} {Wx : WX} {W : List Nat} {Dn : Ends} {σ : L2.St} {H H1 : Hp} {F F1 : List Addr} {o : FlX} {ρ' : Fm} (h : PostX K mg Wx W Dn σ H F o ρ') (S : Step H F H1 F1) : PostX K mg Wx W Dn σ H1 F1 o ρ' :=
  PostX.after (W1 := []) h S fun _ _ => rfl
/-! ### plain ones -/
def xA (f : FA) : FAX := fun ρ => (f ρ).map fun (r, ρ1) => (.ok r, ρ1)
def xS (f : FS) : FSX := fun ρ => (f ρ).map fun (o, ρ1) => (.go o, ρ1)
section
variable {X : Cx} {Wx : WX} {e a b c : Expr} {es : List Expr} {st : Stmt} {rest : List Stmt} {fe : FE} {fr : FA} {ft : FT} {f g : FSX} {fx gx : FEX} {ax : FAX} {W W1 W2 : List Nat} {pos : Pos}
theorem dax_of (h : DA X es fr) : DAX X Wx es (xA fr) := ⟨pa_weak h.pa fun σ H Q ⟨ρ, F, r, ρ', E, nd, ef, k⟩ => by
  obtain ⟨⟨r0, ρ1⟩, e1, ef⟩ := Option.map_eq_some_iff.mp ef
  cases ef
  exact ⟨ρ, F, r0, ρ', E, nd, e1, k⟩⟩
theorem dsx_of {fs : FS} (h : DS X W st fs) : DSX X Wx W st (xS fs) := ⟨ps_weak h.ps fun Dn σ H ⟨ρ, F, o, ρ', E, nd, ef, k⟩ => by
  obtain ⟨⟨o0, ρ1⟩, e1, ef⟩ := Option.map_eq_some_iff.mp ef
  cases ef
  exact ⟨ρ, F, o0, ρ', E, nd, e1, k⟩⟩
theorem dssx_of {fs : FS} {sts : List Stmt} (h : DSs X W sts fs) : DSsX X Wx W sts (xS fs) := ⟨pss_weak h.pss fun Dn σ H ⟨ρ, F, o, ρ', E, nd, ef, k⟩ => by
  obtain ⟨⟨o0, ρ1⟩, e1, ef⟩ := Option.map_eq_some_iff.mp ef
  cases ef
  exact ⟨ρ, F, o0, ρ', E, nd, e1, k⟩⟩
/-! ### one after another; if -/
def xSeq (f g : FSX) : FSX := fun ρ => (f ρ).bind fun (o, ρ1) => match o with
  | .go .nx => g ρ1
  | o => some (o, ρ1)
theorem dssx_one (h : DSX X Wx W st f) : DSsX X Wx W [st] f := ⟨pss_one h.ps⟩
theorem dssx_cons (h1 : DSX X Wx W1 st f) (h2 : DSsX X Wx W2 rest g) : DSsX X Wx (W1 ++ W2) (st :: rest) (xSeq f g) := ⟨pss_weak (pss_cons h1.ps h2.pss) fun Dn σ H ⟨ρ, F, o, ρ', E, nd, ef, k⟩ => by
  obtain ⟨⟨o1, ρ1⟩, e1, ef⟩ := Option.bind_eq_some_iff.mp ef
  refine ⟨ρ, F, o1, ρ1, E, nd, e1, ?_⟩
  match o1, ef with
  | .go .nx, ef => exact fun σ1 H1 F1 E1 N1 S1 w1 => ⟨ρ1, F1, o, ρ', E1, N1, ef, k.after S1 w1⟩
  | .go .bk, ef => cases ef; exact k.mono fun j hj => List.mem_append_left _ hj
  | .go .ct, ef => cases ef; exact k.mono fun j hj => List.mem_append_left _ hj
  | .go (.ret d), ef => cases ef; exact k.mono fun j hj => List.mem_append_left _ hj
  | .up x, ef => cases ef; exact k.mono fun j hj => List.mem_append_left _ hj⟩
def xIfS (ft : FT) (f g : FSX) : FSX := fun ρ => (ft ρ).bind fun (k, ρ1) => if k then f ρ1 else g ρ1
theorem dsx_if {a b : List Stmt} (hc : DT X c ft) (ha : DSsX X Wx W1 a f) (hb : DSsX X Wx W2 b g) : DSX X Wx (W1 ++ W2) (.If c a b pos) (xIfS ft f g) := ⟨ps_weak (ps_if hc.pt ha.pss hb.pss) fun Dn σ H ⟨ρ, F, o, ρ', E, nd, ef, k⟩ => by
  obtain ⟨⟨k1, ρ1⟩, e1, ef⟩ := Option.bind_eq_some_iff.mp ef
  refine ⟨ρ, F, k1, ρ1, E, nd, e1, fun H' F' E1 N1 S1 => ?_⟩
  cases k1 with
  | true =>
    rw [if_pos rfl]
    exact ⟨ρ1, F', o, ρ', E1, N1, ef, (k.mono fun j hj => List.mem_append_left _ hj).step S1⟩
  | false =>
    simp only [if_neg Bool.false_ne_true]
    exact ⟨ρ1, F', o, ρ', E1, N1, ef, (k.mono fun j hj => List.mem_append_right _ hj).step S1⟩⟩
/-! ### arguments, displays -/
def xCons (f : FEX) (fr : FAX) : FAX := fun ρ => (f ρ).bind fun (x, ρ1) => match x with
  | .ok r => (fr ρ1).map fun (rs, ρ2) => match rs with
    | .ok rs => (.ok (r :: rs), ρ2)
    | .up x => (.up x, ρ2)
  | .up x => some (.up x, ρ1)
def xTup (fr : FAX) : FEX := fun ρ => (fr ρ).bind fun (rs, ρ1) => match rs with
  | .ok rs => (takes ρ1 rs).bind fun (ds, ρ2) => if ds.length ≤ sizeLine then some (.ok (.val (.tup ds)), ρ2) else none
  | .up x => some (.up x, ρ1)
/-! ### statements of one expression -/
def xDrop (fe : FEX) : FSX := fun ρ => (fe ρ).map fun (r, ρ1) => match r with
  | .ok _ => (.go .nx, ρ1)
  | .up x => (.up x, ρ1)
theorem UpP.here {K : PySem.W.Frag} {mg : Str → Option Value} {Wx : WX} {W : List Nat} {Dn : Ends} {σ : L2.St} {H : Hp} {F : List Addr} {x : XD} {ρ' : Fm} (h : PostX K mg Wx W Dn σ H F (.up x) ρ') : UpP K mg Wx σ H F x ρ' := h σ fun _ _ => rfl
theorem dsx_expr (he : DEX X Wx e fx) (hs : swapsWith e none pos.line X.env = pure false := by rfl) : DSX X Wx [] (.Expr e pos) (xDrop fx) := ⟨ps_weak (ps_expr he.pe hs) fun Dn σ H ⟨ρ, F, o, ρ', E, nd, ef, k⟩ => by
  obtain ⟨⟨r, ρ1⟩, e1, ef⟩ := Option.map_eq_some_iff.mp ef
  match r, ef with
  | .up x, ef =>
    cases ef
    exact ⟨ρ, F, .up x, ρ', E, nd, e1, UpP.here k⟩
  | .ok r, ef =>
    cases ef
    exact ⟨ρ, F, .ok r, ρ', E, nd, e1, fun v H' g F' r1 E1 N1 S1 => k σ H' F' E1 (nodup3 N1).2.1 (S1.to fun a ha => .inl (List.mem_append_right _ ha)) fun _ _ => rfl⟩⟩
def xRet (fe : FEX) : FSX := fun ρ => (fe ρ).bind fun (r, ρ1) => match r with
  | .ok r => (take1 ρ1 r).map fun (d, ρ2) => (.go (.ret d), ρ2)
  | .up x => some (.up x, ρ1)
def xAsg (fe : FEX) (fg : FG) : FSX := fun ρ => (fe ρ).bind fun (r, ρ1) => match r with
  | .ok r => (take1 ρ1 r).bind fun (d, ρ2) => (fg d ρ2).map fun ρ3 => (.go .nx, ρ3)
  | .up x => some (.up x, ρ1)
theorem dsx_set {i : Nat} {x : Str} {pos' : Pos} (hN : X.N.Nodup) (hi : X.N[i]? = some x) (hx : Loc X.env.scope x) (he : DEX X Wx e fx) (hs : swapsWith e (some (.Name x pos')) pos.line X.env = pure false := by rfl)
    (hf : X.fn x = true ∨ X.env.scope.names.lookup x = some .local := by first | exact .inl rfl | exact .inr rfl | assumption) : DSX X Wx [i] (.Assign [.Name x pos'] e pos) (xAsg fx (fgName i)) :=
  ⟨ps_weak (ps_set hN hi hx he.pe hs hf) fun Dn σ H ⟨ρ, F, o, ρ', E, nd, ef, k⟩ => by
    obtain ⟨⟨r, ρ1⟩, e1, ef⟩ := Option.bind_eq_some_iff.mp ef
    match r, ef with
    | .up x, ef =>
      cases ef
      exact ⟨ρ, F, .up x, ρ', E, nd, e1, UpP.here k⟩
    | .ok r, ef =>
      obtain ⟨⟨d, ρ2⟩, e2, ef⟩ := Option.bind_eq_some_iff.mp ef
      obtain ⟨ρ3, e3, ef⟩ := Option.map_eq_some_iff.mp ef
      cases ef
      refine ⟨ρ, F, .ok r, ρ1, E, nd, e1, fun v H' g F' r1 E1 N1 S1 => ?_⟩
      obtain ⟨p, F2, r2, E2, N2, s2⟩ := r1.take E1 N1 e2
      obtain ⟨c, rfl⟩ := if_some e3
      obtain ⟨F3, E3, N3, s3⟩ := E2.store r2 N2 c
      exact k _ H' F3 E3 N3 (S1.to fun a ha => .inl (s2 a (s3 a ha))) fun j hj => by
        rw [List.getElem?_set_ne]
        intro z
        exact hj (by simp [z])⟩
end
end DL
/-! Defs that may end with an exception; their calls. -/
namespace DL
open PySem PySem.Spec L2
open PyProof.Rows (envOfC AllBare)
inductive OX where
  | val (d : D) | up (x : XD)
/-- data in; what is told out, or the exception, and what the arguments are then -/
abbrev DenX := List D → Option (OX × Fm)
def spX (K : PySem.W.Frag) (mg : Str → Option Value) (den : DenX) (vs : List V) (H : Hp) (Q : VK) (E : XK) : Prop := ∃ ds F r ρ', RepL K H ds vs F ∧ F.Nodup ∧ den ds = some (r, ρ') ∧ match r with
  | .val r => ∀ v H' g F', Rep K H' r v g → EnvR K H' ρ' (vs.map some) F' → (g ++ F').Nodup → Step H F H' (g ++ F') → Q v H'
  | .up x => ∀ cls d H' F', XRep K mg H' x cls d → EnvR K H' ρ' (vs.map some) F' → F'.Nodup → Step H F H' F' → E cls d H'
structure FnX (P : Program) (w : World) (K : PySem.W.Frag) (mg : Str → Option Value) (base : Heap) (k : Nat) (f : Addr) (fd : FuncData) (ps : List Str) (den : DenX) : Prop where
  run : ∀ (A : Around) (outer : List PySem.Env) (s : Shared) (H : Hp) (args : PySem.Args) (us : List Value) (vs : List V) (Q : VK) (E : XK), A.guards = some [] → Room k A →
    Env0 P w K mg base A outer s H → BindsTo s fd args (ps.zip us) → Vals vs us → vs.length = ps.length → spX K mg den vs H Q E →
    codeAny (model P w) A (.call (.ref f) args) (CR (L2.CX P w) outer P w H s Q E) s
def denX (N n : Nat) (W : List Nat) (fb : FSX) : DenX := fun ds => (fb (ds.map some ++ List.replicate (N - ds.length) none)).bind fun (o, ρ) => match o with
  | .go (.ret d) => some (.val d, params W n ρ)
  | .go .nx => some (.val .non, params W n ρ)
  | .up x => some (.up x, params W n ρ)
  | _ => none
section
variable {P : Program} {w : World} {K : PySem.W.Frag} {mg : Str → Option Value} {base : Heap} {A : Around} {outer : List PySem.Env} {s : Shared} {H : Hp}
/-- the context in which the body of such a def stands -/
abbrev ctxX (P : Program) (w : World) (K : PySem.W.Frag) (mg : Str → Option Value) (base : Heap) (N : List Str) (qual : Str) (sc : Scope) (f : Addr) (cdv : Value) (A : Around) (outer : List PySem.Env) (s : Shared) (H : Hp) (E : XK) : Cx := cxOf (L2.CX P w) P w K mg base N qual sc f cdv A outer s H E
abbrev wishX (E : XK) : WX := fun cls d _ H => E cls d H
theorem takesX {N : List Str} {qual : Str} {sc : Scope} {f : Addr} {cdv : Value} {E : XK} : Takes (ctxX P w K mg base N qual sc f cdv A outer s H E) (wishX E) := takes_of rfl rfl rfl rfl
theorem bodyX_left {N : List Str} {qual : Str} {sc : Scope} {f : Addr} {cdv : Value} {E : XK} {Q : VK} : ∀ (o : Flow) (t : Shared), SP (ctxX P w K mg base N qual sc f cdv A outer s H E) [] { nx := fun _ G => Q .non G, rt := Q } o t →
    match o with
    | .next => CE outer P w H s Q .none t
    | .ret u => CE outer P w H s Q u t
    | _ => False
  | .next, t, ⟨_, G, J, q⟩ => ⟨V.non, G, J.os, J.bare, J.base, J.hok, rfl, q⟩
  | .ret _, t, ⟨x, _, G, J, rx, q⟩ => ⟨x, G, J.os, J.bare, J.base, J.hok, rx, q⟩
  | .brk, _, ⟨_, _, _, no⟩ => no
  | .cont, _, ⟨_, _, _, no⟩ => no
theorem bodyX_does {X : Cx} {E : XK} {body : List Stmt} {fb : FSX} {W : List Nat} {N : List Str} {n : Nat} {vs : List V} {Q : VK} {t : Shared} (hb : PSs X body (rdSX X.K X.mg (wishX E) W fb)) (I : Inv X [] (L2.start N vs) H t) (hl : vs.length = n) (sp : spX X.K X.mg (denX N.length n W fb) vs H Q E) :
    wpAny (model X.prog X.w) X.A (execs body X.env) (SP X [] { nx := fun _ G => Q .non G, rt := Q }) X.xe t := by
  subst hl
  obtain ⟨ds, G, r, out, rl, nd, told, k⟩ := sp
  obtain ⟨⟨o, ρ1⟩, run, end1⟩ := Option.bind_eq_some_iff.mp told
  have En : EnvR X.K H (ds.map some ++ List.replicate (N.length - ds.length) none) (L2.start N vs) G := by
    have := EnvR.of_vals (N.length - ds.length) rl
    rwa [← rl.length] at this ⊢
  refine hb.run [] t _ H _ I ⟨_, G, o, ρ1, En, nd, run, ?_⟩
  match o, end1 with
  | .go .nx, rfl =>
    intro τ H' F' E' N' S' still
    obtain ⟨F2, q1, q2, q3⟩ := E'.first N' (args_stay still)
    exact k .non H' [] F2 ⟨rfl, rfl⟩ q1 q2 (S'.to fun a ha => .inl (q3 a ha))
  | .go (.ret d), rfl =>
    intro v τ H' g F' rv E' N' S' still
    have ⟨n1, n2, n3⟩ := nodup3 N'
    obtain ⟨F2, q1, q2, q3⟩ := E'.first n2 (args_stay still)
    refine k v H' g F2 rv q1 (nodup_of n1 q2 fun a ha hb => n3 a ha (q3 a hb)) (S'.to fun a ha => .inl ?_)
    simp only [List.mem_append] at ⊢ ha
    exact ha.imp id (q3 a)
  | .up x, rfl =>
    intro τ still cls d H' F' xr E' N' S'
    obtain ⟨F2, q1, q2, q3⟩ := E'.first N' (args_stay still)
    exact k cls d H' F2 xr q1 q2 (S'.to fun a ha => .inl (q3 a ha))
end
theorem fnX_of {P : Program} {w : World} {K : PySem.W.Frag} {mg : Str → Option Value} {base : Heap} {k : Nat} {f : Addr} {fd : FuncData} {x qual : Str} {st : Stmt} {N ps : List Str} {W : List Nat} {fb : FSX} (F : Fun K x qual st f fd) (S : FnScope N ps (defScope st))
    (hbody : ∀ (cdv : Value) (A : Around) (outer : List PySem.Env) (s : Shared) (H : Hp) (E : XK), A.guards = some [] → Room k (A.deeper (envOfC qual (defScope st) s.heap.objs.size f cdv)) →
      DSsX (ctxX P w K mg base N qual (defScope st) f cdv A outer s H E) (wishX E) W (defBody st) fb) : FnX P w K mg base (k + 1) f fd ps (denX N.length ps.length W fb) := by
  obtain ⟨_, _, _, _, _, _, cd, _, _, rfl, here, code⟩ := F.ex
  constructor
  intro A outer s H args us vs Q E guards room e binds rel len sp
  obtain ⟨inK, free⟩ := at_call e
  have names (y : Str × Value) (hy : y ∈ ps.zip us) := (S.par y.1 (List.of_mem_zip (b := y.2) hy).1).imp_right fun c => And.intro c (PySem.W.cellsFrom_some (defScope st).names (s.heap.objs.size + 1) [] (Or.inl c))
  apply codeAny_call_function room.depth (inK _ _ here) rfl S.co S.gen rfl (PySem.W.codeRec_of inK code)
  apply binds
  apply wpAny_newFunctionEnv_cells S.kind names
  rintro _ rfl t call
  have I := inv_start (CX := L2.CX P w) (w := w) (E := E) S room.hd e len rel call
  refine ⟨free.keeps call.toInCall.keep, codeAny_func (wpAny_mono (bodyX_does (hbody cd A outer s H E guards (room.deeper _)).pss I len sp) (fun o t' h => ?_) fun _ _ h => h)⟩
  have := bodyX_left o t' h
  cases o <;> first | exact this | exact False.elim this
/-- such a def, as its callers see it -/
structure DefX (P : Program) (w : World) (K : PySem.W.Frag) (mg : Str → Option Value) (base : Heap) (x : Str) (k : Nat) (ps : List Str) (den : DenX) : Prop where
  ex : ∃ (f : Addr) (fd : FuncData), FnX P w K mg base k f fd ps den ∧ mg x = some (.ref f) ∧ PySem.W.keepIn K (.ref f) = true ∧ Binds K fd ps []
/-! ### calls -/
def xCall (den : DenX) (fr : FAX) : FEX := fun ρ => (fr ρ).bind fun (rs, ρ1) => match rs with
  | .up x => some (.up x, ρ1)
  | .ok rs => (takes ρ1 rs).bind fun (ds, ρ2) => (den ds).map fun (r, ρp) => match r with
    | .val r => (.ok (.val r), giveBack rs ds ρp ρ2)
    | .up x => (.up x, giveBack rs ds ρp ρ2)
section
variable {X : Cx} {Wx : WX} {j k : Nat} {f : Addr} {fd : FuncData} {ps : List Str} {den : DenX} {x : Str} {p pos : Pos} {e : Expr} {es : List Expr} {fr : FAX}
theorem RepRs.len {K : PySem.W.Frag} {H : Hp} {σ : L2.St} : ∀ {rs : List R} {vs : List V} {g : List Addr}, RepRs K H σ rs vs g → vs.length = rs.length
  | [], vs, g, h => by rw [h.1]; rfl
  | x :: rs, vs, g, h => by
    obtain ⟨v, vs', _, _, rfl, _, _, h⟩ := h
    simp [RepRs.len h]
theorem callX_core {σ : L2.St} {H : Hp} {Q : VK} {n : Nat} (hn : ∀ (ρ ρ1 : Fm) (rs : List R), fr ρ = some (.ok rs, ρ1) → rs.length = n) (h : rdEX X.K X.mg Wx (xCall den fr) σ H Q) :
    rdAX X.K X.mg Wx fr σ H fun vs H1 => vs.length = n ∧ spX X.K X.mg den vs H1 Q (WE Wx σ) := by
  obtain ⟨ρ, F, r, ρ', E, nd, ef, k⟩ := h
  obtain ⟨⟨rs, ρ1⟩, e1, ef⟩ := Option.bind_eq_some_iff.mp ef
  match rs, ef with
  | .up x, ef =>
    cases ef
    exact ⟨ρ, F, .up x, ρ', E, nd, e1, k⟩
  | .ok rs, ef =>
    obtain ⟨⟨ds, ρ2⟩, e2, ef⟩ := Option.bind_eq_some_iff.mp ef
    obtain ⟨⟨rr, ρp⟩, e3, ef⟩ := Option.map_eq_some_iff.mp ef
    refine ⟨ρ, F, .ok rs, ρ1, E, nd, e1, fun vs H1 g F1 r1 E1 N1 S1 => ?_⟩
    obtain ⟨p2, F2, r2, E2, N2, s2⟩ := r1.takes E1 N1 e2
    refine ⟨by rw [r1.len, hn _ _ _ e1], ds, p2, rr, ρp, r2, (nodup3 N2).1, e3, ?_⟩
    obtain ⟨n1, n2, n3⟩ := nodup3 N2
    have n3' : ∀ a ∈ F2, a ∉ p2 := fun a ha hb => n3 a hb ha
    match rr, ef with
    | .val rr, ef =>
      cases ef
      intro v H' g' F' rv Ep np Sp
      have E2' := E2.keep (Sp.keep r2.mut n3')
      have ap : ∀ a ∈ F2, a ∉ g' ++ F' := Sp.apart E2.mut n3'
      obtain ⟨m1, m2, m3⟩ := nodup3 np
      obtain ⟨F3, E3, N3, s3⟩ := give (ds := ds) r1 Ep E2' (nodup_of m2 n2 fun a ha hb => ap a hb (List.mem_append_right _ ha))
      refine k v H' g' F3 rv E3 (nodup_of m1 N3 fun a ha hb => ?_) fun a u ea na => ?_
      · rcases List.mem_append.mp (s3 a hb) with z | z
        · exact m3 a ha z
        · exact ap a z (List.mem_append_left _ ha)
      · obtain ⟨q1, q2⟩ := S1 a u ea na
        have q3 : a ∉ p2 := fun z => q2 (s2 a (List.mem_append_left _ z))
        have q4 : a ∉ F2 := fun z => q2 (s2 a (List.mem_append_right _ z))
        obtain ⟨q5, q6⟩ := Sp a u q1 q3
        refine ⟨q5, fun z => ?_⟩
        rcases List.mem_append.mp z with z | z
        · exact q6 (List.mem_append_left _ z)
        · rcases List.mem_append.mp (s3 a z) with z | z
          · exact q6 (List.mem_append_right _ z)
          · exact q4 z
    | .up x, ef =>
      cases ef
      intro cls d H' F' xr Ep np Sp
      have E2' := E2.keep (Sp.keep r2.mut n3')
      have ap : ∀ a ∈ F2, a ∉ F' := Sp.apart E2.mut n3'
      obtain ⟨F3, E3, N3, s3⟩ := give (ds := ds) r1 Ep E2' (nodup_of np n2 fun a ha hb => ap a hb ha)
      refine k cls d H' F3 xr E3 N3 fun a u ea na => ?_
      obtain ⟨q1, q2⟩ := S1 a u ea na
      have q3 : a ∉ p2 := fun z => q2 (s2 a (List.mem_append_left _ z))
      have q4 : a ∉ F2 := fun z => q2 (s2 a (List.mem_append_right _ z))
      obtain ⟨q5, q6⟩ := Sp a u q1 q3
      refine ⟨q5, fun z => ?_⟩
      rcases List.mem_append.mp (s3 a z) with z | z
      · exact q6 z
      · exact q4 z
theorem run_fnX {pins : List (Addr × Obj)} {σ : L2.St} {H : Hp} {s : Shared} {Q : VK} {us : List Value} {vs : List V} (F : FnX X.prog X.w X.K X.mg X.base k f fd ps den) (tk : Takes X Wx) (hgd : X.A.guards = some []) (hr : Room k X.A) (hb : Binds X.K fd ps [])
    (I : Inv X pins σ H s) (r : Vals vs us) (hl : vs.length = ps.length) (h : spX X.K X.mg den vs H Q (WE Wx σ)) : wpAny (model X.prog X.w) X.A (call (.ref f) us) (EP X pins σ Q) X.xe s := by
  have hb' := hb s us I.kIn (by rw [List.append_nil, ← r.length]; exact hl)
  rw [List.append_nil] at hb'
  refine wpAny_call (codeAny_mono (F.run X.A X.stack s H ⟨us, []⟩ us vs Q _ hgd hr I.env0 hb' r hl h) fun rr s' hq => ?_)
  match rr, hq with
  | .ok (.ret u), hq => exact I.after hq
  | .ok .next, hq => exact False.elim hq
  | .ok .brk, hq => exact False.elim hq
  | .ok .cont, hq => exact False.elim hq
  | .error ee, hq => exact passAt tk σ pins H s ee s' I hq
theorem xA_len {n : Nat} {fr : FA} (h : ∀ (ρ ρ1 : Fm) (rs : List R), fr ρ = some (rs, ρ1) → rs.length = n) : ∀ (ρ ρ1 : Fm) (rs : List R), xA fr ρ = some (.ok rs, ρ1) → rs.length = n := fun ρ ρ1 rs e => by
  obtain ⟨⟨rs', ρ2⟩, e1, e⟩ := Option.map_eq_some_iff.mp e
  cases e
  exact h _ _ _ e1
theorem dex_call (G : DefX X.prog X.w X.K X.mg X.base x j ps den) (tk : Takes X Wx) (hgd : X.A.guards = some []) (hr : Room k X.A) (hjk : j ≤ k) (hg : Gl X x)
    (hn : ∀ (ρ ρ1 : Fm) (rs : List R), fr ρ = some (.ok rs, ρ1) → rs.length = ps.length) (ha : DAX X Wx (e :: es) fr) (hdb : (x == ("__debug__" : Str)) = false := by decide)
    (he : starEach (e :: es) X.env = (false, eval e X.env) :: starEach es X.env := by rfl) (hpl : (backTo pos (starEach es X.env)).any (·.1) = false := by rfl) : DEX X Wx (.Call (.Name x p) (e :: es) [] pos) (xCall den fr) := by
  obtain ⟨f, fd, F, hm, hk, hb⟩ := G.ex
  refine ⟨⟨fun pins s σ H Q I h => wpAny_Call_Name_kw (ld_glob I hg hm ?_ hdb)⟩⟩
  refine PySem.W.callWith_K (h₀ := X.base) I.ok.mod.kin hk (thn (ha.pa.run pos pins s σ H _ I (callX_core hn h)) fun us s1 hh => ?_) he hpl
  obtain ⟨vs, H1, I1, r, hl, q⟩ := hh
  exact ⟨I1.kIn, run_fnX F tk hgd (hr.mono hjk) hb I1 r hl q⟩
end
end DL
/-! The program's exception classes: their making; raise. -/
namespace DL
open PySem PySem.Spec L2
open PyProof.Rows (envOfC AllBare)
/-- the class that all refusals are of: its __init__ is ValueError's -/
structure BaseX (K : PySem.W.Frag) (mg : Str → Option Value) (x : Str) (C : Addr) : Prop where
  g : mg x = some (.ref C)
  rd : ClX.CRead K C (.type "type")
  ini : PySem.W.findCls K (.ref C) (.type "type") "__init__" = some (.val (.builtin "ValueError.__init__"))
section
variable {X : Cx} {x : Str} {C : Addr} {e : Expr} {es : List Expr} {ta : TA} {p1 p2 pos : Pos}
theorem pe_baseinit {pl : Sem Bool} (B : BaseX X.K X.mg x C) (hg : Gl X x) (ha : PA X (e :: es) ta) (hdb : (x == ("__debug__" : Str)) = false := by decide)
    (told : eval (.Call (.Attribute (.Name x p1) "__init__" p2) (e :: es) [] pos) X.env = (do
      let obj ← eval (.Name x p1) X.env
      standAt p2.atName
      let (g, first) ← holding [obj] (getMethod obj "__init__" pl)
      callWith pos g first (backTo pos (starEach (e :: es) X.env)) (backToKw pos (keywordEach [] X.env))) := by rfl)
    (hs : starEach (e :: es) X.env = (false, eval e X.env) :: starEach es X.env := by rfl) (np : (backTo pos (starEach es X.env)).any (·.1) = false := by rfl) :
    PE X (.Call (.Attribute (.Name x p1) "__init__" p2) (e :: es) [] pos) (tVeI X.K ta) := ⟨fun pins s σ H Q I h => by
  have args : ∀ s1, Inv X pins σ H s1 → wpAny (model X.prog X.w) X.A (callWith pos (Value.builtin "ValueError.__init__") [] (backTo pos (starEach (e :: es) X.env)) []) (EP X pins σ Q) X.xe s1 := fun s1 I1 => by
    refine PyProof.Rows.callWith_method1 (thn (ha.run pos pins s1 σ H _ I1 h) ?_) hs np
    rintro us s2 ⟨vs, H2, I2, rel, a, Cc, ws, rfl, few, ox, at_, q⟩
    match us, rel with
    | u :: us, .cons ra rw' =>
      cases ra
      refine oinit_ok ox I2 at_ (Nat.le_trans (m := 1000) ?_ (by rw [sizeLine_eq]; decide)) fun s3 J => ⟨.non, H2, J, rfl, q⟩
      rw [← Paired.length rw']
      exact few
  refine PySem.W.methodCall_KW (ld_glob I hg B.g ?_ hdb) told
  exact PySem.W.method_cls I.kIn B.rd.ga (PySem.W.cls_value I.kIn B.rd.rd B.ini rfl (args _ (I.tok _)))⟩
end
/-! ### C.__init__, of one field, of two -/
def spI1 (C : Addr) (f : Str) : Sp := fun vs H Q _ => ∃ a y, vs = [.ref a, y] ∧ H a = some (exo a C none) ∧ ∀ d, H d = none → d ≠ a → Q .non (upd (upd H d (exd d [(f, y)])) a (exo a C (some d)))
/-- what the text has of the class -/
structure ClsX (K : PySem.W.Frag) (mg : Str → Option Value) (x : Str) (C fI : Addr) : Prop where
  g : mg x = some (.ref C)
  ox : OexC K C
  xf : XfC K C
  ic : PySem.W.findIn K (.ref C) "__init__" = some (some (.ref fI))
  ti : PySem.W.typeIn K (.ref fI) = some (.type "function")
section
variable {K : PySem.W.Frag} {C : Addr} {f g n0 n1 n2 z : Str} {vs : List V} {H : Hp} {Q : VK} {E : XK}
theorem doesI1 (ox : OexC K C) (no : PySem.W.findIn K (.ref C) f = some none) (h : spI1 C f vs H Q E) :
    tSeq (tDrop (tVeI K (tCons (tVar 0) (tCons (tC (.str z)) tNil)))) (tOst K f (tVar 0) (tVar 1)) { nx := fun _ G => Q .non G, rt := Q } (L2.start [n0, n1] vs) H := by
  obtain ⟨a, y, rfl, e, k⟩ := h
  exact ⟨.ref a, rfl, a, C, [.str z], rfl, by simp, ox, e, y, rfl, .ref a, rfl, a, C, rfl, ox, no, .inl ⟨e, k⟩⟩
end
/-! ### C(..) -/
/-- what is told of C(e, ..): a new dict with the fields, the last one ahead -/
def tMkC (C : Addr) (fs : List Str) (ta : TA) : L2.St → Hp → XK → Prop := fun σ H Q => ta σ H fun vs H1 => vs.length = fs.length ∧ ∀ d, H1 d = none → Q (.ref C) (some d) (upd H1 d (.xd (fs.zip vs).reverse))
/-- the class x may be called: it makes exceptions of these fields -/
structure MkX (P : Program) (w : World) (K : PySem.W.Frag) (mg : Str → Option Value) (base : Heap) (x : Str) (fs : List Str) : Prop where
  ex : ∃ (C fI : Addr) (fd : FuncData) (ps : List Str) (sp : Sp), ClsX K mg x C fI ∧ FnOk P w K mg base CX0 1 fI fd ps sp ∧ Binds K fd ps [] ∧ fs.length ≤ 900 ∧
    ∀ (vs : List V) (H : Hp) (a : Addr) (Q : VK) (E : XK), vs.length = fs.length → H a = some (exo a C none) → (∀ d, H d = none → d ≠ a → Q .non (upd (upd H d (exd d (fs.zip vs).reverse)) a (exo a C (some d)))) → sp (.ref a :: vs) H Q E
section
variable {P : Program} {w : World} {K : PySem.W.Frag} {mg : Str → Option Value} {base : Heap} {x f g : Str} {C fI : Addr} {fd : FuncData} {n0 n1 n2 : Str}
theorem mk1 (c : ClsX K mg x C fI) (F : FnOk P w K mg base CX0 1 fI fd [n0, n1] (spI1 C f)) (b : Binds K fd [n0, n1] []) : MkX P w K mg base x [f] :=
  ⟨C, fI, fd, _, _, c, F, b, by simp, fun vs H a Q E hl e k => by
    match vs, hl with
    | [y], _ => exact ⟨a, y, rfl, e, k⟩⟩
end
section
variable {X : Cx} {x : Str} {fs : List Str} {e : Expr} {es : List Expr} {ta : TA} {p pos : Pos} {k : Nat}
theorem rdA_imp {K : PySem.W.Frag} {fr : FA} {σ : L2.St} {H : Hp} {Q Q' : List V → Hp → Prop} (h : rdA K fr σ H Q) (w : ∀ vs G, Q vs G → Q' vs G) : rdA K fr σ H Q' := by
  obtain ⟨ρ, F, r, ρ', E, nd, ef, k⟩ := h
  exact ⟨ρ, F, r, ρ', E, nd, ef, fun vs H' g F' a b c d => w _ _ (k vs H' g F' a b c d)⟩
theorem pmk_c {fr : FA} (M : MkX X.prog X.w X.K X.mg X.base x fs) (hr : Room k X.A) (h2 : 2 ≤ k) (hg : Gl X x) (ha : DA X (e :: es) fr) (hdb : (x == ("__debug__" : Str)) = false := by decide) (he : starEach (e :: es) X.env = (false, eval e X.env) :: starEach es X.env := by rfl)
    (hpl : (backTo pos (starEach es X.env)).any (·.1) = false := by rfl) :
    ∃ C, X.mg x = some (.ref C) ∧ PMk X (.Call (.Name x p) (e :: es) [] pos) (tMkC C fs (rdA X.K fr)) := by
  obtain ⟨C, fI, fd, ps, sp, c, F, b, few, does⟩ := M.ex
  refine ⟨C, c.g, fun pins s σ H Q I h => ?_⟩
  refine pmk_oex (dvs := []) (ds := []) (p := p) (pos := pos) c.ox c.ic c.ti F (hr.mono h2) b .nil pass0 hg c.g ha.pa hdb he hpl pins s σ H Q I ?_
  refine rdA_imp h fun vs H1 ⟨hl, q⟩ => ⟨by omega, fun a na => ?_⟩
  rw [List.append_nil]
  refine does vs _ a _ _ hl upd_same fun d hd ne => ⟨rfl, d, (fs.zip vs).reverse, upd_same, by rw [upd_ne ne, upd_same], ?_, ?_⟩
  · rwa [upd_ne ne] at hd
  · have hd1 : H1 d = none := by rwa [upd_ne ne] at hd
    have same : upd (del (upd (upd (upd H1 a (exo a C none)) d (exd d (fs.zip vs).reverse)) a (exo a C (some d))) a) d (.xd (fs.zip vs).reverse) = upd H1 d (.xd (fs.zip vs).reverse) := by
      funext b
      by_cases h1 : b = d
      · subst h1; rw [upd_same, upd_same]
      · rw [upd_ne h1, upd_ne h1]
        by_cases h2 : b = a
        · subst h2; rw [del_same, na]
        · rw [del_ne h2, upd_ne h2, upd_ne h1, upd_ne h2]
    rw [same]
    exact q d hd1
/-! ### raise -/
def xRaise (x : Str) (fs : List Str) (fr : FA) : FSX := fun ρ => (fr ρ).bind fun (rs, ρ1) => (takes ρ1 rs).bind fun (ds, ρ2) => if immL ds = true ∧ ds.length = fs.length then some (.up ⟨x, ((fs.map fun f => (.inr f : Key)).zip ds).reverse⟩, ρ2) else none
theorem repK_app {K : PySem.W.Frag} {H : Hp} : ∀ {a b : List (Key × D)} {u v : List (Key × V)}, RepK K H a u [] → RepK K H b v [] → RepK K H (a ++ b) (u ++ v) []
  | [], b, u, v, ha, hb => by obtain ⟨rfl, _⟩ := ha; exact hb
  | (k, d) :: a, b, u, v, ha, hb => by
    obtain ⟨w, u', f1, f2, rfl, e, r1, r2⟩ := ha
    obtain ⟨rfl, rfl⟩ := List.append_eq_nil_iff.mp (Eq.symm e)
    exact ⟨w, u' ++ v, [], [], rfl, rfl, r1, repK_app r2 hb⟩
theorem immK_app : ∀ {a b : List (Key × D)}, immK a = true → immK b = true → immK (a ++ b) = true
  | [], _, _, hb => hb
  | (k, d) :: a, b, ha, hb => by
    have ha : (imm d && immK a) = true := ha
    rw [Bool.and_eq_true] at ha
    show (imm d && immK (a ++ b)) = true
    rw [ha.1, immK_app ha.2 hb]; rfl
theorem fields_rep {K : PySem.W.Frag} {H : Hp} : ∀ {fs : List Str} {ds : List D} {vs : List V}, RepL K H ds vs [] → immL ds = true → ds.length = fs.length →
    RepK K H ((fs.map fun f => (.inr f : Key)).zip ds).reverse ((fs.map fun f => (.inr f : Key)).zip vs).reverse [] ∧ immK ((fs.map fun f => (.inr f : Key)).zip ds).reverse = true ∧ xdOf ((fs.map fun f => (.inr f : Key)).zip vs).reverse = (fs.zip vs).reverse
  | [], [], vs, r, _, _ => by obtain ⟨rfl, _⟩ := r; exact ⟨⟨rfl, rfl⟩, rfl, rfl⟩
  | f :: fs, d :: ds, vs, r, im, hl => by
    obtain ⟨v, vs', f1, f2, rfl, e, r1, r2⟩ := r
    obtain ⟨rfl, rfl⟩ := List.append_eq_nil_iff.mp (Eq.symm e)
    have im : (imm d && immL ds) = true := im
    rw [Bool.and_eq_true] at im
    obtain ⟨a, b, c⟩ := fields_rep (fs := fs) r2 im.2 (by simpa using hl)
    simp only [List.map_cons, List.zip_cons_cons, List.reverse_cons]
    refine ⟨repK_app a ⟨v, [], [], [], rfl, rfl, r1, rfl, rfl⟩, immK_app b (by show (imm d && true) = true; rw [im.1]; rfl), ?_⟩
    unfold xdOf at c ⊢
    rw [List.map_append, c]; rfl
theorem dsx_raise {Wx : WX} {fr : FA} {pos2 : Pos} (hc : X.calm = true) (tk : Takes X Wx) (M : MkX X.prog X.w X.K X.mg X.base x fs) (hr : Room k X.A) (h2 : 2 ≤ k) (hg : Gl X x) (ha : DA X (e :: es) fr) (hdb : (x == ("__debug__" : Str)) = false := by decide) (he : starEach (e :: es) X.env = (false, eval e X.env) :: starEach es X.env := by rfl)
    (hpl : (backTo pos (starEach es X.env)).any (·.1) = false := by rfl) :
    DSX X Wx [] (.Raise (some (.Call (.Name x p) (e :: es) [] pos)) none pos2) (xRaise x fs fr) := by
  obtain ⟨C, hm, mk⟩ := pmk_c (p := p) (pos := pos) M hr h2 hg ha hdb he hpl
  refine ⟨ps_weak (ps_raise hc tk mk) fun Dn σ H ⟨ρ, F, o, ρ', E, nd, ef, q⟩ => ?_⟩
  obtain ⟨⟨rs, ρ1⟩, e1, ef⟩ := Option.bind_eq_some_iff.mp ef
  obtain ⟨⟨ds, ρ2⟩, e2, ef⟩ := Option.bind_eq_some_iff.mp ef
  obtain ⟨⟨im, hl⟩, ef⟩ := if_some ef
  cases ef
  refine ⟨ρ, F, rs, ρ1, E, nd, e1, fun vs H1 g F1 r1 E1 N1 S1 => ?_⟩
  obtain ⟨p2, F2, r2, E2, N2, s2⟩ := r1.takes E1 N1 e2
  have p0 := RepL.imm _ _ _ r2 im
  subst p0
  refine ⟨by rw [r2.length, hl], fun d hd => ?_⟩
  have sm := upd_same_of (o := .xd (fs.zip vs).reverse) hd
  obtain ⟨a, b, c⟩ := fields_rep (fs := fs) (RepL.keep _ _ _ r2 (Same.keep (l := []) sm)) im hl
  refine UpP.here q _ _ _ F2 ⟨C, d, _, hm, rfl, rfl, by rw [upd_same, c], a, b⟩ (E2.keep (Same.keep sm)) (nodup3 N2).2.1 fun b u eb nb => ?_
  obtain ⟨q1, q2⟩ := S1 b u eb nb
  exact ⟨sm b u q1, fun z => q2 (s2 b (List.mem_append_right _ z))⟩
end
end DL
/-! try .. except, in defs that end plainly. -/
namespace DL
open PySem PySem.Spec L2
/-- the clause of class x takes exceptions of each of ys -/
structure HdX (K : PySem.W.Frag) (mg : Str → Option Value) (x : Str) (ys : List Str) : Prop where
  ex : ∃ C : Addr, mg x = some (.ref C) ∧ ∀ y ∈ ys, ∀ Cy : Addr, mg y = some (.ref Cy) → PySem.W.exmOne K (.ref Cy) (.ref C) = some true
/-- try: body; except X: suite -/
def fTry (fb : FSX) (ys : List Str) (fs : FS) : FS := fun ρ => (fb ρ).bind fun (o, ρ1) => match o with
  | .go o => some (o, ρ1)
  | .up x => if x.cls ∈ ys then fs ρ1 else none
/-! ### except X as e -/
/-- in the suite the name's slot holds the exception; the name goes at its end -/
def fSuite (i : Nat) (x : XD) (fs : Addr → Str → Addr → FS) (ρ : Fm) (r : Fl × Fm) : Prop := ∀ a dd : Addr, ∃ ρ3, fs a x.cls dd (ρ.set i (some (.exc a x.cls dd x.fs))) = some (r.1, ρ3) ∧ ρ3.set i none = r.2
open Classical in
noncomputable def fTryAs (fb : FSX) (ys : List Str) (i : Nat) (fs : Addr → Str → Addr → FS) : FS := fun ρ => (fb ρ).bind fun (o, ρ1) => match o with
  | .go o => some (o, ρ1)
  | .up x => if h : x.cls ∈ ys ∧ i < ρ1.length ∧ ∃ r, fSuite i x fs ρ1 r then some h.2.2.choose else none
theorem fTryAs_go {fb : FSX} {ys : List Str} {i : Nat} {fs : Addr → Str → Addr → FS} {ρ ρ1 : Fm} {o : Fl} (h : fb ρ = some (.go o, ρ1)) : fTryAs fb ys i fs ρ = some (o, ρ1) := by
  unfold fTryAs
  rw [h]; rfl
open Classical in
theorem fTryAs_up {fb : FSX} {ys : List Str} {i : Nat} {fs : Addr → Str → Addr → FS} {ρ ρ1 : Fm} {x : XD} {r : Fl × Fm} (h : fb ρ = some (.up x, ρ1)) (hy : x.cls ∈ ys) (hi : i < ρ1.length) (hr : fSuite i x fs ρ1 r) : fTryAs fb ys i fs ρ = some r := by
  unfold fTryAs
  have c : x.cls ∈ ys ∧ i < ρ1.length ∧ ∃ r, fSuite i x fs ρ1 r := ⟨hy, hi, r, hr⟩
  have e : c.2.2.choose = r := by
    obtain ⟨ρ3, a1, a2⟩ := c.2.2.choose_spec 0 0
    obtain ⟨ρ4, b1, b2⟩ := hr 0 0
    have z := Option.some.inj (a1.symm.trans b1)
    have z1 := congrArg Prod.fst z
    have z2 : ρ3 = ρ4 := congrArg Prod.snd z
    exact Prod.ext z1 (a2.symm.trans (z2 ▸ b2))
  rw [h]
  show (if h : x.cls ∈ ys ∧ i < ρ1.length ∧ ∃ r, fSuite i x fs ρ1 r then some h.2.2.choose else none) = _
  rw [dif_pos c, e]
section
variable {X : Cx} {x n : Str} {ys : List Str} {body suite : List Stmt} {b₀ : Stmt} {np pos pos' : Pos} {fb : FSX} {fs : Addr → Str → Addr → FS} {W1 W2 : List Nat} {i : Nat}
/-- the exception's slot is dropped at the end -/
theorem drop_post {K : PySem.W.Frag} {W : List Nat} {Dn : Ends} {σ : L2.St} {H : Hp} {F : List Addr} {o : Fl} {ρ3 : Fm} {w : Option V} (h : Post K (i :: W) Dn σ H F o (ρ3.set i none)) :
    Post K W { nx := fun σ' H' => Dn.nx (σ'.set i none) H', rt := Dn.rt, bk := fun σ' H' => Dn.bk (σ'.set i none) H', ct := fun σ' H' => Dn.ct (σ'.set i none) H' } (σ.set i w) H F o ρ3 := by
  have st : ∀ {σ' : L2.St} {u : Option V}, (∀ j, j ∉ W → σ'[j]? = (σ.set i w)[j]?) → ∀ j, j ∉ i :: W → (σ'.set i u)[j]? = σ[j]? := fun {σ' u} hs j hj => by
    rw [List.mem_cons, not_or] at hj
    rw [List.getElem?_set_ne (fun z => hj.1 z.symm), hs j hj.2, List.getElem?_set_ne (fun z => hj.1 z.symm)]
  have go : ∀ {σ' : L2.St} {H' : Hp} {G F' : List Addr}, EnvR K H' ρ3 σ' F' → (G ++ F').Nodup → Step H F H' (G ++ F') → ∃ F2, EnvR K H' (ρ3.set i none) (σ'.set i none) F2 ∧ (G ++ F2).Nodup ∧ Step H F H' (G ++ F2) := fun {σ' H' G F'} E N S => by
    obtain ⟨F1, f, F3, rfl, E2⟩ := E.drop (i := i)
    refine ⟨F1 ++ F3, E2.other, ?_, S.to fun a ha => .inl ?_⟩
    · refine N.sublist (List.Sublist.append_left (List.Sublist.append_left (List.sublist_append_right _ _) _) _)
    · simp only [List.mem_append] at ha ⊢
      rcases ha with ha | ha | ha
      · exact .inl ha
      · exact .inr (.inl ha)
      · exact .inr (.inr (.inr ha))
  cases o with
  | nx =>
      intro σ' H' F' E N S hs
      obtain ⟨F2, a, b, c⟩ := go (G := []) E N S
      exact h _ H' F2 a b c (st hs)
  | bk =>
      intro σ' H' F' E N S hs
      obtain ⟨F2, a, b, c⟩ := go (G := []) E N S
      exact h _ H' F2 a b c (st hs)
  | ct =>
      intro σ' H' F' E N S hs
      obtain ⟨F2, a, b, c⟩ := go (G := []) E N S
      exact h _ H' F2 a b c (st hs)
  | ret d =>
      intro v σ' H' g F' r E N S hs
      obtain ⟨F2, a, b, c⟩ := go (G := g) E N S
      exact h v _ H' g F2 r a b c (st hs)
end
end DL
/-! A caught exception's field; exception classes of one field, of two, from the text. -/
namespace DL
open PySem PySem.Spec L2
/-- the classes ys: f is none of their own names -/
structure FldX (K : PySem.W.Frag) (mg : Str → Option Value) (ys : List Str) (f : Str) : Prop where
  at_ : ∀ y ∈ ys, ∀ C : Addr, mg y = some (.ref C) → XfC K C ∧ PySem.W.findIn K (.ref C) f = some none
/-- the exception in slot i: its field -/
def fFld (a dd : Addr) (i : Nat) (f : Str) : FE := fun ρ => match slot ρ i with
  | some (.exc a' _ dd' kvs) => if a' = a ∧ dd' = dd ∧ (kvs.all fun kv => kv.1.isRight) = true then (kvGet kvs (.inr f)).bind fun d => if imm d = true then some (.val d, ρ) else none else none
  | _ => none
theorem repK_fld {K : PySem.W.Frag} {H : Hp} {f : Str} : ∀ {kvs : List (Key × D)} {ws : List (Key × V)} {g : List Addr} {d : D}, RepK K H kvs ws g → (∀ kv ∈ kvs, ∃ y, kv.1 = .inr y) → kvGet kvs (.inr f) = some d → imm d = true → ∃ v, (xdOf ws).lookup f = some v ∧ Rep K H d v []
  | [], _, _, _, _, _, e, _ => by cases e
  | (k, d0) :: kvs, _, _, d, r, hk, e, im => by
    obtain ⟨v, ws, f1, f2, rfl, rfl, r1, r2⟩ := r
    obtain ⟨y, hy⟩ := hk _ List.mem_cons_self
    have hy : k = .inr y := hy
    subst hy
    by_cases c : y = f
    · subst c
      have e0 : kvGet ((Sum.inr y, d0) :: kvs) (.inr y) = some d0 := by simp [kvGet]
      rw [e0] at e
      cases e
      have q := Rep.imm _ _ _ r1 im
      subst q
      exact ⟨v, by simp [xdOf, fldOf], r1⟩
    · have e0 : kvGet ((Sum.inr y, d0) :: kvs) (.inr f) = kvGet kvs (.inr f) := by
        have : ¬ (Sum.inr y : Key) = .inr f := fun z => c (Sum.inr.inj z)
        simp [kvGet, List.find?_cons, this]
      rw [e0] at e
      obtain ⟨u, l, q⟩ := repK_fld r2 (fun kv h => hk kv (List.mem_cons_of_mem _ h)) e im
      refine ⟨u, ?_, q⟩
      have : (f == y) = false := by
        rw [beq_eq_false_iff_ne]
        exact fun z => c z.symm
      show List.lookup f ((y, v) :: xdOf ws) = some u
      rw [List.lookup_cons, this]
      exact l
section
variable {X : Cx} {a dd C : Addr} {oe : Obj} {c n f : Str} {ys : List Str} {pn : List (Addr × Obj)} {i : Nat} {p pos : Pos}
theorem de_fld (T : FldX X.K X.mg ys f) (hy : c ∈ ys) (hm : X.mg c = some (.ref C)) (hz : Zc (.ref C) (some dd) oe) (hf : ∃ vs, oe.data = .fields vs) (hv : PE (X.suite a ((a, oe) :: pn)) (.Name n p) (tVar i)) (hb : attributeBase (.Name n p) f X.env (eval (.Name n p) X.env) = eval (.Name n p) X.env := by rfl) :
    DE (X.suite a ((a, oe) :: pn)) (.Attribute (.Name n p) f pos) (fFld a dd i f) := by
  obtain ⟨xf, no⟩ := T.at_ c hy C hm
  refine ⟨pe_weak (pe_xf xf no hz hf hv hb) ?_⟩
  rintro σ H Q ⟨ρ, F, r, ρ', E, nd, run, k⟩
  have run : (match slot ρ i with
    | some (.exc a' _ dd' kvs) => if a' = a ∧ dd' = dd ∧ (kvs.all fun kv => kv.1.isRight) = true then (kvGet kvs (.inr f)).bind fun d => if imm d = true then some (R.val d, ρ) else none else none
    | _ => none) = some (r, ρ') := run
  match e : slot ρ i, run with
  | some (.exc a' c' dd' kvs), run =>
    have run2 : (if a' = a ∧ dd' = dd ∧ (kvs.all fun kv => kv.1.isRight) = true then (kvGet kvs (.inr f)).bind fun d => if imm d = true then some (R.val d, ρ) else none else none) = some (r, ρ') := run
    by_cases q : a' = a ∧ dd' = dd ∧ (kvs.all fun kv => kv.1.isRight) = true
    · rw [if_pos q] at run2
      obtain ⟨rfl, rfl, keys⟩ := q
      obtain ⟨d, e1, run2⟩ := Option.bind_eq_some_iff.mp run2
      obtain ⟨im, run2⟩ := if_some run2
      cases run2
      obtain ⟨v, F1, g, F3, e2, _, rp, _⟩ := E.at (slot_some e)
      obtain ⟨ws, rfl, hx, rk⟩ := rp
      obtain ⟨u, l, ru⟩ := repK_fld rk (fun kv h => by
        have := List.all_eq_true.mp keys kv h
        cases kk : kv.1 with
        | inl j => rw [kk] at this; cases this
        | inr y => exact ⟨y, rfl⟩) e1 im
      exact ⟨_, e2, rfl, rfl, dd', _, u, rfl, hx, l, k u H [] F ru E nd Step.refl⟩
    · rw [if_neg q] at run2
      cases run2
end
end DL
/-! x not in a tuple of data; a def that may raise, where it does not. -/
namespace DL
open PySem PySem.Spec L2
section
variable {X : Cx}
def rNotInDT (K : PySem.W.Frag) : R2 := fun x y H Q => ∃ (d : PyData) (ds : List PyData), Dp K H x d ∧ Dp K H y (.tuple ds) ∧ SeqAt.shaped d = true ∧ SeqAt.shaped (.tuple ds) = true ∧ Q (.bl (!ds.any fun z => PyData.eqv z d)) H
theorem op_notInT (hu : X.A.units + 65 < cLine) : OpR X (compareOp .NotIn) (rNotInDT X.K) := by
  rintro pins s σ H a b v u Q I ra rb ⟨d, ds, da, db, sd, ss, q⟩
  obtain ⟨_, ma⟩ := Dp.reads I d a v da ra
  obtain ⟨_, mb⟩ := Dp.reads I (.tuple ds) b u db rb
  exact SeqAt.notIn_tuple_reads mb ma (SeqAt.canLay_of_shaped ss) (SeqAt.canLay_of_shaped sd) (PyProof.Rows.room_in_shaped (xs := ds) sd hu) ⟨.bl _, H, I, rfl, q⟩
end
def dNotInT (x y : D) : Option D := match y with
  | .tup ys => if noDic x = true ∧ noDicL ys = true ∧ SeqAt.shaped (toP x) = true ∧ SeqAt.shaped (.tuple (toPL ys)) = true then some (.bl (!(toPL ys).any fun z => PyData.eqv z (toP x))) else none
  | _ => none
theorem o2_notInT {K : PySem.W.Frag} : Op2 K (rNotInDT K) dNotInT := by
  intro H x y v u p q z Q r1 r2 e h
  cases y <;> try cases e
  rename_i ys
  obtain ⟨⟨nx, ny, sx, sy⟩, e⟩ := if_some e
  subst e
  exact ⟨toP x, toPL ys, Rep.dp _ _ _ r1 nx, Rep.dp (.tup ys) _ _ r2 ny, sx, sy, h _ H [] ⟨rfl, rfl⟩ List.nodup_nil (by simp) (Same.refl H)⟩
/-! ### a call that does not raise -/
end DL
/-! A caught exception that is handed to a def; isinstance of it. -/
namespace DL
open PySem PySem.Spec L2
open PyProof.Rows (envOfC AllBare)
/-- what an exception class says, so that isinstance of its instances is told -/
structure IsxC (K : PySem.W.Frag) (C : Addr) : Prop where
  xf : XfC K C
  ca : PySem.W.findIn K (Value.ref C) "__class__" = some (some (.builtin "object.__class__"))
  ob : PySem.W.mroIn K C (.type "object") = some true
  gs : PySem.W.specialIn K (.builtin "object.__class__") "__get__" = some (some (.builtin "getset_descriptor.__get__"))
  tk : PySem.W.takesIn K (.builtin "object.__class__") = some true
theorem IsxC.kit {K : PySem.W.Frag} {C x : Addr} {od : Option Obj} (c : IsxC K C) : PySem.W.KitX K (.ref x) (.ref C) (fun h => PySem.W.InstAt h x ox C od) :=
  PySem.W.kitx_exc (by obtain ⟨cd, hc, _⟩ := PySem.W.any_some c.xf.hdC; rw [hc]; rfl) c.xf.ga c.xf.gg c.xf.exC c.ca c.gs c.tk c.ob
/-- a class by its name: for which exceptions isinstance is what -/
structure IsX (K : PySem.W.Frag) (mg : Str → Option Value) (y : Str) (tab : List (Str × Bool)) : Prop where
  ex : ∃ (v : V) (u : Value), RelV v u ∧ (∀ u', RelV v u' → u' = u) ∧ (mg y = some u ∨ (mg y = none ∧ bootBuiltins y = some u ∧ y ≠ "__name__")) ∧
    ∀ c b, tab.lookup c = some b → ∀ C : Addr, mg c = some (.ref C) → IsxC K C ∧ PySem.W.kitOne K (.ref C) u = some b
section
variable {X : Cx} {y : Str} {tab : List (Str × Bool)} {p : Pos}
theorem pe_class (T : IsX X.K X.mg y tab) (hg : Gl X y) (hd : (y == ("__debug__" : Str)) = false := by decide) : ∃ (v : V) (u : Value), RelV v u ∧ (∀ u', RelV v u' → u' = u) ∧ PE X (.Name y p) (tC v) ∧
    ∀ c b, tab.lookup c = some b → ∀ C : Addr, X.mg c = some (.ref C) → IsxC X.K C ∧ PySem.W.kitOne X.K (.ref C) u = some b := by
  obtain ⟨v, u, r, uq, hm | ⟨hm, hb, hn⟩, tl⟩ := T.ex
  · exact ⟨v, u, r, uq, pe_glob hg hm r hd, tl⟩
  · exact ⟨v, u, r, uq, pe_bltn hg hm hb r hn hd, tl⟩
end
/-- isinstance(e, ..), e the exception in slot i: as it is told of its class -/
def fIsE (a : Addr) (c : Str) (dd : Addr) (told : Option Bool) (i : Nat) : FE := fun ρ => match slot ρ i with
  | some (.exc a' _ dd' _) => if a' = a ∧ dd' = dd then told.map fun b => (.val (.bl b), ρ) else none
  | _ => none
def rIsX (K : PySem.W.Frag) (a C dd : Addr) : List V → Hp → VK → Prop := fun xs H Q => ∃ (cv : V) (u : Value) (b : Bool) (fs : List (Str × V)), xs = [.ref a, cv] ∧ H dd = some (.xd fs) ∧ (∀ u', RelV cv u' → u' = u) ∧ IsxC K C ∧ PySem.W.kitOne K (.ref C) u = some b ∧ Q (.bl b) H
section
variable {X : Cx} {a dd C : Addr} {oe : Obj} {c n y : Str} {pn : List (Addr × Obj)} {i : Nat} {p p2 p3 pos : Pos}
theorem inst_at {pins : List (Addr × Obj)} {σ : L2.St} {H : Hp} {s : Shared} {fs : List (Str × V)} (I : Inv (X.suite a ((a, oe) :: pn)) pins σ H s) (hz : Zc (.ref C) (some dd) oe) (hf : ∃ vs, oe.data = .fields vs) (hx : H dd = some (.xd fs)) :
    ∃ od, PySem.W.InstAt s.heap a oe C (some od) := by
  obtain ⟨ha, _⟩ := I.pin (a, oe) (List.mem_append_left _ List.mem_cons_self)
  obtain ⟨vs, hd⟩ := hf
  have q : ObjOk X.prog X.w H s.heap dd (.xd fs) := I.hok dd _ hx
  obtain ⟨mA, hns, hr⟩ := q
  obtain ⟨od, look, _⟩ := lookIn_ns hns
  exact ⟨od, ha, hz.1, by unfold PySem.W.notCls; rw [hd] <;> rfl, by rw [hz.2]; exact look⟩
theorem call_isX (hz : Zc (.ref C) (some dd) oe) (hf : ∃ vs, oe.data = .fields vs) : CallR (X.suite a ((a, oe) :: pn)) (.builtin "isinstance") (rIsX X.K a C dd) := by
  intro pins s σ H xs vals Q I r h
  obtain ⟨cv, u, b, fs, rfl, hx, hcv, k, e, q⟩ := h
  cases r with
  | cons rx rr =>
    cases rr with
    | cons rt rr =>
      cases rr
      cases rx
      have ec := hcv _ rt
      subst ec
      obtain ⟨od, J⟩ := inst_at I hz hf hx
      exact PySem.W.kia_one k.kit I.kIn J e (fun z => nomatch z) fun tk => ⟨.bl b, H, I.kept (t' := tk) fun _ _ z => z, rfl, q⟩
theorem fIsE_some {told : Option Bool} {ρ ρ' : Fm} {r : R} (h : fIsE a c dd told i ρ = some (r, ρ')) : ∃ b c' kvs, told = some b ∧ slot ρ i = some (.exc a c' dd kvs) ∧ r = .val (.bl b) ∧ ρ' = ρ := by
  unfold fIsE at h
  match e : slot ρ i, h with
  | some (.exc a' c' dd' kvs), h =>
    have h2 : (if a' = a ∧ dd' = dd then told.map fun b => (R.val (.bl b), ρ) else none) = some (r, ρ') := h
    clear h
    by_cases q : a' = a ∧ dd' = dd
    · rw [if_pos q] at h2
      obtain ⟨rfl, rfl⟩ := q
      obtain ⟨b, e1, h2⟩ := Option.map_eq_some_iff.mp h2
      cases h2
      exact ⟨b, c', kvs, e1, rfl, rfl, rfl⟩
    · rw [if_neg q] at h2
      cases h2
theorem de_isE {tab : List (Str × Bool)} (T : IsX X.K X.mg y tab) (hmc : X.mg c = some (.ref C)) (hz : Zc (.ref C) (some dd) oe) (hf : ∃ vs, oe.data = .fields vs) (hg : Gl X "isinstance") (hm : X.mg "isinstance" = none) (hgy : Gl X y)
    (hv : PE (X.suite a ((a, oe) :: pn)) (.Name n p) (tVar i)) (hd : (y == ("__debug__" : Str)) = false := by decide)
    (hs : starEach [.Name n p, .Name y p2] (X.suite a ((a, oe) :: pn)).env = (false, eval (.Name n p) (X.suite a ((a, oe) :: pn)).env) :: starEach [.Name y p2] (X.suite a ((a, oe) :: pn)).env := by rfl)
    (hs2 : starEach [.Name y p2] (X.suite a ((a, oe) :: pn)).env = (false, eval (.Name y p2) (X.suite a ((a, oe) :: pn)).env) :: starEach [] (X.suite a ((a, oe) :: pn)).env := by rfl) :
    DE (X.suite a ((a, oe) :: pn)) (.Call (.Name "isinstance" p3) [.Name n p, .Name y p2] [] pos) (fIsE a c dd (tab.lookup c) i) := by
  obtain ⟨v, u, r, uq, pe, tl⟩ := pe_class (X := X.suite a ((a, oe) :: pn)) (p := p2) T hgy hd
  refine ⟨pe_weak (pe_callB (call_isX hz hf) hg hm boot_isi (pa_cons hv (pa_cons pe pa_nil hs2) hs) (by decide) (by decide) hs (by rw [hs2]; rfl)) ?_⟩
  rintro σ H Q ⟨ρ, F, r', ρ', E, nd, run, k⟩
  obtain ⟨b, c', kvs, l, e, rfl, rfl⟩ := fIsE_some run
  obtain ⟨w, F1, g, F3, e2, _, rp, _⟩ := E.at (slot_some e)
  obtain ⟨ws, rfl, hx, rk⟩ := rp
  obtain ⟨q1, q2⟩ := tl c b l C hmc
  exact ⟨_, e2, v, u, b, _, rfl, hx, uq, q1, q2, k _ H [] F ⟨rfl, rfl⟩ E nd Step.refl⟩
end
end DL
/-! Defs that are called in an except suite. -/
namespace DL
open PySem PySem.Spec L2
open L2H (RoomH PinOk inv_startH cxH)
open PyProof.Rows (envOfC AllBare)
structure FnE (P : Program) (w : World) (K : PySem.W.Frag) (mg : Str → Option Value) (base : Heap) (k : Nat) (f : Addr) (fd : FuncData) (ps ys : List Str) (den : Addr → Str → Addr → Den) : Prop where
  run : ∀ (A : Around) (outer : List PySem.Env) (s : Shared) (H : Hp) (args : PySem.Args) (us : List Value) (vs : List V) (Q : VK) (a C dd : Addr) (c : Str) (oe : Obj), A.guards = some [] → RoomH k A → A.handled = some (.ref a) → PinOk outer H s (a, oe) →
    c ∈ ys → mg c = some (.ref C) → Zc (.ref C) (some dd) oe → (∃ xs, oe.data = .fields xs) →
    Env0 P w K mg base A outer s H → BindsTo s fd args (ps.zip us) → Vals vs us → vs.length = ps.length → spD K (den a c dd) vs H Q →
    codeAny (model P w) A (.call (.ref f) args) (CR CX0 outer P w H s Q E0) s
section
variable {P : Program} {w : World} {K : PySem.W.Frag} {mg : Str → Option Value} {base : Heap} {A : Around} {outer : List PySem.Env} {s s1 : Shared} {H : Hp}
theorem mark_self {a : Addr} (h : A.handled = some (.ref a)) : A.mark (some (.ref a)) = A := by
  cases A
  dsimp only at h
  subst h
  rfl
theorem bodyE_left {N : List Str} {qual : Str} {sc : Scope} {f : Addr} {cdv : Value} {Q : VK} {a : Addr} {pn : List (Addr × Obj)} : ∀ (o : Flow) (t : Shared), SP ((ctx P w K mg base N qual sc f cdv A outer s H).suite a pn) [] { nx := fun _ G => Q .non G, rt := Q } o t →
    match o with
    | .next => CE outer P w H s Q .none t
    | .ret u => CE outer P w H s Q u t
    | _ => False
  | .next, t, ⟨_, G, J, q⟩ => ⟨V.non, G, J.os, J.bare, J.base, J.hok, rfl, q⟩
  | .ret _, t, ⟨x, _, G, J, rx, q⟩ => ⟨x, G, J.os, J.bare, J.base, J.hok, rx, q⟩
  | .brk, _, ⟨_, _, _, no⟩ => no
  | .cont, _, ⟨_, _, _, no⟩ => no
theorem inv_suite {CX : CXT} {N : List Str} {qual : Str} {sc : Scope} {f : Addr} {cdv : Value} {E : XK} {σ : L2.St} {a : Addr} {oe : Obj} (I : Inv (cxH CX P w K mg base N qual sc f cdv A outer s H E (a, oe)) [] σ H s1) :
    Inv ((cxOf CX P w K mg base N qual sc f cdv A outer s H E).suite a ((a, oe) :: [])) [] σ H s1 :=
  let ok := I.ok
  ⟨⟨ok.mod, ok.kind, ok.glob, ok.blt, ok.above, ok.inj, ok.has, ok.cab, (fun z => Bool.noConfusion (show false = true from z)), ok.frames, ok.stk, ok.exf, ok.bs, ok.bsz, ok.noex, ok.exfs, ok.funs, ok.frf⟩,
    I.os, I.bare, I.base, I.loc, I.cell, I.free, I.freeC, I.pin, I.hok, I.len⟩
end
theorem fnE_of {P : Program} {w : World} {K : PySem.W.Frag} {mg : Str → Option Value} {base : Heap} {k : Nat} {f : Addr} {fd : FuncData} {x qual : Str} {st : Stmt} {N ps ys : List Str} {W : List Nat} {fb : Addr → Str → Addr → FS} (F : Fun K x qual st f fd) (S : FnScope N ps (defScope st))
    (hbody : ∀ (cdv : Value) (A : Around) (outer : List PySem.Env) (s : Shared) (H : Hp) (a : Addr) (oe : Obj) (c : Str) (C dd : Addr), A.guards = some [] → RoomH k (A.deeper (envOfC qual (defScope st) s.heap.objs.size f cdv)) → c ∈ ys → mg c = some (.ref C) → Zc (.ref C) (some dd) oe → (∃ xs, oe.data = .fields xs) →
      DSs ((ctx P w K mg base N qual (defScope st) f cdv A outer s H).suite a ((a, oe) :: [])) W (defBody st) (fb a c dd)) : FnE P w K mg base (k + 1) f fd ps ys (fun a c dd => denOf N.length ps.length W (fb a c dd)) := by
  obtain ⟨_, _, _, _, _, _, cd, _, _, rfl, here, code⟩ := F.ex
  constructor
  intro A outer s H args us vs Q a C dd c oe guards room hot pin hc hmc hz hf e binds rel len sp
  obtain ⟨inK, free⟩ := at_call e
  have names (y : Str × Value) (hy : y ∈ ps.zip us) := (S.par y.1 (List.of_mem_zip (b := y.2) hy).1).imp_right fun c => And.intro c (PySem.W.cellsFrom_some (defScope st).names (s.heap.objs.size + 1) [] (Or.inl c))
  apply codeAny_call_function room.depth (inK _ _ here) rfl S.co S.gen rfl (PySem.W.codeRec_of inK code)
  apply binds
  apply wpAny_newFunctionEnv_cells S.kind names
  rintro _ rfl t call
  have I := inv_suite (inv_startH (CX := CX0) (E := E0) (f := f) (cd := cd) S pin e len rel call)
  have body := body_does (hbody cd A outer s H a oe c C dd guards (room.deeper _) hc hmc hz hf).pss I len sp
  have same : ((ctx P w K mg base N qual (defScope st) f cd A outer s H).suite a ((a, oe) :: [])).A = A.deeper (envOfC qual (defScope st) s.heap.objs.size f cd) := mark_self (A := A.deeper (envOfC qual (defScope st) s.heap.objs.size f cd)) hot
  rw [same] at body
  refine ⟨free.keeps call.toInCall.keep, codeAny_func (wpAny_mono body (fun o t' h => ?_) fun _ _ h => False.elim h)⟩
  have := bodyE_left o t' h
  cases o <;> first | exact this | exact False.elim this
/-- such a def, as its callers see it -/
structure DefE (P : Program) (w : World) (K : PySem.W.Frag) (mg : Str → Option Value) (base : Heap) (x : Str) (k : Nat) (ps ys : List Str) (den : Addr → Str → Addr → Den) : Prop where
  ex : ∃ (f : Addr) (fd : FuncData), FnE P w K mg base k f fd ps ys den ∧ mg x = some (.ref f) ∧ PySem.W.keepIn K (.ref f) = true ∧ Binds K fd ps []
theorem mem_sub {l l' : List Str} {c : Str} (h : (l.all fun x => l'.contains x) = true) (hc : c ∈ l) : c ∈ l' := by
  have := List.all_eq_true.mp h c hc
  exact List.contains_iff_mem.mp this
section
variable {X : Cx} {j k : Nat} {ps ys : List Str} {den : Addr → Str → Addr → Den} {x c : Str} {p pos : Pos} {e : Expr} {es : List Expr} {fr : FA} {a C dd : Addr} {oe : Obj} {pn : List (Addr × Obj)}
theorem run_fnE {f : Addr} {fd : FuncData} {pins : List (Addr × Obj)} {σ : L2.St} {H : Hp} {s : Shared} {Q : VK} {us : List Value} {vs : List V} (F : FnE X.prog X.w X.K X.mg X.base k f fd ps ys den) (hgd : X.A.guards = some []) (hr : RoomH k X.A)
    (hc : c ∈ ys) (hmc : X.mg c = some (.ref C)) (hz : Zc (.ref C) (some dd) oe) (hf : ∃ xs, oe.data = .fields xs) (hb : Binds X.K fd ps [])
    (I : Inv (X.suite a ((a, oe) :: pn)) pins σ H s) (r : Vals vs us) (hl : vs.length = ps.length) (h : spD X.K (den a c dd) vs H Q) : wpAny (model X.prog X.w) (X.suite a ((a, oe) :: pn)).A (call (.ref f) us) (EP (X.suite a ((a, oe) :: pn)) pins σ Q) (X.suite a ((a, oe) :: pn)).xe s := by
  have hb' := hb s us I.kIn (by rw [List.append_nil, ← r.length]; exact hl)
  rw [List.append_nil] at hb'
  have P1 := I.pin (a, oe) (List.mem_append_left _ List.mem_cons_self)
  have pin : PinOk X.stack H s (a, oe) := ⟨P1.1, P1.2.1, fun hm => (List.mem_cons.mp (I.stkSub a hm)).elim P1.2.2.1 P1.2.2.2.1, P1.2.2.2.2⟩
  refine wpAny_call (codeAny_mono (F.run (X.suite a ((a, oe) :: pn)).A X.stack s H ⟨us, []⟩ us vs Q a C dd c oe hgd ⟨hr.dp, hr.un⟩ rfl pin hc hmc hz hf I.env0 hb' r hl h) fun rr s' hq => ?_)
  match rr, hq with
  | .ok (.ret u), hq => exact I.after hq
  | .ok .next, hq => exact False.elim hq
  | .ok .brk, hq => exact False.elim hq
  | .ok .cont, hq => exact False.elim hq
  | .error ee, hq => exact False.elim hq
theorem de_callE (G : DefE X.prog X.w X.K X.mg X.base x j ps ys den) (hgd : X.A.guards = some []) (hr : RoomH k X.A) (hjk : j ≤ k) (hc : c ∈ ys) (hmc : X.mg c = some (.ref C)) (hz : Zc (.ref C) (some dd) oe) (hf : ∃ xs, oe.data = .fields xs) (hg : Gl X x)
    (hn : ∀ (ρ ρ1 : Fm) (rs : List R), fr ρ = some (rs, ρ1) → rs.length = ps.length) (ha : DA (X.suite a ((a, oe) :: pn)) (e :: es) fr) (hdb : (x == ("__debug__" : Str)) = false := by decide)
    (he : starEach (e :: es) X.env = (false, eval e X.env) :: starEach es X.env := by rfl) (hpl : (backTo pos (starEach es X.env)).any (·.1) = false := by rfl) : DE (X.suite a ((a, oe) :: pn)) (.Call (.Name x p) (e :: es) [] pos) (fCallD (den a c dd) fr) := by
  obtain ⟨f, fd, F, hm, hk, hb⟩ := G.ex
  refine ⟨⟨fun pins s σ H Q I h => wpAny_Call_Name_kw (ld_glob (X := X.suite a ((a, oe) :: pn)) I hg hm ?_ hdb)⟩⟩
  refine PySem.W.callWith_K (h₀ := X.base) I.ok.mod.kin hk (thn (ha.pa.run pos pins s σ H _ I (call_core hn h)) fun us s1 hh => ?_) he hpl
  obtain ⟨vs, H1, I1, r, hl, q⟩ := hh
  exact ⟨I1.kIn, run_fnE (X := X) F hgd (hr.mono hjk) hc hmc hz hf hb I1 r hl q⟩
end
end DL
/-! A list of truths: how often a truth is in it. -/
namespace DL
open PySem PySem.Spec L2 PyProof.Rows
def isTr (k : Bool) : Value → Bool
  | .bool b => b == k
  | _ => false
theorem vals_bls : ∀ {bs : List Bool} {us : List Value}, Vals (bs.map V.bl) us → us = bs.map Value.bool
  | [], _, h => by cases h; rfl
  | b :: bs, _, h => by
    cases h with
    | cons h1 h2 =>
      have h1 : _ = Value.bool b := h1
      rw [h1, vals_bls h2]
      rfl
theorem countP_bls (k : Bool) : ∀ bs : List Bool, (bs.map Value.bool).countP (isTr k) = bs.count k
  | [] => rfl
  | b :: bs => by
    rw [List.map_cons, List.countP_cons, List.count_cons, countP_bls k bs]
    rfl
def rCntB (K : PySem.W.Frag) : V → List V → Hp → VK → Prop := fun x xs H Q => ∃ (p : Addr) (bs : List Bool) (k : Bool), x = .ref p ∧ xs = [.bl k] ∧ SqL K H p (bs.map V.bl) ∧ Q (.int (bs.count k : Nat)) H
section
variable {X : Cx}
theorem mt_bcount (hu : X.A.units + 40 < cLine) : MtR X "list.count" (rCntB X.K) := by
  intro pins s σ H x xs val vals Q I rx rxs h
  obtain ⟨p, bs, k, rfl, rfl, hs, q⟩ := h
  cases rx
  obtain ⟨u, rfl, same⟩ := rxs.one
  cases same
  obtain ⟨its, rv, ⟨o, n, ho, hc, hdn, hd⟩, hlen⟩ := I.list hs
  obtain ⟨cls, dd, data, sl⟩ := o
  have hc : cls = _ := hc
  have hd : data = _ := hd
  subst hc hd
  have e1 := vals_bls rv
  subst e1
  have room : X.A.in1.units + 2 < cLine := by
    show X.A.units + 1 + 2 < _
    omega
  refine call_meets PySem.F.slot_list_count ⟨_, ho, rfl⟩ PySem.F.entry_list_count (PySem.F.args_list_count_2 _ _) (SeqAt.list_countAt p (bs.map Value.bool).toArray n dd sl (.bool k) (isTr k)) ⟨ho, fun y hy => ?_, ?_⟩
  · obtain ⟨b, _, rfl⟩ := List.mem_map.mp (show y ∈ bs.map Value.bool by simpa using hy)
    exact SeqAt.eqAt_reads (.bool b) (.bool k) _ _ _ _ [] [] (.bool b) (.bool k) rfl rfl (by
      have : min (PyData.depth (.bool b)) (PyData.depth (.bool k)) ≤ 1 := by
        refine Nat.le_trans (Nat.min_le_left _ _) ?_
        cases b <;> decide
      omega)
  · refine ⟨.int (bs.count k : Nat), H, I.tok _, ⟨s.toks, ?_⟩, q⟩
    show Value.int (((bs.map Value.bool).toArray.toList.countP (isTr k) : Nat) : Int) s.toks = Value.int ((bs.count k : Nat) : Int) s.toks
    rw [show (bs.map Value.bool).toArray.toList = bs.map Value.bool from rfl, countP_bls]
end
def dCntB : D → List D → Option D
  | x, [.bl k] => (lstOf x).bind fun ds => (blsOf ds).map fun bs => .int (bs.count k : Nat)
  | _, _ => none
def fCountB (fo : FE) (fr : FA) : FE := fun ρ => ((fo ρ).bind fun (x, ρ1) => (cont ρ1 x).bind lstOf).bind fun _ => fMethR dCntB fo fr ρ
section
variable {K : PySem.W.Frag} {X : Cx}
theorem ms_cntB : MethS K (rCntB K) dCntB := fun {H d v p ds vs z Q} r a e k => by
  match ds, e with
  | [.bl j], e =>
    have e : ((lstOf d).bind fun ds => (blsOf ds).map fun bs => D.int (bs.count j : Nat)) = some z := e
    obtain ⟨es, e1, e⟩ := Option.bind_eq_some_iff.mp e
    obtain ⟨ns, e2, rfl⟩ := Option.map_eq_some_iff.mp e
    obtain ⟨w, q, rfl, rw⟩ := a.one
    obtain ⟨b, ws, g, rfl, hs, rl, _⟩ := r.sqL e1
    have same := rl.bls e2
    subst same
    exact ⟨b, ns, j, rfl, by rw [rw.1], hs, k.flat ⟨rfl, rfl⟩⟩
theorem de_cntB {E : Expr} {fo : FE} {fr : FA} (hl : PE X E (tBM X.K "list" (rCntB X.K) (rdE X.K fo) (rdA X.K fr))) : DE X E (fCountB fo fr) :=
  ⟨pe_weak hl fun σ H Q ⟨ρ, F, r, ρ2, E, nd, ef, k⟩ => by
    obtain ⟨ds0, q1, q2⟩ := Option.bind_eq_some_iff.mp ef
    obtain ⟨x, ρ1, d0, rs, d, ds, z, a1, a0, a2, a3, a4, a5, rfl⟩ := fMethR_some q2
    rw [a1] at q1
    have q1 : (cont ρ1 x).bind lstOf = some ds0 := q1
    rw [a0] at q1
    exact meth_of (T := fun v H => tyV X.K "list" v H) ms_cntB E nd a1 a0 a2 a3 a4 a5 (tyV_lst (show lstOf d0 = some ds0 from q1)) k⟩
end
end DL
/-! try with two clauses, both with the same name. -/
namespace DL
open PySem PySem.Spec L2
open PyProof.Rows (AllBare)
section
variable {X : Cx} {pins : List (Addr × Obj)} {B : Heap} {a : Addr} {cls : Value} {d : Option Addr} {σ : L2.St} {H : Hp} {s : Shared}
/-- an exception is caught and lies at a -/
structure Got (X : Cx) (pins : List (Addr × Obj)) (B : Heap) (a : Addr) (cls : Value) (d : Option Addr) (σ : L2.St) (H : Hp) (s : Shared) : Prop where
  fly : HandSPX.FlyingZ B (X.env :: X.outer) a (Zc cls d) s.heap
  free : H a = none
  keep : ∀ h : Heap, B.StaysIn h → s.heap.UpToSlots h → Inv X pins σ H { s with heap := h }
theorem Got.inv (G : Got X pins B a cls d σ H s) : Inv X pins σ H s := G.keep s.heap G.fly.1 (.refl _)
theorem Got.off (G : Got X pins B a cls d σ H s) (hf : X.env.frame = some X.env.locals) : a ≠ X.env.locals ∧ a ∉ X.fs := by
  obtain ⟨o, vs, e, _, dt⟩ := G.fly.there
  have out : a ∉ frs (X.env :: X.outer) := fun m => by
    obtain ⟨_, o', e', no⟩ := G.fly.2.2.1.mem m
    exact no vs ((Option.some.inj (e'.symm.trans e)) ▸ dt)
  constructor
  · intro z
    exact out (List.mem_filterMap.mpr ⟨_, List.mem_cons_self, hf.trans (congrArg some z.symm)⟩)
  · intro m
    obtain ⟨v, hv, q⟩ := List.mem_filterMap.mp m
    exact out (List.mem_filterMap.mpr ⟨v, List.mem_cons_of_mem _ hv, q⟩)
/-- in the clauses the exception's object stands still -/
theorem Got.stand (G : Got X pins B a cls d σ H s) (hf : X.env.frame = some X.env.locals) : ∃ oe : Obj, Zc cls d oe ∧ (∃ vs, oe.data = .fields vs) ∧ s.heap.get? a = some oe ∧ Inv (X.suite a ((a, oe) :: (X.pn ++ pins))) [] σ H s := by
  obtain ⟨oe, vs, e, z, dt⟩ := G.fly.there
  exact ⟨oe, z, ⟨vs, dt⟩, e, G.inv.suite e dt G.free (G.off hf).1 (G.off hf).2⟩
/-- what the body lets go is caught -/
theorem got_of {W : WX} {xe : Value → Shared → Prop} {u : Value} {Q : Unit → Shared → Prop} {E : Value → Shared → Prop} (ok : X.Ok) (hs : X.stack = X.env :: X.outer) (hf : X.env.frame = some X.env.locals)
    (x : XE (X.tr (X.pn ++ pins) xe) W u s) (go : ∀ (B : Heap) (a : Addr) (cls : Value) (d : Option Addr) (σ : L2.St) (H : Hp) (s2 : Shared), u = .ref a → Got X pins B a cls d σ H s2 → W cls d σ H → Q () s2) :
    wpAny (model X.prog X.w) X.A (noteFrame u X.env) (fun _ t => wpAny (model X.prog X.w) X.A (setFlight u none) Q E t) E s := by
  obtain ⟨b, B, s0, ps, τ, G, k, e, rfl, I, there, upTo, air, nb, same, calm, want⟩ := x
  have I0 : Inv X pins τ G s0 := I.ofTry ok
  have air : Sky B (X.env :: X.outer) b (Zc k e) X.env.locals s.heap := hs ▸ air
  exact Sky.land Zc.steady (ok.frames.trans (congrArg some hs)) hf air fun h fl up => go B b k e τ G _ rfl ⟨fl, nb, fun h2 st up2 => I0.landed there st ((upTo.trans up).trans up2) same calm⟩ want
section
variable {x n : Str} {c : Value} {np pos' : Pos} {body : List Stmt} {rest : List ExceptHandler} {Q : Flow → Shared → Prop} {E : Value → Shared → Prop} {i : Nat}
/-- one clause is asked -/
theorem Got.asked (G : Got X pins B a cls d σ H s) (hf : X.env.frame = some X.env.locals) (hc : Names X x c) {b : Bool} (he : PySem.W.exmOne X.K cls c = some b)
    (yes : b = true → codeAny (model X.prog X.w) (X.A.mark (some (.ref a))) (.handlers (.ref a) [.ExceptHandler none (some n) body pos'] X.env) (fun r t => match r with
      | .ok f => wpAny (model X.prog X.w) X.A (do bindName X.env n .none; unbindBehindTheSuite X.env n pos') (fun _ t2 => Q f t2) E t
      | .error y => cameBackBy (model X.prog X.w) X.A X.env E y t) s)
    (no : b = false → wpAny (model X.prog X.w) X.A (handleBy (.ref a) X.env rest) Q E s) :
    wpAny (model X.prog X.w) X.A (handleBy (.ref a) X.env (.ExceptHandler (some (.Name x np)) (some n) body pos' :: rest)) Q E s := by
  obtain ⟨oe, z, _, e, S⟩ := G.stand hf
  have kind : PySem.W.Looks (model X.prog X.w) s.heap (typeOf (.ref a)) cls := fun _ _ _ _ k q => wpAny_typeOf_ref (k _ _ e) (by rw [z.1]; exact q)
  have told := PySem.W.exm_one (M := model X.prog X.w) G.inv.kIn kind he
  apply wpAny_handleBy_cons
  · apply codeAny_handlers_test
    have then_ : ∀ {R : Bool → Shared → Prop} {N : Value → Shared → Prop}, R b s → wpAny (model X.prog X.w) (X.A.mark (some (.ref a))) (excMatches (.ref a) c) R N s := fun q => told.here q
    have ask : ∀ {R : Value → Shared → Prop} {N : Value → Shared → Prop}, R c s → wpAny (model X.prog X.w) (X.A.mark (some (.ref a))) (eval (.Name x np) X.env) R N s := fun q => by
      obtain ⟨gl, nd, w | ⟨w1, w2, w3⟩⟩ := hc
      · exact ld_glob S gl w q nd
      · exact ld_blt S gl w1 w2 q w3 nd
    refine ask (then_ ?_)
    cases b
    · exact no rfl
    · exact yes rfl
  · intro q; cases q
/-- the suite of a clause with a name runs to its end, the name goes -/
theorem Got.runs {D : Ends} {b₀ : Stmt} {t : TS} (G : Got X pins B a cls d σ H s) (hf : X.env.frame = some X.env.locals) (hN : X.N.Nodup) (hi : X.N[i]? = some n) (hln : X.env.kindOf n = some .local)
    (su : ∀ oe : Obj, Zc cls d oe → (∃ vs, oe.data = .fields vs) → PSs (X.suite a ((a, oe) :: (X.pn ++ pins))) (b₀ :: body) t)
    (w : t { nx := fun τ G' => D.nx (τ.set i none) G', rt := D.rt, bk := fun τ G' => D.bk (τ.set i none) G', ct := fun τ G' => D.ct (τ.set i none) G' } (σ.set i (some (.ref a))) H) :
    codeAny (model X.prog X.w) (X.A.mark (some (.ref a))) (.handlers (.ref a) [.ExceptHandler none (some n) (b₀ :: body) pos'] X.env) (fun r t => match r with
      | .ok f => wpAny (model X.prog X.w) X.A (do bindName X.env n .none; unbindBehindTheSuite X.env n pos') (fun _ t2 => SP X pins D f t2) X.xe t
      | .error y => cameBackBy (model X.prog X.w) X.A X.env X.xe y t) s := by
  have ok := G.inv.ok
  apply codeAny_handlers_suite_as
  refine HandSPX.lands_againZ G.fly fun h fl up => ?_
  have G2 : Got X pins B a cls d σ H { s with heap := h } := ⟨fl, G.free, fun h2 st up2 => G.keep h2 st (up.trans up2)⟩
  obtain ⟨oe, z, dt, _, S⟩ := G2.stand hf
  have put : ∀ {R : Unit → Shared → Prop} {N : Value → Shared → Prop}, (∀ s3, Inv (X.suite a ((a, oe) :: (X.pn ++ pins))) [] (σ.set i (some (.ref a))) H s3 → R () s3) → wpAny (model X.prog X.w) (X.A.mark (some (.ref a))) (storeName X.env n (.ref a)) R N { s with heap := h } := fun r => store_ok (v := .ref a) (X := X.suite a ((a, oe) :: (X.pn ++ pins))) S hN hi (.inl hln) rfl r (.inr hln)
  refine put fun s3 S3 => ?_
  have gone : ∀ {τ : L2.St} {G' : Hp} {u : Shared} {R : Shared → Prop}, Inv (X.suite a ((a, oe) :: (X.pn ++ pins))) [] τ G' u → (∀ u2, Inv X pins (τ.set i none) G' u2 → R u2) →
      wpAny (model X.prog X.w) X.A (do bindName X.env n .none; unbindBehindTheSuite X.env n pos') (fun _ u2 => R u2) X.xe u := fun S4 r => gone_ok (S4.unsuite ok) hN hi hln r
  refine wpAny_mono ((su oe z dt).run [] s3 _ H _ S3 w) ?_ fun _ _ z => z.elim
  intro f u r
  match f, r with
  | .next, ⟨_, _, S4, q⟩ => exact gone S4 fun u2 J => ⟨_, _, J, q⟩
  | .brk, ⟨_, _, S4, q⟩ => exact gone S4 fun u2 J => ⟨_, _, J, q⟩
  | .cont, ⟨_, _, S4, q⟩ => exact gone S4 fun u2 J => ⟨_, _, J, q⟩
  | .ret v, ⟨_, _, _, S4, rv, q⟩ => exact gone S4 fun u2 J => ⟨_, _, _, J, rv, q⟩
end
end
/-- which clause takes it: the first one, or else the second one -/
def wTwo (K : PySem.W.Frag) (c1 c2 : Value) (i : Nat) (t1 t2 : Addr → Value → Option Addr → TS) (D : Ends) : WX := fun cls d σ H =>
  (PySem.W.exmOne K cls c1 = some true ∧ ∀ a, H a = none → t1 a cls d { nx := fun τ G' => D.nx (τ.set i none) G', rt := D.rt, bk := fun τ G' => D.bk (τ.set i none) G', ct := fun τ G' => D.ct (τ.set i none) G' } (σ.set i (some (.ref a))) H) ∨
  (PySem.W.exmOne K cls c1 = some false ∧ PySem.W.exmOne K cls c2 = some true ∧ ∀ a, H a = none → t2 a cls d { nx := fun τ G' => D.nx (τ.set i none) G', rt := D.rt, bk := fun τ G' => D.bk (τ.set i none) G', ct := fun τ G' => D.ct (τ.set i none) G' } (σ.set i (some (.ref a))) H)
section
variable {X : Cx} {x1 x2 n : Str} {c1 c2 : Value} {i : Nat} {body s1 s2 : List Stmt} {b1 b2 : Stmt} {np1 np2 pos p1 p2 : Pos} {tb : WX → TS} {t1 t2 : Addr → Value → Option Addr → TS}
theorem ps_try_two (hs : X.stack = X.env :: X.outer) (hf : X.env.frame = some X.env.locals) (hN : X.N.Nodup) (hi : X.N[i]? = some n) (hln : X.env.kindOf n = some .local) (hc1 : Names X x1 c1) (hc2 : Names X x2 c2)
    (hb : ∀ (W : WX) (pn : List (Addr × Obj)) (xe : Value → Shared → Prop), Takes (X.tr pn xe) W → PSs (X.tr pn xe) body (tb W))
    (h1 : ∀ (a : Addr) (oe : Obj) (cls : Value) (d : Option Addr) (pn : List (Addr × Obj)), Zc cls d oe → (∃ vs, oe.data = .fields vs) → PSs (X.suite a ((a, oe) :: pn)) (b1 :: s1) (t1 a cls d))
    (h2 : ∀ (a : Addr) (oe : Obj) (cls : Value) (d : Option Addr) (pn : List (Addr × Obj)), Zc cls d oe → (∃ vs, oe.data = .fields vs) → PSs (X.suite a ((a, oe) :: pn)) (b2 :: s2) (t2 a cls d)) :
    PS X (.Try body [.ExceptHandler (some (.Name x1 np1)) (some n) (b1 :: s1) p1, .ExceptHandler (some (.Name x2 np2)) (some n) (b2 :: s2) p2] [] [] pos) (fun D σ H => tb (wTwo X.K c1 c2 i t1 t2 D) D σ H) := by
  constructor
  intro pins s σ H D I h
  have ok := I.ok
  apply wpAny_Try_except
  have run := (hb (wTwo X.K c1 c2 i t1 t2 D) (X.pn ++ pins) _ fun u t x => got_of (Q := fun _ t3 => wpAny (model X.prog X.w) X.A (handleBy u X.env [.ExceptHandler (some (.Name x1 np1)) (some n) (b1 :: s1) p1, .ExceptHandler (some (.Name x2 np2)) (some n) (b2 :: s2) p2]) (SP X pins D) X.xe t3) (E := X.xe) ok hs hf x fun B a cls d τ G s2 eu got w => by
    subst eu
    rcases w with ⟨e, w⟩ | ⟨e, e2, w⟩
    · exact got.asked hf hc1 e (fun _ => got.runs hf hN hi hln (fun oe z f => h1 a oe cls d _ z f) (w a got.free)) fun z => nomatch z
    · exact got.asked hf hc1 e (fun z => nomatch z) fun _ => got.asked hf hc2 e2 (fun _ => got.runs hf hN hi hln (fun oe z f => h2 a oe cls d _ z f) (w a got.free)) fun z => nomatch z).run [] s σ H D (I.toTry _) h
  refine wpAny_mono run ?_ fun _ _ q => q
  intro f t q
  match f, q with
  | .next, ⟨τ, G, J, q⟩ => exact wpAny_execs_nil ⟨τ, G, J.ofTry ok, q⟩
  | .brk, ⟨τ, G, J, q⟩ => exact ⟨τ, G, J.ofTry ok, q⟩
  | .cont, ⟨τ, G, J, q⟩ => exact ⟨τ, G, J.ofTry ok, q⟩
  | .ret v, ⟨u, τ, G, J, r, q⟩ => exact ⟨u, τ, G, J.ofTry ok, r, q⟩
end
/-- the clause of class x does not take exceptions of each of ys -/
structure HnX (K : PySem.W.Frag) (mg : Str → Option Value) (x : Str) (ys : List Str) : Prop where
  ex : ∃ C : Addr, mg x = some (.ref C) ∧ ∀ y ∈ ys, ∀ Cy : Addr, mg y = some (.ref Cy) → PySem.W.exmOne K (.ref Cy) (.ref C) = some false
section
variable {X : Cx} {x1 x2 n : Str} {y1 y2 : List Str} {i : Nat} {body s1 s2 : List Stmt} {b1 b2 : Stmt} {np1 np2 pos p1 p2 : Pos} {fb : FSX} {f1 f2 : Addr → Str → Addr → FS} {W1 W2 W3 : List Nat}
open Classical in
theorem ds_tryAs2 (hh1 : HdX X.K X.mg x1 y1) (hh2 : HdX X.K X.mg x2 y2) (hn : HnX X.K X.mg x1 y2) (hN : X.N.Nodup) (hi : X.N[i]? = some n) (hln : X.env.kindOf n = some .local) (hg1 : Gl X x1) (hg2 : Gl X x2) (hs : X.stack = X.env :: X.outer) (hf : X.env.frame = some X.env.locals)
    (hb : ∀ (Wx : WX) (pn : List (Addr × Obj)) (xe : Value → Shared → Prop), Takes (X.tr pn xe) Wx → DSsX (X.tr pn xe) Wx W1 body fb)
    (hs1 : ∀ (a : Addr) (oe : Obj) (c : Str) (C dd : Addr) (pn : List (Addr × Obj)), c ∈ y1 → X.mg c = some (.ref C) → Zc (.ref C) (some dd) oe → (∃ vs, oe.data = .fields vs) → DSs (X.suite a ((a, oe) :: pn)) W2 (b1 :: s1) (f1 a c dd))
    (hs2 : ∀ (a : Addr) (oe : Obj) (c : Str) (C dd : Addr) (pn : List (Addr × Obj)), c ∈ y2 → X.mg c = some (.ref C) → Zc (.ref C) (some dd) oe → (∃ vs, oe.data = .fields vs) → DSs (X.suite a ((a, oe) :: pn)) W3 (b2 :: s2) (f2 a c dd))
    (d1 : (x1 == ("__debug__" : Str)) = false := by decide) (d2 : (x2 == ("__debug__" : Str)) = false := by decide) :
    DS X (W1 ++ (i :: (W2 ++ W3))) (.Try body [.ExceptHandler (some (.Name x1 np1)) (some n) (b1 :: s1) p1, .ExceptHandler (some (.Name x2 np2)) (some n) (b2 :: s2) p2] [] [] pos)
      (fTryAs fb (y1 ++ y2) i (fun a c dd => if c ∈ y1 then f1 a c dd else f2 a c dd)) := by
  obtain ⟨C1, hm1, tab1⟩ := hh1.ex
  obtain ⟨C2, hm2, tab2⟩ := hh2.ex
  obtain ⟨C3, hm3, tabn⟩ := hn.ex
  obtain rfl : C1 = C3 := by rw [hm1] at hm3; cases hm3; rfl
  refine ⟨ps_weak (ps_try_two (c1 := .ref C1) (c2 := .ref C2) (i := i) (tb := fun Wx => rdSX X.K X.mg Wx W1 fb)
    (t1 := fun a cls d Dn σ H => ∃ (c : Str) (C dd : Addr), (c ∈ y1 ∧ X.mg c = some (.ref C) ∧ cls = .ref C ∧ d = some dd) ∧ rdS X.K W2 (f1 a c dd) Dn σ H)
    (t2 := fun a cls d Dn σ H => ∃ (c : Str) (C dd : Addr), (c ∈ y2 ∧ X.mg c = some (.ref C) ∧ cls = .ref C ∧ d = some dd) ∧ rdS X.K W3 (f2 a c dd) Dn σ H)
    hs hf hN hi hln ⟨hg1, d1, .inl hm1⟩ ⟨hg2, d2, .inl hm2⟩ (fun Wx pn xe tk => (hb Wx pn xe tk).pss) (fun a oe cls d pn hz hfl => ⟨fun pins s σ H Dn I h => ?_⟩) (fun a oe cls d pn hz hfl => ⟨fun pins s σ H Dn I h => ?_⟩)) ?_⟩
  · obtain ⟨c, C', dd, ⟨hy, hmc, rfl, rfl⟩, h⟩ := h
    exact (hs1 a oe c C' dd pn hy hmc hz hfl).pss.run pins s σ H Dn I h
  · obtain ⟨c, C', dd, ⟨hy, hmc, rfl, rfl⟩, h⟩ := h
    exact (hs2 a oe c C' dd pn hy hmc hz hfl).pss.run pins s σ H Dn I h
  rintro Dn σ H ⟨ρ, F, o, ρ2, E, nd, run, fin⟩
  obtain ⟨⟨o1, ρ1⟩, e1, rest⟩ := Option.bind_eq_some_iff.mp run
  refine ⟨ρ, F, o1, ρ1, E, nd, e1, ?_⟩
  match o1, rest with
  | .go o1, rest =>
    cases rest
    exact Post.mono fin fun j hj => List.mem_append_left _ hj
  | .up y, rest =>
    have rest : (if h : y.cls ∈ y1 ++ y2 ∧ i < ρ1.length ∧ ∃ r, fSuite i y (fun a c dd => if c ∈ y1 then f1 a c dd else f2 a c dd) ρ1 r then some h.2.2.choose else none) = some (o, ρ2) := rest
    by_cases c : y.cls ∈ y1 ++ y2 ∧ i < ρ1.length ∧ ∃ r, fSuite i y (fun a c dd => if c ∈ y1 then f1 a c dd else f2 a c dd) ρ1 r
    · rw [dif_pos c] at rest
      have spec := c.2.2.choose_spec
      rw [Option.some.inj rest] at spec
      intro σ1 still cls d H1 F1 xr E1 N1 S1
      obtain ⟨Cy, dd, ws, hy, rfl, rfl, hx, rk, im⟩ := xr
      have key : ∀ (a : Addr), ∃ (ρ3 : Fm) (F2 : List Addr), ρ3.set i none = ρ2 ∧ (if y.cls ∈ y1 then f1 a y.cls dd else f2 a y.cls dd) (ρ1.set i (some (.exc a y.cls dd y.fs))) = some (o, ρ3) ∧
          EnvR X.K H1 (ρ1.set i (some (.exc a y.cls dd y.fs))) (σ1.set i (some (.ref a))) F2 ∧ F2.Nodup ∧ Step H F H1 F2 := fun a => by
        obtain ⟨ρ3, run3, drop3⟩ := spec a dd
        have li : i < σ1.length := by rw [E1.length]; exact c.2.1
        obtain ⟨G1, g, G3, rfl, Ed⟩ := E1.drop (i := i)
        have Ed2 : EnvR X.K H1 (ρ1.set i none) (σ1.set i (some (.ref a))) (G1 ++ G3) := Ed.other
        obtain ⟨A1, A3, eA, Ep⟩ := Ed2.put (d := .exc a y.cls dd y.fs) (f := []) c.2.1 (List.getElem?_set_self li) ⟨ws, rfl, hx, rk⟩
        have nA : (A1 ++ ([] ++ A3)).Nodup := by
          have : (G1 ++ G3).Nodup := N1.sublist (List.Sublist.append_left (List.sublist_append_right _ _) _)
          rw [eA] at this
          simpa using this
        refine ⟨ρ3, _, drop3, run3, Ep, nA, S1.to fun b hb => .inl ?_⟩
        have hb2 : b ∈ G1 ++ G3 := by rw [eA]; simpa using hb
        simp only [List.mem_append] at hb2 ⊢
        exact hb2.imp id .inr
      by_cases q : y.cls ∈ y1
      · refine .inl ⟨tab1 _ q Cy hy, fun a _ => ⟨y.cls, Cy, dd, ⟨q, hy, rfl, rfl⟩, ?_⟩⟩
        obtain ⟨ρ3, F2, d3, r3, E3, N3, S3⟩ := key a
        rw [if_pos q] at r3
        subst d3
        refine ⟨_, F2, o, ρ3, E3, N3, r3, drop_post (Post.mono (Post.after fin S3 still) fun j hj => ?_)⟩
        rcases List.mem_cons.1 hj with z | z
        · rw [z]; exact List.mem_cons_self
        · exact List.mem_cons_of_mem _ (List.mem_append_left _ z)
      · have q2 : y.cls ∈ y2 := (List.mem_append.1 c.1).resolve_left q
        refine .inr ⟨tabn _ q2 Cy hy, tab2 _ q2 Cy hy, fun a _ => ⟨y.cls, Cy, dd, ⟨q2, hy, rfl, rfl⟩, ?_⟩⟩
        obtain ⟨ρ3, F2, d3, r3, E3, N3, S3⟩ := key a
        rw [if_neg q] at r3
        subst d3
        refine ⟨_, F2, o, ρ3, E3, N3, r3, drop_post (Post.mono (Post.after fin S3 still) fun j hj => ?_)⟩
        rcases List.mem_cons.1 hj with z | z
        · rw [z]; exact List.mem_cons_self
        · exact List.mem_cons_of_mem _ (List.mem_append_right _ z)
    · rw [dif_neg c] at rest
      cases rest
end
end DL
/-! repr of things that hold dicts; a dict of pairs. -/
namespace DL
open PySem PySem.Spec L2
section
variable {P : Program} {w : World} {h : Heap}
/-- the value is this thing, and what is shown of it -/
def Sh1 (P : Program) (w : World) (h : Heap) (u : Value) (x : PyData) : Prop := (∃ as, Reads h u x as) ∧
  (x.showable = true → x.shown.length ≤ sizeLine → ∃ bs, ReadAtMost h x.depth bs ∧ ReprK P w bs h x.depth u x.shown)
def ShL (P : Program) (w : World) (h : Heap) (us : List Value) (xs : List PyData) : Prop := (∃ as, ReadsAll h us xs as) ∧
  (PyData.showableAll xs = true → (∀ t ∈ PyData.shownAll xs, t.length ≤ sizeLine) → ∃ bs, ReadAtMost h (PyData.depthAll xs) bs ∧ ReprAllK P w bs h (PyData.depthAll xs) us (PyData.shownAll xs))
def ShK (P : Program) (w : World) (h : Heap) (es : List DictEntry) (kvs : List (PyData × PyData)) : Prop := ((∃ as, ReadsAll h (es.map (·.key)) (kvs.map (·.1)) as) ∧ ∃ as, ReadsAll h (es.map (·.val)) (kvs.map (·.2)) as) ∧
  (PyData.showableKv kvs = true → (∀ t ∈ PyData.shownKv kvs, t.length ≤ sizeLine) → ∃ bs, ReadAtMost h (PyData.depthKv kvs) bs ∧ ReprEntriesK P w bs h (PyData.depthKv kvs) es (PyData.shownKv kvs))
theorem Sh1.non : Sh1 P w h .none .none := ⟨⟨_, Reads.none⟩, fun _ _ => ⟨[], (fun _ hb => nomatch hb), by rw [PyData.shown]; exact .of_is .none _ _ _⟩⟩
theorem Sh1.bl (b : Bool) : Sh1 P w h (.bool b) (.bool b) := ⟨⟨_, Reads.bool b⟩, fun _ _ => ⟨[], (fun _ hb => nomatch hb), by rw [PyData.shown]; exact .of_is (.bool b) _ _ _⟩⟩
theorem Sh1.int (i : Int) (t : Tok) : Sh1 P w h (.int i t) (.int i) := ⟨⟨_, Reads.int i t⟩, fun hs _ => ⟨[], (fun _ hb => nomatch hb), by
  rw [PyData.showable, decide_eq_true_eq] at hs
  rw [PyData.shown]
  exact .of_is (.int t hs) _ _ _⟩⟩
theorem Sh1.str (x : Str) (t : Tok) : Sh1 P w h (.str x t) (.str x) := ⟨⟨_, Reads.str x t⟩, fun _ hz => ⟨[], (fun _ hb => nomatch hb), by
  rw [PyData.shown] at hz ⊢
  exact .of_is (.str x t hz) _ _ _⟩⟩
theorem ShL.nil : ShL P w h [] [] := ⟨⟨_, .nil⟩, fun _ _ => ⟨[], (fun _ hb => nomatch hb), by rw [PyData.shownAll]; exact .nil⟩⟩
theorem most_join {n m k : Nat} {b c : List Addr} (h1 : ReadAtMost h n b) (h2 : ReadAtMost h m c) (hn : n ≤ k) (hm : m ≤ k) : ReadAtMost h k (b ++ c) := (h1.mono hn).append (h2.mono hm)
theorem ShL.cons {u : Value} {x : PyData} {us : List Value} {xs : List PyData} (h1 : Sh1 P w h u x) (h2 : ShL P w h us xs) : ShL P w h (u :: us) (x :: xs) := by
  obtain ⟨⟨as, r1⟩, s1⟩ := h1
  obtain ⟨⟨bs, r2⟩, s2⟩ := h2
  refine ⟨⟨_, .cons r1 r2⟩, fun hs hz => ?_⟩
  rw [PyData.showableAll, Bool.and_eq_true] at hs
  rw [PyData.shownAll] at hz ⊢
  rw [PyData.depthAll]
  obtain ⟨c1, m1, k1⟩ := s1 hs.1 (hz _ (List.mem_cons_self ..))
  obtain ⟨c2, m2, k2⟩ := s2 hs.2 fun t ht => hz t (List.mem_cons_of_mem _ ht)
  refine ⟨c1 ++ c2, most_join m1 m2 (Nat.le_max_left _ _) (Nat.le_max_right _ _), ?_⟩
  exact .cons ((k1.more fun _ => List.mem_append_left _).level_le (Nat.le_max_left _ _)) (k2.more_le (fun _ => List.mem_append_right _) (Nat.le_max_right _ _))
theorem ShK.nil : ShK P w h [] [] := ⟨⟨⟨_, .nil⟩, ⟨_, .nil⟩⟩, fun _ _ => ⟨[], (fun _ hb => nomatch hb), by rw [PyData.shownKv]; exact .nil⟩⟩
theorem ReprEntriesK.wider {as bs : List Addr} {d d' : Nat} (hs : ∀ b ∈ as, b ∈ bs) (hd : d ≤ d') : ∀ {es : List DictEntry} {ps : List Str}, ReprEntriesK P w as h d es ps → ReprEntriesK P w bs h d' es ps
  | _, _, .nil => .nil
  | _, _, .cons a b r => .cons ((a.more hs).level_le hd) ((b.more hs).level_le hd) (ReprEntriesK.wider hs hd r)
theorem ShK.cons {e : DictEntry} {k v : PyData} {es : List DictEntry} {kvs : List (PyData × PyData)} (hk : Sh1 P w h e.key k) (hv : Sh1 P w h e.val v) (hr : ShK P w h es kvs) : ShK P w h (e :: es) ((k, v) :: kvs) := by
  obtain ⟨⟨_, r1⟩, s1⟩ := hk
  obtain ⟨⟨_, r2⟩, s2⟩ := hv
  obtain ⟨⟨⟨_, r3⟩, ⟨_, r4⟩⟩, s3⟩ := hr
  refine ⟨⟨⟨_, .cons r1 r3⟩, ⟨_, .cons r2 r4⟩⟩, fun hs hz => ?_⟩
  rw [PyData.showableKv, Bool.and_eq_true, Bool.and_eq_true] at hs
  rw [PyData.shownKv] at hz ⊢
  rw [PyData.depthKv]
  have z1 := hz _ (List.mem_cons_self ..)
  rw [strLen_append, strLen_append] at z1
  obtain ⟨c1, m1, k1⟩ := s1 hs.1.1 (by omega)
  obtain ⟨c2, m2, k2⟩ := s2 hs.1.2 (by omega)
  obtain ⟨c3, m3, k3⟩ := s3 hs.2 fun t ht => hz t (List.mem_cons_of_mem _ ht)
  refine ⟨(c1 ++ c2) ++ c3, most_join (most_join m1 m2 (Nat.le_max_left _ _) (Nat.le_max_right _ _)) m3 (Nat.le_max_left _ _) (Nat.le_max_right _ _), ?_⟩
  refine .cons ((k1.more fun b hb => ?_).level_le ?_) ((k2.more fun b hb => ?_).level_le ?_) (ReprEntriesK.wider (fun b hb => ?_) ?_ k3)
  · simp [hb]
  · omega
  · simp [hb]
  · omega
  · simp [hb]
  · omega
section
variable {a : Addr} {o : Obj} {us : List Value} {n : Nat} {xs : List PyData}
theorem ShL.list (h1 : h.get? a = some o) (h2 : o.cls = .type "list") (h3 : o.data = .seq us.toArray n) (r : ShL P w h us xs) : Sh1 P w h (.ref a) (.list xs) := by
  obtain ⟨⟨as, rd⟩, sh⟩ := r
  have R : Reads h (.ref a) (.list xs) (a :: as) := .list h1 h2 h3 rd
  refine ⟨⟨_, R⟩, fun hs hz => ?_⟩
  rw [PyData.showable] at hs
  rw [PyData.shown] at hz ⊢
  obtain ⟨bs, hb, hk⟩ := sh hs fun t ht => Nat.le_trans (listText_mem_le ht) hz
  have top : a ∉ bs := not_mem_of_deeper R (by rw [PyData.depth]; exact Nat.lt_succ_self _) hb
  refine ⟨a :: bs, ReadAtMost.cons R (by rw [PyData.depth]; exact Nat.le_succ _) hb, ?_⟩
  rw [PyData.depth]
  cases us with
  | nil =>
    cases rd
    rw [PyData.shownAll, listText_nil]
    exact .listEmpty h1 h2 h3
  | cons u us => exact .list h1 h2 h3 top (by rw [hk.length_eq]; simp) fun i y e => hk.item i y (by rw [← e]; simp)
theorem ShL.tuple (h1 : h.get? a = some o) (h2 : o.cls = .type "tuple") (h3 : o.data = .seq us.toArray n) (r : ShL P w h us xs) : Sh1 P w h (.ref a) (.tuple xs) := by
  obtain ⟨⟨as, rd⟩, sh⟩ := r
  have R : Reads h (.ref a) (.tuple xs) as := .tuple h1 h2 h3 rd
  refine ⟨⟨_, R⟩, fun hs hz => ?_⟩
  rw [PyData.showable] at hs
  rw [PyData.shown] at hz ⊢
  obtain ⟨bs, hb, hk⟩ := sh hs fun t ht => Nat.le_trans (tupleText_mem_le ht) hz
  have top : a ∉ bs := not_mem_of_deeper R (by rw [PyData.depth]; exact Nat.lt_succ_self _) hb
  refine ⟨a :: bs, ReadAtMost.cons R (by rw [PyData.depth]; exact Nat.le_succ _) hb, ?_⟩
  rw [PyData.depth]
  exact .tuple h1 h2 h3 top hk
theorem ShK.dict {es : Array DictEntry} {kvs : List (PyData × PyData)} (h1 : h.get? a = some o) (h2 : o.cls = .type "dict") (h3 : o.data = .dict es n) (far : (a == sysModules) = false) (r : ShK P w h es.toList kvs) : Sh1 P w h (.ref a) (.dict kvs) := by
  obtain ⟨⟨⟨as, ra⟩, ⟨cs, rc⟩⟩, sh⟩ := r
  have R : Reads h (.ref a) (.dict kvs) (a :: as ++ cs) := .dict h1 h2 h3 ra rc
  refine ⟨⟨_, R⟩, fun hs hz => ?_⟩
  rw [PyData.showable] at hs
  rw [PyData.shown] at hz ⊢
  obtain ⟨bs, hb, hk⟩ := sh hs fun t ht => Nat.le_trans (dictText_mem_le ht) hz
  have top : a ∉ bs := not_mem_of_deeper R (by rw [PyData.depth]; exact Nat.lt_succ_self _) hb
  refine ⟨a :: bs, ReadAtMost.cons R (by rw [PyData.depth]; exact Nat.le_succ _) hb, ?_⟩
  rw [PyData.depth]
  exact .dict h1 h2 h3 far top hk
end
end
mutual
/-- no exception within -/
def noExc : D → Bool
  | .non => true | .bl _ => true | .int _ => true | .str _ => true
  | .tup ds => noExcL ds
  | .lst ds => noExcL ds
  | .flst ds => noExcL ds
  | .dic kvs => noExcK kvs
  | .fdic kvs => noExcK kvs
  | .exc _ _ _ _ => false
def noExcL : List D → Bool
  | [] => true
  | d :: ds => noExc d && noExcL ds
def noExcK : List (Key × D) → Bool
  | [] => true
  | (_, d) :: r => noExc d && noExcK r
end
end DL
/-! repr of things that hold dicts, as a call; dict(..) of pairs. -/
namespace DL
open PySem PySem.Spec L2
/-! ### dict(..) of pairs -/
end DL
namespace DL
open PySem PySem.Spec L2
/-- a number that the top names -/
theorem de_glob {X : Cx} {x : Str} {i : Int} {p : Pos} (hm : ∃ t, X.mg x = some (.int i t)) (hg : Gl X x) (hdb : (x == ("__debug__" : Str)) = false := by decide) : DE X (.Name x p) (fC (.int i)) := by
  obtain ⟨t, e⟩ := hm
  exact de_c (pe_glob hg e (v := .int i) ⟨t, rfl⟩ hdb) fun _ _ => ⟨rfl, rfl⟩
end DL
/-! The meanings that many laws share; printed by gen.py for law k02, then kept. -/
namespace RM
open PySem L2 DL
def b_darts_in_rows : FS := fSeq (fAsg (fLst (fNil)) (fgName 1)) (fSeq (fFor (fSeqI (fFrz (fVar 0))) (fgName 2) (fDrop (fMut isLst mExtend (fpVar 1) (fCons (fCall dList (fCons (fVar 2) (fNil))) (fNil))))) (fRet (fVar 1)))
def d_darts_in_rows : Den := denOf 3 1 [1, 2] b_darts_in_rows
def b_ties_in : FS := fRet (fOp dDiv (fCall dLen (fCons (fCallD d_darts_in_rows (fCons (fVar 0) (fNil))) (fNil))) (fC (.int 2)))
def d_ties_in : Den := denOf 1 1 [] b_ties_in
def b_other_of : FS := fRet (fOp dSub (fOp dAdd (fVar 0) (fC (.int 1))) (fOp dMul (fC (.int 2)) (fOp dMod (fVar 0) (fC (.int 2)))))
def d_other_of : Den := denOf 1 1 [] b_other_of
def b_place_of : FS := fRet (fIndex (fLc [2] (fSeqI (fFrz (fVar 0))) (fgName 2) (fYes) (fOp dIn (fVar 1) (fVar 2))) (fCons (fC (.bl true)) (fNil)))
def d_place_of : Den := denOf 3 2 [] b_place_of
def b_next_around : FS := fSeq (fAsg (fOp dSubs (fVar 0) (fCallD d_place_of (fCons (fVar 0) (fCons (fVar 1) (fNil))))) (fgName 2)) (fRet (fOp dSubs (fVar 2) (fOp dMod (fOp dAdd (fIndex (fVar 2) (fCons (fVar 1) (fNil))) (fC (.int 1))) (fCall dLen (fCons (fVar 2) (fNil))))))
def d_next_around : Den := denOf 3 2 [2] b_next_around
def b__law_feed : FS := fRet (fDic (fCons (fC (.str "cells")) (fCons (fFrz (fCut (fVar 0) (foNone) (foSome (fC (.int 63))))) (fCons (fC (.str "at")) (fCons (fC (.int 0)) (fCons (fC (.str "left")) (fCons (fC (.int 0)) (fCons (fC (.str "turn")) (fCons (fC (.int 0)) (fNil))))))))))
def d__law_feed : Den := denOf 1 1 [] b__law_feed
def b__law_draw : FS := fSeq (fAsg (fOp dAdd (fOp dSubs (fVar 0) (fC (.str "turn"))) (fC (.int 1))) (fgName 2)) (fSeq (fStore (fVar 2) (fpVar 0) (fC (.str "turn"))) (fSeq (fIfS (fTest (fOp (dCmp pGt) (fOp dSubs (fVar 0) (fC (.str "left"))) (fC (.int 0)))) (fSeq (fAsg (fOp dMod (fOp dSubs (fVar 0) (fC (.str "left"))) (fVar 1)) (fgName 3)) (fSeq (fStore (fOp dDiv (fOp dSubs (fVar 0) (fC (.str "left"))) (fVar 1)) (fpVar 0) (fC (.str "left"))) (fRet (fVar 3)))) (fSkip)) (fSeq (fAsg (fOp dSubs (fVar 0) (fC (.str "cells"))) (fgName 4)) (fSeq (fAsg (fOp dSubs (fVar 0) (fC (.str "at"))) (fgName 5)) (fSeq (fStore (fOp dAdd (fVar 5) (fC (.int 1))) (fpVar 0) (fC (.str "at"))) (fSeq (fAsg (fIf (fTest (fOp dNe (fVar 4) (fLst (fNil)))) (fOp dSubs (fVar 4) (fOp dMod (fVar 5) (fCall dLen (fCons (fVar 4) (fNil))))) (fC (.int 0))) (fgName 6)) (fSeq (fIfS (fAnd (fTest (fOp (dCmp pGe) (fVar 6) (fOp dPow (fC (.int 10)) (fC (.int 18))))) (fTest (fOp (dCmp pLt) (fVar 5) (fCall dLen (fCons (fVar 4) (fNil)))))) (fSeq (fStore (fOp dDiv (fVar 6) (fVar 1)) (fpVar 0) (fC (.str "left"))) (fRet (fOp dMod (fVar 6) (fVar 1)))) (fSkip)) (fSeq (fAsg (fOp dMod (fOp dMul (fOp dAdd (fOp dMod (fVar 6) (fC (.int 1000000007))) (fC (.int 1))) (fOp dAdd (fOp dMul (fC (.int 7919)) (fVar 2)) (fC (.int 104729)))) (fC (.int 2147483647))) (fgName 7)) (fSeq (fAsg (fOp dMod (fOp dMul (fOp dAdd (fOp dMod (fOp dPow (fVar 7) (fC (.int 5))) (fC (.int 2147483647))) (fVar 2)) (fC (.int 48271))) (fC (.int 2147483629))) (fgName 7)) (fRet (fOp dMod (fOp dDiv (fVar 7) (fC (.int 64))) (fVar 1))))))))))))
def d__law_draw : Den := denOf 8 2 [2, 3, 4, 5, 6, 7, 7] b__law_draw
def b__law_begun : FS := fSeq (fAsg (fLst (fNil)) (fgName 1)) (fSeq (fFor (fSeqI (fFrz (fVar 0))) (fgName 2) (fSeq (fAsg (fIndex (fVar 2) (fCons (fCall (dMm min) (fCons (fVar 2) (fNil))) (fNil))) (fgName 3)) (fDrop (fMut isLst mAppend (fpVar 1) (fCons (fCall dTuple (fCons (fOp dAdd (fCut (fVar 2) (foSome (fVar 3)) (foNone)) (fCut (fVar 2) (foNone) (foSome (fVar 3)))) (fNil))) (fNil)))))) (fRet (fCall dTuple (fCons (fCall dSorted (fCons (fVar 1) (fNil))) (fNil)))))
def d__law_begun : Den := denOf 4 1 [1, 2, 3] b__law_begun
def b_next_along : FS := fRet (fCallD d_next_around (fCons (fVar 0) (fCons (fCallD d_other_of (fCons (fVar 1) (fNil))) (fNil))))
def d_next_along : Den := denOf 2 2 [] b_next_along
def b_faces : FS := fSeq (fAsg (fLst (fNil)) (fgName 1)) (fSeq (fAsg (fDic0) (fgName 2)) (fSeq (fFor (fRng1 (fCons (fOp dMul (fC (.int 2)) (fCallD d_ties_in (fCons (fVar 0) (fNil)))) (fNil))) (fgName 3) (fIfS (fTest (fOp dNotIn (fVar 3) (fVar 2))) (fSeq (fAsg (fLst (fNil)) (fgName 4)) (fSeq (fAsg (fVar 3) (fgName 5)) (fSeq (whileD (fTest (fOp dNotIn (fVar 5) (fVar 2))) (fSeq (fStore (fC (.bl true)) (fpVar 2) (fVar 5)) (fSeq (fDrop (fMut isLst mAppend (fpVar 4) (fCons (fVar 5) (fNil)))) (fAsg (fCallD d_next_along (fCons (fVar 0) (fCons (fVar 5) (fNil)))) (fgName 5)))) fuel) (fDrop (fMut isLst mAppend (fpVar 1) (fCons (fCall dTuple (fCons (fVar 4) (fNil))) (fNil))))))) (fSkip))) (fRet (fCall dTuple (fCons (fVar 1) (fNil))))))
def d_faces : Den := denOf 6 1 [1, 2, 3, 4, 5, 5] b_faces
def b_face_of : FS := fRet (fIndex (fLc [2] (fSeqI (fFrz (fCallD d_faces (fCons (fVar 0) (fNil))))) (fgName 2) (fYes) (fOp dIn (fVar 1) (fVar 2))) (fCons (fC (.bl true)) (fNil)))
def d_face_of : Den := denOf 3 2 [] b_face_of
end RM
/-! meanings that many laws share; printed by gen.py, then kept -/
namespace RC
open PySem L2 DL
def b__law_feed : FS := fRet (fLst (fCons (fFrz (fCall dList (fCons (fFrz (fCut (fVar 0) (foNone) (foSome (fC (.int 63))))) (fNil)))) (fCons (fC (.int 0)) (fCons (fC (.int 0)) (fNil)))))
def d__law_feed : Den := denOf 1 1 [] b__law_feed
def b__law_draw : FS := fSeq (fIfS (fTest (fOp (dCmp pGt) (fOp dSubs (fVar 0) (fC (.int 2))) (fC (.int 0)))) (fSeq (fAsg (fOp dMod (fOp dSubs (fVar 0) (fC (.int 2))) (fVar 1)) (fgName 2)) (fSeq (fStore (fOp dDiv (fOp dSubs (fVar 0) (fC (.int 2))) (fVar 1)) (fpVar 0) (fC (.int 2))) (fRet (fVar 2)))) (fSkip)) (fSeq (fAsg (fOp dSubs (fVar 0) (fC (.int 1))) (fgName 3)) (fSeq (fStore (fOp dAdd (fVar 3) (fC (.int 1))) (fpVar 0) (fC (.int 1))) (fSeq (fAsg (fC (.int 0)) (fgName 4)) (fSeq (fIfS (fTest (fOp (dCmp pGt) (fCall dLen (fCons (fOp dSubs (fVar 0) (fC (.int 0))) (fNil))) (fC (.int 0)))) (fAsg (fOp dSubs (fOp dSubs (fVar 0) (fC (.int 0))) (fOp dMod (fVar 3) (fCall dLen (fCons (fOp dSubs (fVar 0) (fC (.int 0))) (fNil))))) (fgName 4)) (fSkip)) (fSeq (fIfS (fAnd (fTest (fOp (dCmp pGe) (fVar 4) (fOp dPow (fC (.int 10)) (fC (.int 18))))) (fTest (fOp (dCmp pLt) (fVar 3) (fCall dLen (fCons (fOp dSubs (fVar 0) (fC (.int 0))) (fNil)))))) (fSeq (fStore (fOp dDiv (fVar 4) (fVar 1)) (fpVar 0) (fC (.int 2))) (fRet (fOp dMod (fVar 4) (fVar 1)))) (fSkip)) (fSeq (fAsg (fOp dMod (fOp dPow (fOp dAdd (fOp dAdd (fOp dMod (fVar 4) (fC (.int 1000003))) (fOp dMul (fC (.int 15485863)) (fVar 3))) (fC (.int 101))) (fC (.int 5))) (fC (.int 2147483647))) (fgName 5)) (fSeq (fAsg (fOp dMod (fOp dPow (fOp dAdd (fOp dMul (fVar 5) (fOp dAdd (fOp dMod (fVar 3) (fC (.int 97))) (fC (.int 48271)))) (fVar 3)) (fC (.int 3))) (fC (.int 2147483629))) (fgName 5)) (fRet (fOp dMod (fOp dDiv (fVar 5) (fC (.int 64))) (fVar 1))))))))))
def d__law_draw : Den := denOf 6 2 [2, 3, 4, 4, 5, 5] b__law_draw
def b__law_next : FS := fSeq (fAsg (fOp dSubs (fLc [2] (fSeqI (fFrz (fVar 0))) (fgName 2) (fTest (fOp dIn (fVar 1) (fVar 2))) (fVar 2)) (fC (.int 0))) (fgName 2)) (fRet (fOp dSubs (fVar 2) (fOp dMod (fOp dAdd (fIndex (fVar 2) (fCons (fVar 1) (fNil))) (fC (.int 1))) (fCall dLen (fCons (fVar 2) (fNil))))))
def d__law_next : Den := denOf 3 2 [2] b__law_next
def b__law_ring : FS := fSeq (fAsg (fLst (fCons (fVar 1) (fNil))) (fgName 2)) (fSeq (fAsg (fCallD d__law_next (fCons (fVar 0) (fCons (fCallD RM.d_other_of (fCons (fVar 1) (fNil))) (fNil)))) (fgName 3)) (fSeq (whileD (fTest (fOp dNe (fVar 3) (fVar 1))) (fSeq (fDrop (fMut isLst mAppend (fpVar 2) (fCons (fVar 3) (fNil)))) (fAsg (fCallD d__law_next (fCons (fVar 0) (fCons (fCallD RM.d_other_of (fCons (fVar 3) (fNil))) (fNil)))) (fgName 3))) fuel) (fRet (fVar 2))))
def d__law_ring : Den := denOf 4 2 [2, 3, 3] b__law_ring
def b__law_begun : FS := fSeq (fAsg (fIndex (fVar 0) (fCons (fCall (dMm min) (fCons (fVar 0) (fNil))) (fNil))) (fgName 1)) (fRet (fCall dTuple (fCons (fOp dAdd (fCut (fVar 0) (foSome (fVar 1)) (foNone)) (fCut (fVar 0) (foNone) (foSome (fVar 1)))) (fNil))))
def d__law_begun : Den := denOf 2 1 [1] b__law_begun
def b__law_turn : FS := fSeq (fAsg (fLstRg1 (fVar 1)) (fgName 2)) (fSeq (fAsg (fLst (fNil)) (fgName 3)) (fSeq (fFor (fRng1 (fCons (fVar 1) (fNil))) (fgName 4) (fSeq (fAsg (fMut isLst mPopAt (fpVar 2) (fCons (fCallD d__law_draw (fCons (fVar 0) (fCons (fCall dLen (fCons (fVar 2) (fNil))) (fNil)))) (fNil))) (fgName 5)) (fDrop (fMut isLst mAppend (fpVar 3) (fCons (fOp dAdd (fOp dMul (fC (.int 2)) (fVar 5)) (fCallD d__law_draw (fCons (fVar 0) (fCons (fC (.int 2)) (fNil))))) (fNil)))))) (fRet (fCall dTuple (fCons (fVar 3) (fNil))))))
def d__law_turn : Den := denOf 6 2 [2, 3, 4, 5] b__law_turn
def b__law_called : FS := fRet (fIf (fTest (fOp dEq (fOp dMod (fVar 1) (fC (.int 2))) (fC (.int 0)))) (fOp dSubs (fVar 0) (fOp dDiv (fVar 1) (fC (.int 2)))) (fCallD RM.d_other_of (fCons (fOp dSubs (fVar 0) (fOp dDiv (fVar 1) (fC (.int 2)))) (fNil))))
def d__law_called : Den := denOf 2 2 [] b__law_called
end RC
/-! meanings that many laws share; printed by gen.py, then kept -/
namespace RH
open PySem L2 DL
def b_part_from : FS := fSeq (fAsg (fLst (fCons (fVar 1) (fNil))) (fgName 2)) (fSeq (fAsg (fC (.int 0)) (fgName 3)) (fSeq (whileD (fTest (fOp (dCmp pLt) (fVar 3) (fCall dLen (fCons (fVar 2) (fNil))))) (fSeq (fFor (fSeqI (fFrz (fOp dSubs (fVar 0) (fOp dSubs (fVar 2) (fVar 3))))) (fgName 4) (fSeq (fAsg (fCallD RM.d_place_of (fCons (fVar 0) (fCons (fCallD RM.d_other_of (fCons (fVar 4) (fNil))) (fNil)))) (fgName 5)) (fIfS (fTest (fOp dNotIn (fVar 5) (fVar 2))) (fDrop (fMut isLst mAppend (fpVar 2) (fCons (fVar 5) (fNil)))) (fSkip)))) (fAsg (fOp dAdd (fVar 3) (fC (.int 1))) (fgName 3))) fuel) (fRet (fCall dTuple (fCons (fCall dSorted (fCons (fVar 2) (fNil))) (fNil))))))
def d_part_from : Den := denOf 6 2 [2, 3, 4, 5, 3] b_part_from
def b_parts_of : FS := fSeq (fAsg (fLst (fNil)) (fgName 1)) (fSeq (fAsg (fLstRg1 (fCall dLen (fCons (fVar 0) (fNil)))) (fgName 2)) (fSeq (whileD (fTest (fOp dNe (fVar 2) (fLst (fNil)))) (fSeq (fAsg (fCallD d_part_from (fCons (fVar 0) (fCons (fOp dSubs (fVar 2) (fC (.int 0))) (fNil)))) (fgName 3)) (fSeq (fDrop (fMut isLst mAppend (fpVar 1) (fCons (fVar 3) (fNil)))) (fAsg (fLc [4] (fSeqI (fFrz (fVar 2))) (fgName 4) (fTest (fOp dNotIn (fVar 4) (fVar 3))) (fVar 4)) (fgName 2)))) fuel) (fRet (fCall dTuple (fCons (fVar 1) (fNil))))))
def d_parts_of : Den := denOf 5 1 [1, 2, 3, 2] b_parts_of
def b_handles : FS := fRet (fOp dDiv (fOp dSub (fOp dSub (fOp dAdd (fOp dMul (fC (.int 2)) (fCall dLen (fCons (fCallD d_parts_of (fCons (fVar 0) (fNil))) (fNil)))) (fCallD RM.d_ties_in (fCons (fVar 0) (fNil)))) (fCall dLen (fCons (fVar 0) (fNil)))) (fCall dLen (fCons (fCallD RM.d_faces (fCons (fVar 0) (fNil))) (fNil)))) (fC (.int 2)))
def d_handles : Den := denOf 1 1 [] b_handles
def b_is_flat : FS := fRet (fBl (fAnd (fTest (fOp dEq (fCall dLen (fCons (fCallD d_parts_of (fCons (fVar 0) (fNil))) (fNil))) (fC (.int 1)))) (fTest (fOp dEq (fCallD d_handles (fCons (fVar 0) (fNil))) (fC (.int 0))))))
def d_is_flat : Den := denOf 1 1 [] b_is_flat
def b__law_ring : FS := fSeq (fAsg (fLst (fCons (fVar 1) (fNil))) (fgName 2)) (fSeq (fAsg (fCallD RC.d__law_next (fCons (fVar 0) (fCons (fOp dXor (fVar 1) (fC (.int 1))) (fNil)))) (fgName 3)) (fSeq (whileD (fTest (fOp dNe (fVar 3) (fVar 1))) (fSeq (fDrop (fMut isLst mAppend (fpVar 2) (fCons (fVar 3) (fNil)))) (fAsg (fCallD RC.d__law_next (fCons (fVar 0) (fCons (fOp dXor (fVar 3) (fC (.int 1))) (fNil)))) (fgName 3))) fuel) (fRet (fVar 2))))
def d__law_ring : Den := denOf 4 2 [2, 3, 3] b__law_ring
def b__law_turn : FS := fSeq (fAsg (fLstRg1 (fVar 1)) (fgName 2)) (fRet (fCall dTuple (fCons (fLc [3] (fRng1 (fCons (fVar 1) (fNil))) (fgName 3) (fYes) (fOp dAdd (fOp dMul (fC (.int 2)) (fMut isLst mPopAt (fpVar 2) (fCons (fCallD RM.d__law_draw (fCons (fVar 0) (fCons (fCall dLen (fCons (fVar 2) (fNil))) (fNil)))) (fNil)))) (fCallD RM.d__law_draw (fCons (fVar 0) (fCons (fC (.int 2)) (fNil)))))) (fNil))))
def d__law_turn : Den := denOf 4 2 [2] b__law_turn
def b__law_called : FS := fSeq (fAsg (fLst (fNil)) (fgName 2)) (fSeq (fFor (fSeqI (fFrz (fVar 1))) (fgName 3) (fDrop (fMut isLst mExtend (fpVar 2) (fCons (fLst (fCons (fVar 3) (fCons (fOp dXor (fVar 3) (fC (.int 1))) (fNil)))) (fNil))))) (fRet (fCallD RM.d__law_begun (fCons (fLc [4] (fSeqI (fFrz (fVar 0))) (fgName 4) (fYes) (fLc [3] (fSeqI (fFrz (fVar 4))) (fgName 3) (fYes) (fOp dSubs (fVar 2) (fVar 3)))) (fNil)))))
def d__law_called : Den := denOf 5 2 [2, 3] b__law_called
def b__law_put : FS := fSeq (fAsg (fLst (fNil)) (fgName 3)) (fSeq (fFor (fSeqI (fFrz (fVar 0))) (fgName 4) (fSeq (fAsg (fIf (fTest (fOp dIn (fVar 1) (fVar 4))) (fIndex (fVar 4) (fCons (fVar 1) (fNil))) (fC (.int 0))) (fgName 5)) (fDrop (fMut isLst mAppend (fpVar 3) (fCons (fFrz (fIf (fTest (fOp dIn (fVar 1) (fVar 4))) (fOp dAdd (fOp dAdd (fCut (fVar 4) (foNone) (foSome (fVar 5))) (fLst (fCons (fVar 2) (fNil)))) (fCut (fVar 4) (foSome (fVar 5)) (foNone))) (fVar 4))) fNil))))) (fRet (fVar 3)))
def d__law_put : Den := denOf 6 3 [3, 4, 5] b__law_put
def b__law_flat_web : FS := fSeq (fAsg (fOp dAdd (fC (.int 1)) (fCallD RM.d__law_draw (fCons (fVar 0) (fCons (fVar 1) (fNil))))) (fgName 2)) (fSeq (fAsg (fCallD RM.d__law_draw (fCons (fVar 0) (fCons (fC (.int 4)) (fNil)))) (fgName 3)) (fSeq (fAsg (fIf (fTest (fOp dEq (fCallD RM.d__law_draw (fCons (fVar 0) (fCons (fC (.int 3)) (fNil)))) (fC (.int 0)))) (fLst (fCons (fLst (fCons (fC (.int 0)) (fCons (fC (.int 1)) (fNil)))) (fNil))) (fLst (fCons (fLst (fCons (fC (.int 0)) (fNil))) (fCons (fLst (fCons (fC (.int 1)) (fNil))) (fNil))))) (fgName 4)) (fSeq (fFor (fRng2 (fCons (fC (.int 1)) (fCons (fVar 2) (fNil)))) (fgName 5) (fSeq (fAsg (fCallD RM.d__law_draw (fCons (fVar 0) (fCons (fOp dMul (fC (.int 2)) (fVar 5)) (fNil)))) (fgName 6)) (fIfS (fTest (fOp (dCmp pLe) (fCallD RM.d__law_draw (fCons (fVar 0) (fCons (fC (.int 5)) (fNil)))) (fVar 3))) (fAsg (fOp dAdd (fCallD d__law_put (fCons (fVar 4) (fCons (fVar 6) (fCons (fOp dMul (fC (.int 2)) (fVar 5)) (fNil))))) (fLst (fCons (fFrz (fLst (fCons (fOp dAdd (fOp dMul (fC (.int 2)) (fVar 5)) (fC (.int 1))) (fNil)))) (fNil)))) (fgName 4)) (fSeq (fAsg (fCallD d__law_ring (fCons (fVar 4) (fCons (fVar 6) (fNil)))) (fgName 7)) (fSeq (fAsg (fOp dSubs (fVar 7) (fCallD RM.d__law_draw (fCons (fVar 0) (fCons (fCall dLen (fCons (fVar 7) (fNil))) (fNil))))) (fgName 8)) (fAsg (fCallD d__law_put (fCons (fCallD d__law_put (fCons (fVar 4) (fCons (fVar 6) (fCons (fOp dMul (fC (.int 2)) (fVar 5)) (fNil))))) (fCons (fVar 8) (fCons (fOp dAdd (fOp dMul (fC (.int 2)) (fVar 5)) (fC (.int 1))) (fNil))))) (fgName 4))))))) (fRet (fCallD d__law_called (fCons (fVar 4) (fCons (fCallD d__law_turn (fCons (fVar 0) (fCons (fVar 2) (fNil)))) (fNil))))))))
def d__law_flat_web : Den := denOf 9 2 [2, 3, 4, 5, 6, 4, 7, 8, 4] b__law_flat_web
end RH
/-! meanings that many laws share; printed by gen.py, then kept -/
namespace RU
open PySem L2 DL
def b_hold_room : FSX := xIfS (fTest (fOp (dCmp pGe) (fCallD RM.d_ties_in (fCons (fVar 0) (fNil))) (fC (.int 12)))) (xRaise "TooMany" ["word"] (fCons (fC (.str "ties")) (fNil))) (xS fSkip)
def d_hold_room : DenX := denX 1 1 [] b_hold_room
def b_put_ahead : FS := fSeq (fAsg (fLst (fNil)) (fgName 3)) (fSeq (fFor (fSeqI (fFrz (fVar 0))) (fgName 4) (fIfS (fTest (fOp dIn (fVar 1) (fVar 4))) (fSeq (fAsg (fIndex (fVar 4) (fCons (fVar 1) (fNil))) (fgName 5)) (fDrop (fMut isLst mAppend (fpVar 3) (fCons (fOp dAdd (fOp dAdd (fCut (fVar 4) (foNone) (foSome (fVar 5))) (fTup (fCons (fVar 2) (fNil)))) (fCut (fVar 4) (foSome (fVar 5)) (foNone))) (fNil))))) (fDrop (fMut isLst mAppend (fpVar 3) (fCons (fVar 4) (fNil)))))) (fRet (fVar 3)))
def d_put_ahead : Den := denOf 6 3 [3, 4, 5] b_put_ahead
end RU
/-! the meanings of the defs of law_k11_drawn_in; printed by gen.py -/
namespace K11
open PySem L2 DL
noncomputable section
abbrev b_darts_in_rows : FS := RM.b_darts_in_rows
abbrev d_darts_in_rows : Den := RM.d_darts_in_rows
abbrev b_begun_rows : FS := RM.b__law_begun
abbrev d_begun_rows : Den := RM.d__law_begun
abbrev b_ties_in : FS := RM.b_ties_in
abbrev d_ties_in : Den := RM.d_ties_in
abbrev b_other_of : FS := RM.b_other_of
abbrev d_other_of : Den := RM.d_other_of
abbrev b_place_of : FS := RM.b_place_of
abbrev d_place_of : Den := RM.d_place_of
abbrev b_next_around : FS := RM.b_next_around
abbrev d_next_around : Den := RM.d_next_around
abbrev b_next_along : FS := RM.b_next_along
abbrev d_next_along : Den := RM.d_next_along
abbrev b_part_from : FS := RH.b_part_from
abbrev d_part_from : Den := RH.d_part_from
abbrev b_parts_of : FS := RH.b_parts_of
abbrev d_parts_of : Den := RH.d_parts_of
abbrev b_faces : FS := RM.b_faces
abbrev d_faces : Den := RM.d_faces
abbrev b_face_of : FS := RM.b_face_of
abbrev d_face_of : Den := RM.d_face_of
abbrev b_handles : FS := RH.b_handles
abbrev d_handles : Den := RH.d_handles
abbrev b_is_flat : FS := RH.b_is_flat
abbrev d_is_flat : Den := RH.d_is_flat
abbrev b_hold_room : FSX := RU.b_hold_room
abbrev d_hold_room : DenX := RU.d_hold_room
abbrev b_put_ahead : FS := RU.b_put_ahead
abbrev d_put_ahead : Den := RU.d_put_ahead
def b_drawn_in : FSX := xSeq (xDrop (xCall d_hold_room (xA (fCons (fVar 0) (fNil))))) (xSeq (xIfS (fTest (fOp dNe (fCallD d_face_of (fCons (fVar 0) (fCons (fVar 1) (fNil)))) (fCallD d_face_of (fCons (fVar 0) (fCons (fVar 2) (fNil)))))) (xRaise "NoAlong" ["dart"] (fCons (fVar 2) (fNil))) (xS fSkip)) (xSeq (xS (fAsg (fCallD d_ties_in (fCons (fVar 0) (fNil))) (fgName 3))) (xS (fRet (fCallD d_begun_rows (fCons (fCallD d_put_ahead (fCons (fCallD d_put_ahead (fCons (fVar 0) (fCons (fVar 1) (fCons (fOp dMul (fC (.int 2)) (fVar 3)) (fNil))))) (fCons (fVar 2) (fCons (fOp dAdd (fOp dMul (fC (.int 2)) (fVar 3)) (fC (.int 1))) (fNil))))) (fNil)))))))
def d_drawn_in : DenX := denX 4 3 [3] b_drawn_in
abbrev b__law_feed : FS := RM.b__law_feed
abbrev d__law_feed : Den := RM.d__law_feed
abbrev b__law_draw : FS := RM.b__law_draw
abbrev d__law_draw : Den := RM.d__law_draw
abbrev b__law_begun : FS := RM.b__law_begun
abbrev d__law_begun : Den := RM.d__law_begun
abbrev b__law_behind : FS := RC.b__law_next
abbrev d__law_behind : Den := RC.d__law_next
abbrev b__law_ring : FS := RH.b__law_ring
abbrev d__law_ring : Den := RH.d__law_ring
abbrev b__law_turn : FS := RH.b__law_turn
abbrev d__law_turn : Den := RH.d__law_turn
abbrev b__law_called : FS := RH.b__law_called
abbrev d__law_called : Den := RH.d__law_called
abbrev b__law_put : FS := RH.b__law_put
abbrev d__law_put : Den := RH.d__law_put
abbrev b__law_flat_web : FS := RH.b__law_flat_web
abbrev d__law_flat_web : Den := RH.d__law_flat_web
def b__law_strange : Addr → Str → Addr → FS := fun a c dd => fSeq (fAsg (fLst (fCons (fIsE a c dd (List.lookup c [("NoAlong", false), ("TooMany", false)]) 0) (fCons (fIsE a c dd (List.lookup c [("NoAlong", true), ("TooMany", false)]) 0) (fCons (fIsE a c dd (List.lookup c [("NoAlong", false), ("TooMany", false)]) 0) (fCons (fIsE a c dd (List.lookup c [("NoAlong", false), ("TooMany", false)]) 0) (fNil)))))) (fgName 1)) (fSeq (fAsg (fOp dAdd (fVar 1) (fLst (fCons (fIsE a c dd (List.lookup c [("NoAlong", false), ("TooMany", false)]) 0) (fCons (fIsE a c dd (List.lookup c [("NoAlong", false), ("TooMany", false)]) 0) (fCons (fIsE a c dd (List.lookup c [("NoAlong", false), ("TooMany", true)]) 0) (fCons (fIsE a c dd (List.lookup c [("NoAlong", false), ("TooMany", false)]) 0) (fNil))))))) (fgName 1)) (fRet (fBl (fOr (fTest (fOp dNe (fCountB (fVar 1) (fCons (fC (.bl true)) (fNil))) (fC (.int 1)))) (fTest (fBl (fOr (fTest (fBl (fNot (fTest (fIsE a c dd (List.lookup c [("NoAlong", true), ("TooMany", true)]) 0))))) (fTest (fBl (fNot (fTest (fIsE a c dd (List.lookup c [("NoAlong", true), ("TooMany", true)]) 0))))))))))))
def d__law_strange : Addr → Str → Addr → Den := fun a c dd => denOf 2 1 [1, 1] (b__law_strange a c dd)
def b__law_told : FS := fSeq (fAsg (fTup (fCons (fC (.str "none")) (fNil))) (fgName 3)) (fSeq (fTryAs (xAsg (xCall d_drawn_in (xA (fCons (fVar 0) (fCons (fVar 1) (fCons (fVar 2) (fNil)))))) (fgName 3)) ((["NoAlong"] : List Str) ++ (["TooMany"] : List Str)) 4 (fun a c dd => if c ∈ (["NoAlong"] : List Str) then fAsg (fTup (fCons (fC (.str "along")) (fCons (fFld a dd 4 "dart") (fCons (fCallD (d__law_strange a c dd) (fCons (fVar 4) (fNil))) (fNil))))) (fgName 3) else fAsg (fTup (fCons (fC (.str "many")) (fCons (fFld a dd 4 "word") (fCons (fCallD (d__law_strange a c dd) (fCons (fVar 4) (fNil))) (fNil))))) (fgName 3))) (fRet (fVar 3)))
def d__law_told : Den := denOf 5 3 [3, 3, 4, 3, 3] b__law_told
def b__law_due : FS := fSeq (fAsg (fCall dSum (fCons (fLc [5] (fSeqI (fFrz (fVar 0))) (fgName 5) (fYes) (fCall dLen (fCons (fVar 5) (fNil)))) (fNil))) (fgName 3)) (fSeq (fIfS (fTest (fOp dEq (fVar 3) (fC (.int 24)))) (fRet (fTup (fCons (fC (.str "many")) (fCons (fC (.str "ties")) (fCons (fC (.bl false)) (fNil)))))) (fSkip)) (fSeq (fIfS (fTest (fOp dNotIn (fVar 2) (fCallD d__law_ring (fCons (fVar 0) (fCons (fVar 1) (fNil)))))) (fRet (fTup (fCons (fC (.str "along")) (fCons (fVar 2) (fCons (fC (.bl false)) (fNil)))))) (fSkip)) (fSeq (fAsg (fCallD d__law_put (fCons (fLc [5] (fSeqI (fFrz (fVar 0))) (fgName 5) (fYes) (fCall dList (fCons (fVar 5) (fNil)))) (fCons (fVar 1) (fCons (fVar 3) (fNil))))) (fgName 4)) (fRet (fCallD d__law_begun (fCons (fCallD d__law_put (fCons (fVar 4) (fCons (fVar 2) (fCons (fOp dAdd (fVar 3) (fC (.int 1))) (fNil))))) (fNil)))))))
def d__law_due : Den := denOf 6 3 [3, 4] b__law_due
def b_law : FS := fSeq (fAsg (fCallD d__law_feed (fCons (fVar 0) (fNil))) (fgName 1)) (fSeq (fAsg (fLc [12] (fRng1 (fCons (fC (.int 4)) (fNil))) (fgName 12) (fYes) (fCallD d__law_draw (fCons (fVar 1) (fCons (fC (.int 4)) (fNil))))) (fgName 2)) (fSeq (fAsg (fCallD d__law_flat_web (fCons (fVar 1) (fCons (fC (.int 12)) (fNil)))) (fgName 3)) (fSeq (fAsg (fCall dRepr (fCons (fVar 3) (fNil))) (fgName 4)) (fSeq (fAsg (fCall dSum (fCons (fLc [13] (fSeqI (fFrz (fVar 3))) (fgName 13) (fYes) (fCall dLen (fCons (fVar 13) (fNil)))) (fNil))) (fgName 5)) (fSeq (fFor (fSeqI (fFrz (fVar 2))) (fgName 6) (fSeq (fAsg (fCallD d__law_draw (fCons (fVar 1) (fCons (fVar 5) (fNil)))) (fgName 7)) (fSeq (fAsg (fPick (fLst (fCons (fCallD d__law_ring (fCons (fVar 3) (fCons (fVar 7) (fNil)))) (fCons (fLstRg1 (fVar 5)) (fCons (fLst (fCons (fVar 7) (fNil))) (fNil))))) (fOp dSubs (fLst (fCons (fC (.int 0)) (fCons (fC (.int 0)) (fCons (fC (.int 1)) (fCons (fC (.int 2)) (fNil)))))) (fVar 6))) (fgName 8)) (fSeq (fAsg (fOp dSubs (fVar 8) (fCallD d__law_draw (fCons (fVar 1) (fCons (fCall dLen (fCons (fVar 8) (fNil))) (fNil))))) (fgName 9)) (fSeq (fAsg (fCallD d__law_due (fCons (fVar 3) (fCons (fVar 7) (fCons (fVar 9) (fNil))))) (fgName 10)) (fSeq (fAsg (fCallD d__law_told (fCons (fVar 3) (fCons (fVar 7) (fCons (fVar 9) (fNil))))) (fgName 11)) (fSeq (fIfS (fOr (fTest (fOp dNe (fCall dRepr (fCons (fVar 11) (fNil))) (fCall dRepr (fCons (fVar 10) (fNil))))) (fTest (fOp dNe (fCall dRepr (fCons (fVar 3) (fNil))) (fVar 4)))) (fRet (fC (.bl false))) (fSkip)) (fIfS (fTest (fOp dNotInT (fOp dSubs (fVar 10) (fC (.int 0))) (fTup (fCons (fC (.str "many")) (fCons (fC (.str "along")) (fNil)))))) (fIfS (fOr (fTest (fOp dNe (fCall dLen (fCons (fCallD d_faces (fCons (fVar 11) (fNil))) (fNil))) (fOp dAdd (fCall dLen (fCons (fCallD d_faces (fCons (fVar 3) (fNil))) (fNil))) (fC (.int 1))))) (fOr (fTest (fOp dNe (fCall dLen (fCons (fVar 11) (fNil))) (fCall dLen (fCons (fVar 3) (fNil))))) (fTest (fOp dIsNotB (fCallD d_is_flat (fCons (fVar 11) (fNil))) (fC (.bl true)))))) (fRet (fC (.bl false))) (fSkip)) (fSkip))))))))) (fRet (fC (.bl true))))))))
def d_law : Den := denOf 14 1 [1, 2, 3, 4, 5, 6, 7, 8, 9, 10, 11] b_law
end
end K11
/-! each def of law_k11_drawn_in has its meaning; printed by gen.py -/
namespace K11
open PySem PySem.Spec L2 DL
/-! ### the text by places -/
def top (i : Nat) : Stmt := PySem.Challenge.pw_rimasks_k11_drawn_in.main.body.getD i (.Pass ⟨0, 0, 0, 0⟩)
/-- what the top has left of the built-ins -/
structure Txt (mg : Str → Option Value) : Prop where
  b_isinstance : mg "isinstance" = none
  b_len : mg "len" = none
  b_list : mg "list" = none
  b_min : mg "min" = none
  b_range : mg "range" = none
  b_repr : mg "repr" = none
  b_sorted : mg "sorted" = none
  b_sum : mg "sum" = none
  b_tuple : mg "tuple" = none
  g_MOST_TIES : ∃ t, mg "MOST_TIES" = some (.int 12 t)
section
variable {P : Program} {w : World} {K : PySem.W.Frag} {mg : Str → Option Value} {base : Heap}
abbrev s_darts_in_rows : Stmt := top 12
abbrev N_darts_in_rows : List Str := ["rows", "found", "row"]
abbrev p_darts_in_rows : List Str := ["rows"]
theorem sc_darts_in_rows : FnScope N_darts_in_rows p_darts_in_rows (defScope s_darts_in_rows) := ⟨rfl, rfl, rfl, by decide +kernel, rfl, by decide +kernel, by decide +kernel⟩
theorem fn_darts_in_rows {f : Addr} {fd : FuncData} (F : Fun K "darts_in_rows" "darts_in_rows" s_darts_in_rows f fd) (T : Txt mg)  : FnD P w K mg base 1 f fd p_darts_in_rows d_darts_in_rows := by
  refine fnD_of (k := 0) (N := N_darts_in_rows) (W := [1, 2]) (fb := b_darts_in_rows) F sc_darts_in_rows fun cdv A outer s H hgd hr => ?_
  have hu := hr.un
  have hu1 := room_u (n := 1) (k := 0) (u := (A.deeper _).units) (by decide) hu
  have hu40 := room_u (n := 40) (k := 0) (u := (A.deeper _).units) (by decide) hu
  have hu64 := room_u (n := 64) (k := 0) (u := (A.deeper _).units) (by decide) hu
  have hu65 := room_u (n := 65) (k := 0) (u := (A.deeper _).units) (by decide) hu
  exact dss_cons (ds_set (i := 1) sc_darts_in_rows.nd rfl (Or.inl rfl) (de_lst (da_nil))) (dss_cons (ds_for PassesOwn.never rfl (di_seq (de_frz (de_var (pv 0)))) (DG.dy (dg_name (pg_name (i := 2) sc_darts_in_rows.nd rfl (Or.inl rfl)))) (dss_one (ds_expr (de_mut (pe_bm PySem.F.plainAttrs_list PySem.F.slot_list_extend PySem.F.type_list_extend mt_extend (DP.pe (dp_var (pv 1))) (DA.pa (da_cons (de_callTy call_list_of cs_list (by rfl) T.b_list (by first | rfl | decide +kernel) (da_cons (de_var (pv 2)) (da_nil))) (da_nil)))) mu_extend)))) (dss_one (ds_ret (de_var (pv 1)))))
theorem ok_darts_in_rows {f : Addr} {fd : FuncData} (F : Fun K "darts_in_rows" "darts_in_rows" s_darts_in_rows f fd) (mf : mg "darts_in_rows" = some (.ref f)) (T : Txt mg)  : DefOk P w K mg base "darts_in_rows" 1 p_darts_in_rows d_darts_in_rows :=
  ⟨f, fd, fn_darts_in_rows F T , mf, F.kp, F.binds (ps := p_darts_in_rows) fun _ _ _ _ _ _ us hl => match us, hl with | [_], _ => rfl⟩
abbrev s_begun_rows : Stmt := top 13
abbrev N_begun_rows : List Str := ["rows", "found", "row", "at"]
abbrev p_begun_rows : List Str := ["rows"]
theorem sc_begun_rows : FnScope N_begun_rows p_begun_rows (defScope s_begun_rows) := ⟨rfl, rfl, rfl, by decide +kernel, rfl, by decide +kernel, by decide +kernel⟩
theorem fn_begun_rows {f : Addr} {fd : FuncData} (F : Fun K "begun_rows" "begun_rows" s_begun_rows f fd) (T : Txt mg)  : FnD P w K mg base 1 f fd p_begun_rows d_begun_rows := by
  refine fnD_of (k := 0) (N := N_begun_rows) (W := [1, 2, 3]) (fb := b_begun_rows) F sc_begun_rows fun cdv A outer s H hgd hr => ?_
  have hu := hr.un
  have hu1 := room_u (n := 1) (k := 0) (u := (A.deeper _).units) (by decide) hu
  have hu40 := room_u (n := 40) (k := 0) (u := (A.deeper _).units) (by decide) hu
  have hu64 := room_u (n := 64) (k := 0) (u := (A.deeper _).units) (by decide) hu
  have hu65 := room_u (n := 65) (k := 0) (u := (A.deeper _).units) (by decide) hu
  exact dss_cons (ds_set (i := 1) sc_begun_rows.nd rfl (Or.inl rfl) (de_lst (da_nil))) (dss_cons (ds_for PassesOwn.never rfl (di_seq (de_frz (de_var (pv 0)))) (DG.dy (dg_name (pg_name (i := 2) sc_begun_rows.nd rfl (Or.inl rfl)))) (dss_cons (ds_set (i := 3) sc_begun_rows.nd rfl (Or.inl rfl) (de_index (pe_bm PySem.F.plainAttrs_list PySem.F.slot_list_index PySem.F.type_list_index (mt_indexD hu65) (DE.pe (de_var (pv 2))) (DA.pa (da_cons (de_callB (cx_min rfl hu1) (cs_mm min) (by rfl) T.b_min (by first | rfl | decide +kernel) (da_cons (de_var (pv 2)) (da_nil))) (da_nil)))) (pe_tm PySem.F.slot_tuple_index PySem.F.type_tuple_index mt_tidx (DE.pe (de_var (pv 2))) (DA.pa (da_cons (de_callB (cx_min rfl hu1) (cs_mm min) (by rfl) T.b_min (by first | rfl | decide +kernel) (da_cons (de_var (pv 2)) (da_nil))) (da_nil)))))) (dss_one (ds_expr (de_mut (pe_bm PySem.F.plainAttrs_list PySem.F.slot_list_append PySem.F.type_list_append mt_append (DP.pe (dp_var (pv 1))) (DA.pa (da_cons (de_callTy call_tupOf cs_tuple (by rfl) T.b_tuple (by first | rfl | decide +kernel) (da_cons (de_op ox_add o2_add (de_cut (de_var (pv 2)) (do_some (de_var (pv 3))) (do_none)) (de_cut (de_var (pv 2)) (do_none) (do_some (de_var (pv 3))))) (da_nil))) (da_nil)))) mu_append))))) (dss_one (ds_ret (de_callTy call_tupOf cs_tuple (by rfl) T.b_tuple (by first | rfl | decide +kernel) (da_cons (de_callB (cx_sorted hu40) cs_sorted (by rfl) T.b_sorted (by first | rfl | decide +kernel) (da_cons (de_var (pv 1)) (da_nil))) (da_nil))))))
theorem ok_begun_rows {f : Addr} {fd : FuncData} (F : Fun K "begun_rows" "begun_rows" s_begun_rows f fd) (mf : mg "begun_rows" = some (.ref f)) (T : Txt mg)  : DefOk P w K mg base "begun_rows" 1 p_begun_rows d_begun_rows :=
  ⟨f, fd, fn_begun_rows F T , mf, F.kp, F.binds (ps := p_begun_rows) fun _ _ _ _ _ _ us hl => match us, hl with | [_], _ => rfl⟩
abbrev s_ties_in : Stmt := top 14
abbrev N_ties_in : List Str := ["web"]
abbrev p_ties_in : List Str := ["web"]
theorem sc_ties_in : FnScope N_ties_in p_ties_in (defScope s_ties_in) := ⟨rfl, rfl, rfl, by decide +kernel, rfl, by decide +kernel, by decide +kernel⟩
theorem fn_ties_in {f : Addr} {fd : FuncData} (F : Fun K "ties_in" "ties_in" s_ties_in f fd) (T : Txt mg) (G_darts_in_rows : DefOk P w K mg base "darts_in_rows" 1 p_darts_in_rows d_darts_in_rows) : FnD P w K mg base 2 f fd p_ties_in d_ties_in := by
  refine fnD_of (k := 1) (N := N_ties_in) (W := []) (fb := b_ties_in) F sc_ties_in fun cdv A outer s H hgd hr => ?_
  have hu := hr.un
  have hu1 := room_u (n := 1) (k := 1) (u := (A.deeper _).units) (by decide) hu
  have hu40 := room_u (n := 40) (k := 1) (u := (A.deeper _).units) (by decide) hu
  have hu64 := room_u (n := 64) (k := 1) (u := (A.deeper _).units) (by decide) hu
  have hu65 := room_u (n := 65) (k := 1) (u := (A.deeper _).units) (by decide) hu
  exact dss_one (ds_ret (de_op op_fdivN o2_div (de_callB cx_len cs_len (by rfl) T.b_len (by first | rfl | decide +kernel) (da_cons (de_callG G_darts_in_rows hgd hr (by decide) (by rfl) (fCons_len (fNil_len)) (da_cons (de_var (pv 0)) (da_nil))) (da_nil))) (de_int)))
theorem ok_ties_in {f : Addr} {fd : FuncData} (F : Fun K "ties_in" "ties_in" s_ties_in f fd) (mf : mg "ties_in" = some (.ref f)) (T : Txt mg) (G_darts_in_rows : DefOk P w K mg base "darts_in_rows" 1 p_darts_in_rows d_darts_in_rows) : DefOk P w K mg base "ties_in" 2 p_ties_in d_ties_in :=
  ⟨f, fd, fn_ties_in F T G_darts_in_rows, mf, F.kp, F.binds (ps := p_ties_in) fun _ _ _ _ _ _ us hl => match us, hl with | [_], _ => rfl⟩
abbrev s_other_of : Stmt := top 15
abbrev N_other_of : List Str := ["dart"]
abbrev p_other_of : List Str := ["dart"]
theorem sc_other_of : FnScope N_other_of p_other_of (defScope s_other_of) := ⟨rfl, rfl, rfl, by decide +kernel, rfl, by decide +kernel, by decide +kernel⟩
theorem fn_other_of {f : Addr} {fd : FuncData} (F : Fun K "other_of" "other_of" s_other_of f fd) (T : Txt mg)  : FnD P w K mg base 1 f fd p_other_of d_other_of := by
  refine fnD_of (k := 0) (N := N_other_of) (W := []) (fb := b_other_of) F sc_other_of fun cdv A outer s H hgd hr => ?_
  have hu := hr.un
  have hu1 := room_u (n := 1) (k := 0) (u := (A.deeper _).units) (by decide) hu
  have hu40 := room_u (n := 40) (k := 0) (u := (A.deeper _).units) (by decide) hu
  have hu64 := room_u (n := 64) (k := 0) (u := (A.deeper _).units) (by decide) hu
  have hu65 := room_u (n := 65) (k := 0) (u := (A.deeper _).units) (by decide) hu
  exact dss_one (ds_ret (de_op op_sub o2_sub (de_op ox_add o2_add (de_var (pv 0)) (de_int)) (de_op ox_mul o2_mul (de_int) (de_op op_modN o2_mod (de_var (pv 0)) (de_int)))))
theorem ok_other_of {f : Addr} {fd : FuncData} (F : Fun K "other_of" "other_of" s_other_of f fd) (mf : mg "other_of" = some (.ref f)) (T : Txt mg)  : DefOk P w K mg base "other_of" 1 p_other_of d_other_of :=
  ⟨f, fd, fn_other_of F T , mf, F.kp, F.binds (ps := p_other_of) fun _ _ _ _ _ _ us hl => match us, hl with | [_], _ => rfl⟩
abbrev s_place_of : Stmt := top 16
abbrev N_place_of : List Str := ["web", "dart", "row"]
abbrev p_place_of : List Str := ["web", "dart"]
theorem sc_place_of : FnScope N_place_of p_place_of (defScope s_place_of) := ⟨rfl, rfl, rfl, by decide +kernel, rfl, by decide +kernel, by decide +kernel⟩
theorem fn_place_of {f : Addr} {fd : FuncData} (F : Fun K "place_of" "place_of" s_place_of f fd) (T : Txt mg)  : FnD P w K mg base 1 f fd p_place_of d_place_of := by
  refine fnD_of (k := 0) (N := N_place_of) (W := []) (fb := b_place_of) F sc_place_of fun cdv A outer s H hgd hr => ?_
  have hu := hr.un
  have hu1 := room_u (n := 1) (k := 0) (u := (A.deeper _).units) (by decide) hu
  have hu40 := room_u (n := 40) (k := 0) (u := (A.deeper _).units) (by decide) hu
  have hu64 := room_u (n := 64) (k := 0) (u := (A.deeper _).units) (by decide) hu
  have hu65 := room_u (n := 65) (k := 0) (u := (A.deeper _).units) (by decide) hu
  exact dss_one (ds_ret (de_index (pe_bm PySem.F.plainAttrs_list PySem.F.slot_list_index PySem.F.type_list_index (mt_indexD hu65) (DE.pe (de_lc (own := [("row", 2)]) rfl sc_place_of.nd (di_seq (de_frz (de_var (pv 0)))) (blkOk_by (own := [("row", 2)]) (N := N_place_of) (sc := defScope s_place_of) (by decide +kernel)) (fun _ _ _ _ _ => DG.dy (dg_name (pg_name (i := 2) sc_place_of.nd rfl (Or.inl rfl)))) (fun _ _ _ _ _ => dts_nil) (fun _ _ _ _ _ => de_cmp (ox_in hu65) o2_in (de_var (pv 1)) (de_var (pv 2)) (by rfl)) (by decide))) (DA.pa (da_cons (de_bl) (da_nil)))) (pe_tm PySem.F.slot_tuple_index PySem.F.type_tuple_index mt_tidx (DE.pe (de_lc (own := [("row", 2)]) rfl sc_place_of.nd (di_seq (de_frz (de_var (pv 0)))) (blkOk_by (own := [("row", 2)]) (N := N_place_of) (sc := defScope s_place_of) (by decide +kernel)) (fun _ _ _ _ _ => DG.dy (dg_name (pg_name (i := 2) sc_place_of.nd rfl (Or.inl rfl)))) (fun _ _ _ _ _ => dts_nil) (fun _ _ _ _ _ => de_cmp (ox_in hu65) o2_in (de_var (pv 1)) (de_var (pv 2)) (by rfl)) (by decide))) (DA.pa (da_cons (de_bl) (da_nil))))))
theorem ok_place_of {f : Addr} {fd : FuncData} (F : Fun K "place_of" "place_of" s_place_of f fd) (mf : mg "place_of" = some (.ref f)) (T : Txt mg)  : DefOk P w K mg base "place_of" 1 p_place_of d_place_of :=
  ⟨f, fd, fn_place_of F T , mf, F.kp, F.binds (ps := p_place_of) fun _ _ _ _ _ _ us hl => match us, hl with | [_, _], _ => rfl⟩
abbrev s_next_around : Stmt := top 17
abbrev N_next_around : List Str := ["web", "dart", "row"]
abbrev p_next_around : List Str := ["web", "dart"]
theorem sc_next_around : FnScope N_next_around p_next_around (defScope s_next_around) := ⟨rfl, rfl, rfl, by decide +kernel, rfl, by decide +kernel, by decide +kernel⟩
theorem fn_next_around {f : Addr} {fd : FuncData} (F : Fun K "next_around" "next_around" s_next_around f fd) (T : Txt mg) (G_place_of : DefOk P w K mg base "place_of" 1 p_place_of d_place_of) : FnD P w K mg base 2 f fd p_next_around d_next_around := by
  refine fnD_of (k := 1) (N := N_next_around) (W := [2]) (fb := b_next_around) F sc_next_around fun cdv A outer s H hgd hr => ?_
  have hu := hr.un
  have hu1 := room_u (n := 1) (k := 1) (u := (A.deeper _).units) (by decide) hu
  have hu40 := room_u (n := 40) (k := 1) (u := (A.deeper _).units) (by decide) hu
  have hu64 := room_u (n := 64) (k := 1) (u := (A.deeper _).units) (by decide) hu
  have hu65 := room_u (n := 65) (k := 1) (u := (A.deeper _).units) (by decide) hu
  exact dss_cons (ds_set (i := 2) sc_next_around.nd rfl (Or.inl rfl) (de_sub hu1 (de_var (pv 0)) (de_callG G_place_of hgd hr (by decide) (by rfl) (fCons_len (fCons_len (fNil_len))) (da_cons (de_var (pv 0)) (da_cons (de_var (pv 1)) (da_nil)))) (fun _ _ => rfl))) (dss_one (ds_ret (de_sub hu1 (de_var (pv 2)) (de_op op_modN o2_mod (de_op ox_add o2_add (de_index (pe_bm PySem.F.plainAttrs_list PySem.F.slot_list_index PySem.F.type_list_index (mt_indexD hu65) (DE.pe (de_var (pv 2))) (DA.pa (da_cons (de_var (pv 1)) (da_nil)))) (pe_tm PySem.F.slot_tuple_index PySem.F.type_tuple_index mt_tidx (DE.pe (de_var (pv 2))) (DA.pa (da_cons (de_var (pv 1)) (da_nil))))) (de_int)) (de_callB cx_len cs_len (by rfl) T.b_len (by first | rfl | decide +kernel) (da_cons (de_var (pv 2)) (da_nil)))) (fun _ _ => rfl))))
theorem ok_next_around {f : Addr} {fd : FuncData} (F : Fun K "next_around" "next_around" s_next_around f fd) (mf : mg "next_around" = some (.ref f)) (T : Txt mg) (G_place_of : DefOk P w K mg base "place_of" 1 p_place_of d_place_of) : DefOk P w K mg base "next_around" 2 p_next_around d_next_around :=
  ⟨f, fd, fn_next_around F T G_place_of, mf, F.kp, F.binds (ps := p_next_around) fun _ _ _ _ _ _ us hl => match us, hl with | [_, _], _ => rfl⟩
abbrev s_next_along : Stmt := top 18
abbrev N_next_along : List Str := ["web", "dart"]
abbrev p_next_along : List Str := ["web", "dart"]
theorem sc_next_along : FnScope N_next_along p_next_along (defScope s_next_along) := ⟨rfl, rfl, rfl, by decide +kernel, rfl, by decide +kernel, by decide +kernel⟩
theorem fn_next_along {f : Addr} {fd : FuncData} (F : Fun K "next_along" "next_along" s_next_along f fd) (T : Txt mg) (G_next_around : DefOk P w K mg base "next_around" 2 p_next_around d_next_around) (G_other_of : DefOk P w K mg base "other_of" 1 p_other_of d_other_of) : FnD P w K mg base 3 f fd p_next_along d_next_along := by
  refine fnD_of (k := 2) (N := N_next_along) (W := []) (fb := b_next_along) F sc_next_along fun cdv A outer s H hgd hr => ?_
  have hu := hr.un
  have hu1 := room_u (n := 1) (k := 2) (u := (A.deeper _).units) (by decide) hu
  have hu40 := room_u (n := 40) (k := 2) (u := (A.deeper _).units) (by decide) hu
  have hu64 := room_u (n := 64) (k := 2) (u := (A.deeper _).units) (by decide) hu
  have hu65 := room_u (n := 65) (k := 2) (u := (A.deeper _).units) (by decide) hu
  exact dss_one (ds_ret (de_callG G_next_around hgd hr (by decide) (by rfl) (fCons_len (fCons_len (fNil_len))) (da_cons (de_var (pv 0)) (da_cons (de_callG G_other_of hgd hr (by decide) (by rfl) (fCons_len (fNil_len)) (da_cons (de_var (pv 1)) (da_nil))) (da_nil)))))
theorem ok_next_along {f : Addr} {fd : FuncData} (F : Fun K "next_along" "next_along" s_next_along f fd) (mf : mg "next_along" = some (.ref f)) (T : Txt mg) (G_next_around : DefOk P w K mg base "next_around" 2 p_next_around d_next_around) (G_other_of : DefOk P w K mg base "other_of" 1 p_other_of d_other_of) : DefOk P w K mg base "next_along" 3 p_next_along d_next_along :=
  ⟨f, fd, fn_next_along F T G_next_around G_other_of, mf, F.kp, F.binds (ps := p_next_along) fun _ _ _ _ _ _ us hl => match us, hl with | [_, _], _ => rfl⟩
abbrev s_part_from : Stmt := top 19
abbrev N_part_from : List Str := ["web", "first", "found", "at", "dart", "there"]
abbrev p_part_from : List Str := ["web", "first"]
theorem sc_part_from : FnScope N_part_from p_part_from (defScope s_part_from) := ⟨rfl, rfl, rfl, by decide +kernel, rfl, by decide +kernel, by decide +kernel⟩
theorem fn_part_from {f : Addr} {fd : FuncData} (F : Fun K "part_from" "part_from" s_part_from f fd) (T : Txt mg) (G_place_of : DefOk P w K mg base "place_of" 1 p_place_of d_place_of) (G_other_of : DefOk P w K mg base "other_of" 1 p_other_of d_other_of) : FnD P w K mg base 2 f fd p_part_from d_part_from := by
  refine fnD_of (k := 1) (N := N_part_from) (W := [2, 3, 4, 5, 3]) (fb := b_part_from) F sc_part_from fun cdv A outer s H hgd hr => ?_
  have hu := hr.un
  have hu1 := room_u (n := 1) (k := 1) (u := (A.deeper _).units) (by decide) hu
  have hu40 := room_u (n := 40) (k := 1) (u := (A.deeper _).units) (by decide) hu
  have hu64 := room_u (n := 64) (k := 1) (u := (A.deeper _).units) (by decide) hu
  have hu65 := room_u (n := 65) (k := 1) (u := (A.deeper _).units) (by decide) hu
  exact dss_cons (ds_set (i := 2) sc_part_from.nd rfl (Or.inl rfl) (de_lst (da_cons (de_var (pv 1)) (da_nil)))) (dss_cons (ds_set (i := 3) sc_part_from.nd rfl (Or.inl rfl) (de_int)) (dss_cons (ds_while fuel PassesOwn.never (dt_cmp op_lt (o2_cmp _) (de_var (pv 3)) (de_callB cx_len cs_len (by rfl) T.b_len (by first | rfl | decide +kernel) (da_cons (de_var (pv 2)) (da_nil))) (nomark _)) (dss_cons (ds_for PassesOwn.never rfl (di_seq (de_frz (de_sub hu1 (de_var (pv 0)) (de_sub hu1 (de_var (pv 2)) (de_var (pv 3)) (fun _ _ => rfl)) (fun _ _ => rfl)))) (DG.dy (dg_name (pg_name (i := 4) sc_part_from.nd rfl (Or.inl rfl)))) (dss_cons (ds_set (i := 5) sc_part_from.nd rfl (Or.inl rfl) (de_callG G_place_of hgd hr (by decide) (by rfl) (fCons_len (fCons_len (fNil_len))) (da_cons (de_var (pv 0)) (da_cons (de_callG G_other_of hgd hr (by decide) (by rfl) (fCons_len (fNil_len)) (da_cons (de_var (pv 4)) (da_nil))) (da_nil))))) (dss_one (ds_if (dt_cmp (ox_notIn hu65) o2_notIn (de_var (pv 5)) (de_var (pv 2)) (by rfl)) (dss_one (ds_expr (de_mut (pe_bm PySem.F.plainAttrs_list PySem.F.slot_list_append PySem.F.type_list_append mt_append (DP.pe (dp_var (pv 2))) (DA.pa (da_cons (de_var (pv 5)) (da_nil)))) mu_append))) (dss_nil))))) (dss_one (ds_set (i := 3) sc_part_from.nd rfl (Or.inl rfl) (de_op ox_add o2_add (de_var (pv 3)) (de_int)))))) (dss_one (ds_ret (de_callTy call_tupOf cs_tuple (by rfl) T.b_tuple (by first | rfl | decide +kernel) (da_cons (de_callB (cx_sorted hu40) cs_sorted (by rfl) T.b_sorted (by first | rfl | decide +kernel) (da_cons (de_var (pv 2)) (da_nil))) (da_nil)))))))
theorem ok_part_from {f : Addr} {fd : FuncData} (F : Fun K "part_from" "part_from" s_part_from f fd) (mf : mg "part_from" = some (.ref f)) (T : Txt mg) (G_place_of : DefOk P w K mg base "place_of" 1 p_place_of d_place_of) (G_other_of : DefOk P w K mg base "other_of" 1 p_other_of d_other_of) : DefOk P w K mg base "part_from" 2 p_part_from d_part_from :=
  ⟨f, fd, fn_part_from F T G_place_of G_other_of, mf, F.kp, F.binds (ps := p_part_from) fun _ _ _ _ _ _ us hl => match us, hl with | [_, _], _ => rfl⟩
abbrev s_parts_of : Stmt := top 20
abbrev N_parts_of : List Str := ["web", "found", "left", "part", "place"]
abbrev p_parts_of : List Str := ["web"]
theorem sc_parts_of : FnScope N_parts_of p_parts_of (defScope s_parts_of) := ⟨rfl, rfl, rfl, by decide +kernel, rfl, by decide +kernel, by decide +kernel⟩
theorem fn_parts_of {f : Addr} {fd : FuncData} (F : Fun K "parts_of" "parts_of" s_parts_of f fd) (T : Txt mg) (G_part_from : DefOk P w K mg base "part_from" 2 p_part_from d_part_from) : FnD P w K mg base 3 f fd p_parts_of d_parts_of := by
  refine fnD_of (k := 2) (N := N_parts_of) (W := [1, 2, 3, 2]) (fb := b_parts_of) F sc_parts_of fun cdv A outer s H hgd hr => ?_
  have hu := hr.un
  have hu1 := room_u (n := 1) (k := 2) (u := (A.deeper _).units) (by decide) hu
  have hu40 := room_u (n := 40) (k := 2) (u := (A.deeper _).units) (by decide) hu
  have hu64 := room_u (n := 64) (k := 2) (u := (A.deeper _).units) (by decide) hu
  have hu65 := room_u (n := 65) (k := 2) (u := (A.deeper _).units) (by decide) hu
  exact dss_cons (ds_set (i := 1) sc_parts_of.nd rfl (Or.inl rfl) (de_lst (da_nil))) (dss_cons (ds_set (i := 2) sc_parts_of.nd rfl (Or.inl rfl) (de_lstRg1 rfl (by rfl) T.b_list (by rfl) T.b_range (de_callB cx_len cs_len (by rfl) T.b_len (by first | rfl | decide +kernel) (da_cons (de_var (pv 0)) (da_nil))))) (dss_cons (ds_while fuel PassesOwn.never (dt_cmp (ox_ne hu64) o2_ne (de_var (pv 2)) (de_lst (da_nil)) (nomark _)) (dss_cons (ds_set (i := 3) sc_parts_of.nd rfl (Or.inr rfl) (de_callG G_part_from hgd hr (by decide) (by rfl) (fCons_len (fCons_len (fNil_len))) (da_cons (de_var (pv 0)) (da_cons (de_sub hu1 (de_var (pv 2)) (de_int) (fun _ _ => rfl)) (da_nil))))) (dss_cons (ds_expr (de_mut (pe_bm PySem.F.plainAttrs_list PySem.F.slot_list_append PySem.F.type_list_append mt_append (DP.pe (dp_var (pv 1))) (DA.pa (da_cons (de_var (pv 3)) (da_nil)))) mu_append)) (dss_one (ds_setLc (i := 2) (own := [("place", 4)]) rfl sc_parts_of.nd rfl rfl (sw_true rfl rfl rfl (by decide +kernel)) (di_seq (de_frz (de_var (pv 2)))) (blkOk_by (own := [("place", 4)]) (N := N_parts_of) (sc := defScope s_parts_of) (by decide +kernel)) (fun _ _ _ _ _ => DG.dy (dg_name (pg_name (i := 4) sc_parts_of.nd rfl (Or.inl rfl)))) (fun _ _ _ _ _ => dts_one (dt_cmp (ox_notIn hu65) o2_notIn (de_var (pv 4)) (de_var (pv 3)) (by rfl))) (fun _ _ _ _ _ => de_var (pv 4)) (by decide)))))) (dss_one (ds_ret (de_callTy call_tupOf cs_tuple (by rfl) T.b_tuple (by first | rfl | decide +kernel) (da_cons (de_var (pv 1)) (da_nil)))))))
theorem ok_parts_of {f : Addr} {fd : FuncData} (F : Fun K "parts_of" "parts_of" s_parts_of f fd) (mf : mg "parts_of" = some (.ref f)) (T : Txt mg) (G_part_from : DefOk P w K mg base "part_from" 2 p_part_from d_part_from) : DefOk P w K mg base "parts_of" 3 p_parts_of d_parts_of :=
  ⟨f, fd, fn_parts_of F T G_part_from, mf, F.kp, F.binds (ps := p_parts_of) fun _ _ _ _ _ _ us hl => match us, hl with | [_], _ => rfl⟩
abbrev s_faces : Stmt := top 22
abbrev N_faces : List Str := ["web", "found", "seen", "dart", "ring", "ahead"]
abbrev p_faces : List Str := ["web"]
theorem sc_faces : FnScope N_faces p_faces (defScope s_faces) := ⟨rfl, rfl, rfl, by decide +kernel, rfl, by decide +kernel, by decide +kernel⟩
theorem fn_faces {f : Addr} {fd : FuncData} (F : Fun K "faces" "faces" s_faces f fd) (T : Txt mg) (G_ties_in : DefOk P w K mg base "ties_in" 2 p_ties_in d_ties_in) (G_next_along : DefOk P w K mg base "next_along" 3 p_next_along d_next_along) : FnD P w K mg base 4 f fd p_faces d_faces := by
  refine fnD_of (k := 3) (N := N_faces) (W := [1, 2, 3, 4, 5, 5]) (fb := b_faces) F sc_faces fun cdv A outer s H hgd hr => ?_
  have hu := hr.un
  have hu1 := room_u (n := 1) (k := 3) (u := (A.deeper _).units) (by decide) hu
  have hu40 := room_u (n := 40) (k := 3) (u := (A.deeper _).units) (by decide) hu
  have hu64 := room_u (n := 64) (k := 3) (u := (A.deeper _).units) (by decide) hu
  have hu65 := room_u (n := 65) (k := 3) (u := (A.deeper _).units) (by decide) hu
  exact dss_cons (ds_set (i := 1) sc_faces.nd rfl (Or.inl rfl) (de_lst (da_nil))) (dss_cons (ds_set (i := 2) sc_faces.nd rfl (Or.inl rfl) (de_dic0)) (dss_cons (ds_for PassesOwn.never rfl (di_rng1 (by rfl) T.b_range (da_cons (de_op ox_mul o2_mul (de_int) (de_callG G_ties_in hgd hr (by decide) (by rfl) (fCons_len (fNil_len)) (da_cons (de_var (pv 0)) (da_nil)))) (da_nil))) (DG.dy (dg_name (pg_name (i := 3) sc_faces.nd rfl (Or.inl rfl)))) (dss_one (ds_if (dt_cmp (ox_notIn hu65) o2_notIn (de_var (pv 3)) (de_var (pv 2)) (by rfl)) (dss_cons (ds_set (i := 4) sc_faces.nd rfl (Or.inl rfl) (de_lst (da_nil))) (dss_cons (ds_set (i := 5) sc_faces.nd rfl (Or.inl rfl) (de_var (pv 3))) (dss_cons (ds_while fuel PassesOwn.never (dt_cmp (ox_notIn hu65) o2_notIn (de_var (pv 5)) (de_var (pv 2)) (by rfl)) (dss_cons (ds_store (ps_asg (DE.pe (de_bl)) (pg_sub (DP.pe (dp_var (pv 2))) (DE.pe (de_var (pv 5))) (set_all hu1)))) (dss_cons (ds_expr (de_mut (pe_bm PySem.F.plainAttrs_list PySem.F.slot_list_append PySem.F.type_list_append mt_append (DP.pe (dp_var (pv 4))) (DA.pa (da_cons (de_var (pv 5)) (da_nil)))) mu_append)) (dss_one (ds_set (i := 5) sc_faces.nd rfl (Or.inl rfl) (de_callG G_next_along hgd hr (by decide) (by rfl) (fCons_len (fCons_len (fNil_len))) (da_cons (de_var (pv 0)) (da_cons (de_var (pv 5)) (da_nil))))))))) (dss_one (ds_expr (de_mut (pe_bm PySem.F.plainAttrs_list PySem.F.slot_list_append PySem.F.type_list_append mt_append (DP.pe (dp_var (pv 1))) (DA.pa (da_cons (de_callTy call_tupOf cs_tuple (by rfl) T.b_tuple (by first | rfl | decide +kernel) (da_cons (de_var (pv 4)) (da_nil))) (da_nil)))) mu_append)))))) (dss_nil)))) (dss_one (ds_ret (de_callTy call_tupOf cs_tuple (by rfl) T.b_tuple (by first | rfl | decide +kernel) (da_cons (de_var (pv 1)) (da_nil)))))))
theorem ok_faces {f : Addr} {fd : FuncData} (F : Fun K "faces" "faces" s_faces f fd) (mf : mg "faces" = some (.ref f)) (T : Txt mg) (G_ties_in : DefOk P w K mg base "ties_in" 2 p_ties_in d_ties_in) (G_next_along : DefOk P w K mg base "next_along" 3 p_next_along d_next_along) : DefOk P w K mg base "faces" 4 p_faces d_faces :=
  ⟨f, fd, fn_faces F T G_ties_in G_next_along, mf, F.kp, F.binds (ps := p_faces) fun _ _ _ _ _ _ us hl => match us, hl with | [_], _ => rfl⟩
abbrev s_face_of : Stmt := top 23
abbrev N_face_of : List Str := ["web", "dart", "ring"]
abbrev p_face_of : List Str := ["web", "dart"]
theorem sc_face_of : FnScope N_face_of p_face_of (defScope s_face_of) := ⟨rfl, rfl, rfl, by decide +kernel, rfl, by decide +kernel, by decide +kernel⟩
theorem fn_face_of {f : Addr} {fd : FuncData} (F : Fun K "face_of" "face_of" s_face_of f fd) (T : Txt mg) (G_faces : DefOk P w K mg base "faces" 4 p_faces d_faces) : FnD P w K mg base 5 f fd p_face_of d_face_of := by
  refine fnD_of (k := 4) (N := N_face_of) (W := []) (fb := b_face_of) F sc_face_of fun cdv A outer s H hgd hr => ?_
  have hu := hr.un
  have hu1 := room_u (n := 1) (k := 4) (u := (A.deeper _).units) (by decide) hu
  have hu40 := room_u (n := 40) (k := 4) (u := (A.deeper _).units) (by decide) hu
  have hu64 := room_u (n := 64) (k := 4) (u := (A.deeper _).units) (by decide) hu
  have hu65 := room_u (n := 65) (k := 4) (u := (A.deeper _).units) (by decide) hu
  exact dss_one (ds_ret (de_index (pe_bm PySem.F.plainAttrs_list PySem.F.slot_list_index PySem.F.type_list_index (mt_indexD hu65) (DE.pe (de_lc (own := [("ring", 2)]) rfl sc_face_of.nd (di_seq (de_frz (de_callG G_faces hgd hr (by decide) (by rfl) (fCons_len (fNil_len)) (da_cons (de_var (pv 0)) (da_nil))))) (blkOk_by (own := [("ring", 2)]) (N := N_face_of) (sc := defScope s_face_of) (by decide +kernel)) (fun _ _ _ _ _ => DG.dy (dg_name (pg_name (i := 2) sc_face_of.nd rfl (Or.inl rfl)))) (fun _ _ _ _ _ => dts_nil) (fun _ _ _ _ _ => de_cmp (ox_in hu65) o2_in (de_var (pv 1)) (de_var (pv 2)) (by rfl)) (by decide))) (DA.pa (da_cons (de_bl) (da_nil)))) (pe_tm PySem.F.slot_tuple_index PySem.F.type_tuple_index mt_tidx (DE.pe (de_lc (own := [("ring", 2)]) rfl sc_face_of.nd (di_seq (de_frz (de_callG G_faces hgd hr (by decide) (by rfl) (fCons_len (fNil_len)) (da_cons (de_var (pv 0)) (da_nil))))) (blkOk_by (own := [("ring", 2)]) (N := N_face_of) (sc := defScope s_face_of) (by decide +kernel)) (fun _ _ _ _ _ => DG.dy (dg_name (pg_name (i := 2) sc_face_of.nd rfl (Or.inl rfl)))) (fun _ _ _ _ _ => dts_nil) (fun _ _ _ _ _ => de_cmp (ox_in hu65) o2_in (de_var (pv 1)) (de_var (pv 2)) (by rfl)) (by decide))) (DA.pa (da_cons (de_bl) (da_nil))))))
theorem ok_face_of {f : Addr} {fd : FuncData} (F : Fun K "face_of" "face_of" s_face_of f fd) (mf : mg "face_of" = some (.ref f)) (T : Txt mg) (G_faces : DefOk P w K mg base "faces" 4 p_faces d_faces) : DefOk P w K mg base "face_of" 5 p_face_of d_face_of :=
  ⟨f, fd, fn_face_of F T G_faces, mf, F.kp, F.binds (ps := p_face_of) fun _ _ _ _ _ _ us hl => match us, hl with | [_, _], _ => rfl⟩
abbrev s_handles : Stmt := top 24
abbrev N_handles : List Str := ["web"]
abbrev p_handles : List Str := ["web"]
theorem sc_handles : FnScope N_handles p_handles (defScope s_handles) := ⟨rfl, rfl, rfl, by decide +kernel, rfl, by decide +kernel, by decide +kernel⟩
theorem fn_handles {f : Addr} {fd : FuncData} (F : Fun K "handles" "handles" s_handles f fd) (T : Txt mg) (G_parts_of : DefOk P w K mg base "parts_of" 3 p_parts_of d_parts_of) (G_ties_in : DefOk P w K mg base "ties_in" 2 p_ties_in d_ties_in) (G_faces : DefOk P w K mg base "faces" 4 p_faces d_faces) : FnD P w K mg base 5 f fd p_handles d_handles := by
  refine fnD_of (k := 4) (N := N_handles) (W := []) (fb := b_handles) F sc_handles fun cdv A outer s H hgd hr => ?_
  have hu := hr.un
  have hu1 := room_u (n := 1) (k := 4) (u := (A.deeper _).units) (by decide) hu
  have hu40 := room_u (n := 40) (k := 4) (u := (A.deeper _).units) (by decide) hu
  have hu64 := room_u (n := 64) (k := 4) (u := (A.deeper _).units) (by decide) hu
  have hu65 := room_u (n := 65) (k := 4) (u := (A.deeper _).units) (by decide) hu
  exact dss_one (ds_ret (de_op op_fdivN o2_div (de_op op_sub o2_sub (de_op op_sub o2_sub (de_op ox_add o2_add (de_op ox_mul o2_mul (de_int) (de_callB cx_len cs_len (by rfl) T.b_len (by first | rfl | decide +kernel) (da_cons (de_callG G_parts_of hgd hr (by decide) (by rfl) (fCons_len (fNil_len)) (da_cons (de_var (pv 0)) (da_nil))) (da_nil)))) (de_callG G_ties_in hgd hr (by decide) (by rfl) (fCons_len (fNil_len)) (da_cons (de_var (pv 0)) (da_nil)))) (de_callB cx_len cs_len (by rfl) T.b_len (by first | rfl | decide +kernel) (da_cons (de_var (pv 0)) (da_nil)))) (de_callB cx_len cs_len (by rfl) T.b_len (by first | rfl | decide +kernel) (da_cons (de_callG G_faces hgd hr (by decide) (by rfl) (fCons_len (fNil_len)) (da_cons (de_var (pv 0)) (da_nil))) (da_nil)))) (de_int)))
theorem ok_handles {f : Addr} {fd : FuncData} (F : Fun K "handles" "handles" s_handles f fd) (mf : mg "handles" = some (.ref f)) (T : Txt mg) (G_parts_of : DefOk P w K mg base "parts_of" 3 p_parts_of d_parts_of) (G_ties_in : DefOk P w K mg base "ties_in" 2 p_ties_in d_ties_in) (G_faces : DefOk P w K mg base "faces" 4 p_faces d_faces) : DefOk P w K mg base "handles" 5 p_handles d_handles :=
  ⟨f, fd, fn_handles F T G_parts_of G_ties_in G_faces, mf, F.kp, F.binds (ps := p_handles) fun _ _ _ _ _ _ us hl => match us, hl with | [_], _ => rfl⟩
abbrev s_is_flat : Stmt := top 25
abbrev N_is_flat : List Str := ["web"]
abbrev p_is_flat : List Str := ["web"]
theorem sc_is_flat : FnScope N_is_flat p_is_flat (defScope s_is_flat) := ⟨rfl, rfl, rfl, by decide +kernel, rfl, by decide +kernel, by decide +kernel⟩
theorem fn_is_flat {f : Addr} {fd : FuncData} (F : Fun K "is_flat" "is_flat" s_is_flat f fd) (T : Txt mg) (G_parts_of : DefOk P w K mg base "parts_of" 3 p_parts_of d_parts_of) (G_handles : DefOk P w K mg base "handles" 5 p_handles d_handles) : FnD P w K mg base 6 f fd p_is_flat d_is_flat := by
  refine fnD_of (k := 5) (N := N_is_flat) (W := []) (fb := b_is_flat) F sc_is_flat fun cdv A outer s H hgd hr => ?_
  have hu := hr.un
  have hu1 := room_u (n := 1) (k := 5) (u := (A.deeper _).units) (by decide) hu
  have hu40 := room_u (n := 40) (k := 5) (u := (A.deeper _).units) (by decide) hu
  have hu64 := room_u (n := 64) (k := 5) (u := (A.deeper _).units) (by decide) hu
  have hu65 := room_u (n := 65) (k := 5) (u := (A.deeper _).units) (by decide) hu
  exact dss_one (ds_ret (de_and (de_cmp (ox_eq hu64) o2_eq (de_callB cx_len cs_len (by rfl) T.b_len (by first | rfl | decide +kernel) (da_cons (de_callG G_parts_of hgd hr (by decide) (by rfl) (fCons_len (fNil_len)) (da_cons (de_var (pv 0)) (da_nil))) (da_nil))) (de_int) (nomark _)) (de_one (de_cmp (ox_eq hu64) o2_eq (de_callG G_handles hgd hr (by decide) (by rfl) (fCons_len (fNil_len)) (da_cons (de_var (pv 0)) (da_nil))) (de_int) (nomark _)))))
theorem ok_is_flat {f : Addr} {fd : FuncData} (F : Fun K "is_flat" "is_flat" s_is_flat f fd) (mf : mg "is_flat" = some (.ref f)) (T : Txt mg) (G_parts_of : DefOk P w K mg base "parts_of" 3 p_parts_of d_parts_of) (G_handles : DefOk P w K mg base "handles" 5 p_handles d_handles) : DefOk P w K mg base "is_flat" 6 p_is_flat d_is_flat :=
  ⟨f, fd, fn_is_flat F T G_parts_of G_handles, mf, F.kp, F.binds (ps := p_is_flat) fun _ _ _ _ _ _ us hl => match us, hl with | [_], _ => rfl⟩
abbrev s_hold_room : Stmt := top 27
abbrev N_hold_room : List Str := ["web"]
abbrev p_hold_room : List Str := ["web"]
theorem sc_hold_room : FnScope N_hold_room p_hold_room (defScope s_hold_room) := ⟨rfl, rfl, rfl, by decide +kernel, rfl, by decide +kernel, by decide +kernel⟩
theorem fn_hold_room {f : Addr} {fd : FuncData} (F : Fun K "hold_room" "hold_room" s_hold_room f fd) (T : Txt mg) (G_ties_in : DefOk P w K mg base "ties_in" 2 p_ties_in d_ties_in) (M_TooMany : MkX P w K mg base "TooMany" ["word"]) : FnX P w K mg base 3 f fd p_hold_room d_hold_room := by
  refine fnX_of (k := 2) (N := N_hold_room) (W := []) (fb := b_hold_room) F sc_hold_room fun cdv A outer s H E hgd hr => ?_
  have hu := hr.un
  have hu1 := room_u (n := 1) (k := 2) (u := (A.deeper _).units) (by decide) hu
  have hu40 := room_u (n := 40) (k := 2) (u := (A.deeper _).units) (by decide) hu
  have hu64 := room_u (n := 64) (k := 2) (u := (A.deeper _).units) (by decide) hu
  have hu65 := room_u (n := 65) (k := 2) (u := (A.deeper _).units) (by decide) hu
  exact dssx_one (dsx_if (dt_cmp op_ge (o2_cmp _) (de_callG G_ties_in hgd hr (by decide) (by rfl) (fCons_len (fNil_len)) (da_cons (de_var (pv 0)) (da_nil))) (de_glob T.g_MOST_TIES (by rfl)) (nomark _)) (dssx_one (dsx_raise rfl takesX M_TooMany hr (by decide) (by rfl) (da_cons (de_str) (da_nil)))) (dssx_of dss_nil))
theorem ok_hold_room {f : Addr} {fd : FuncData} (F : Fun K "hold_room" "hold_room" s_hold_room f fd) (mf : mg "hold_room" = some (.ref f)) (T : Txt mg) (G_ties_in : DefOk P w K mg base "ties_in" 2 p_ties_in d_ties_in) (M_TooMany : MkX P w K mg base "TooMany" ["word"]) : DefX P w K mg base "hold_room" 3 p_hold_room d_hold_room :=
  ⟨f, fd, fn_hold_room F T G_ties_in M_TooMany, mf, F.kp, F.binds (ps := p_hold_room) fun _ _ _ _ _ _ us hl => match us, hl with | [_], _ => rfl⟩
abbrev s_put_ahead : Stmt := top 28
abbrev N_put_ahead : List Str := ["rows", "dart", "fresh", "found", "row", "at"]
abbrev p_put_ahead : List Str := ["rows", "dart", "fresh"]
theorem sc_put_ahead : FnScope N_put_ahead p_put_ahead (defScope s_put_ahead) := ⟨rfl, rfl, rfl, by decide +kernel, rfl, by decide +kernel, by decide +kernel⟩
theorem fn_put_ahead {f : Addr} {fd : FuncData} (F : Fun K "put_ahead" "put_ahead" s_put_ahead f fd) (T : Txt mg)  : FnD P w K mg base 1 f fd p_put_ahead d_put_ahead := by
  refine fnD_of (k := 0) (N := N_put_ahead) (W := [3, 4, 5]) (fb := b_put_ahead) F sc_put_ahead fun cdv A outer s H hgd hr => ?_
  have hu := hr.un
  have hu1 := room_u (n := 1) (k := 0) (u := (A.deeper _).units) (by decide) hu
  have hu40 := room_u (n := 40) (k := 0) (u := (A.deeper _).units) (by decide) hu
  have hu64 := room_u (n := 64) (k := 0) (u := (A.deeper _).units) (by decide) hu
  have hu65 := room_u (n := 65) (k := 0) (u := (A.deeper _).units) (by decide) hu
  exact dss_cons (ds_set (i := 3) sc_put_ahead.nd rfl (Or.inl rfl) (de_lst (da_nil))) (dss_cons (ds_for PassesOwn.never rfl (di_seq (de_frz (de_var (pv 0)))) (DG.dy (dg_name (pg_name (i := 4) sc_put_ahead.nd rfl (Or.inl rfl)))) (dss_one (ds_if (dt_cmp (ox_in hu65) o2_in (de_var (pv 1)) (de_var (pv 4)) (by rfl)) (dss_cons (ds_set (i := 5) sc_put_ahead.nd rfl (Or.inl rfl) (de_index (pe_bm PySem.F.plainAttrs_list PySem.F.slot_list_index PySem.F.type_list_index (mt_indexD hu65) (DE.pe (de_var (pv 4))) (DA.pa (da_cons (de_var (pv 1)) (da_nil)))) (pe_tm PySem.F.slot_tuple_index PySem.F.type_tuple_index mt_tidx (DE.pe (de_var (pv 4))) (DA.pa (da_cons (de_var (pv 1)) (da_nil)))))) (dss_one (ds_expr (de_mut (pe_bm PySem.F.plainAttrs_list PySem.F.slot_list_append PySem.F.type_list_append mt_append (DP.pe (dp_var (pv 3))) (DA.pa (da_cons (de_op ox_add o2_add (de_op ox_add o2_add (de_cut (de_var (pv 4)) (do_none) (do_some (de_var (pv 5)))) (de_tup (da_cons (de_var (pv 2)) (da_nil)))) (de_cut (de_var (pv 4)) (do_some (de_var (pv 5))) (do_none))) (da_nil)))) mu_append)))) (dss_one (ds_expr (de_mut (pe_bm PySem.F.plainAttrs_list PySem.F.slot_list_append PySem.F.type_list_append mt_append (DP.pe (dp_var (pv 3))) (DA.pa (da_cons (de_var (pv 4)) (da_nil)))) mu_append)))))) (dss_one (ds_ret (de_var (pv 3)))))
theorem ok_put_ahead {f : Addr} {fd : FuncData} (F : Fun K "put_ahead" "put_ahead" s_put_ahead f fd) (mf : mg "put_ahead" = some (.ref f)) (T : Txt mg)  : DefOk P w K mg base "put_ahead" 1 p_put_ahead d_put_ahead :=
  ⟨f, fd, fn_put_ahead F T , mf, F.kp, F.binds (ps := p_put_ahead) fun _ _ _ _ _ _ us hl => match us, hl with | [_, _, _], _ => rfl⟩
abbrev s_drawn_in : Stmt := top 29
abbrev N_drawn_in : List Str := ["web", "one", "other", "many"]
abbrev p_drawn_in : List Str := ["web", "one", "other"]
theorem sc_drawn_in : FnScope N_drawn_in p_drawn_in (defScope s_drawn_in) := ⟨rfl, rfl, rfl, by decide +kernel, rfl, by decide +kernel, by decide +kernel⟩
theorem fn_drawn_in {f : Addr} {fd : FuncData} (F : Fun K "drawn_in" "drawn_in" s_drawn_in f fd) (T : Txt mg) (G_begun_rows : DefOk P w K mg base "begun_rows" 1 p_begun_rows d_begun_rows) (G_put_ahead : DefOk P w K mg base "put_ahead" 1 p_put_ahead d_put_ahead) (G_ties_in : DefOk P w K mg base "ties_in" 2 p_ties_in d_ties_in) (G_face_of : DefOk P w K mg base "face_of" 5 p_face_of d_face_of) (G_hold_room : DefX P w K mg base "hold_room" 3 p_hold_room d_hold_room) (M_NoAlong : MkX P w K mg base "NoAlong" ["dart"]) : FnX P w K mg base 6 f fd p_drawn_in d_drawn_in := by
  refine fnX_of (k := 5) (N := N_drawn_in) (W := [3]) (fb := b_drawn_in) F sc_drawn_in fun cdv A outer s H E hgd hr => ?_
  have hu := hr.un
  have hu1 := room_u (n := 1) (k := 5) (u := (A.deeper _).units) (by decide) hu
  have hu40 := room_u (n := 40) (k := 5) (u := (A.deeper _).units) (by decide) hu
  have hu64 := room_u (n := 64) (k := 5) (u := (A.deeper _).units) (by decide) hu
  have hu65 := room_u (n := 65) (k := 5) (u := (A.deeper _).units) (by decide) hu
  exact dssx_cons (dsx_expr (dex_call G_hold_room takesX hgd hr (by decide) (by rfl) (xA_len (fCons_len (fNil_len))) (dax_of (da_cons (de_var (pv 0)) (da_nil))))) (dssx_cons (dsx_if (dt_cmp (ox_ne hu64) o2_ne (de_callG G_face_of hgd hr (by decide) (by rfl) (fCons_len (fCons_len (fNil_len))) (da_cons (de_var (pv 0)) (da_cons (de_var (pv 1)) (da_nil)))) (de_callG G_face_of hgd hr (by decide) (by rfl) (fCons_len (fCons_len (fNil_len))) (da_cons (de_var (pv 0)) (da_cons (de_var (pv 2)) (da_nil)))) (nomark _)) (dssx_one (dsx_raise rfl takesX M_NoAlong hr (by decide) (by rfl) (da_cons (de_var (pv 2)) (da_nil)))) (dssx_of dss_nil)) (dssx_cons (dsx_of (ds_set (i := 3) sc_drawn_in.nd rfl (Or.inl rfl) (de_callG G_ties_in hgd hr (by decide) (by rfl) (fCons_len (fNil_len)) (da_cons (de_var (pv 0)) (da_nil))))) (dssx_one (dsx_of (ds_ret (de_callG G_begun_rows hgd hr (by decide) (by rfl) (fCons_len (fNil_len)) (da_cons (de_callG G_put_ahead hgd hr (by decide) (by rfl) (fCons_len (fCons_len (fCons_len (fNil_len)))) (da_cons (de_callG G_put_ahead hgd hr (by decide) (by rfl) (fCons_len (fCons_len (fCons_len (fNil_len)))) (da_cons (de_var (pv 0)) (da_cons (de_var (pv 1)) (da_cons (de_op ox_mul o2_mul (de_int) (de_var (pv 3))) (da_nil))))) (da_cons (de_var (pv 2)) (da_cons (de_op ox_add o2_add (de_op ox_mul o2_mul (de_int) (de_var (pv 3))) (de_int)) (da_nil))))) (da_nil))))))))
theorem ok_drawn_in {f : Addr} {fd : FuncData} (F : Fun K "drawn_in" "drawn_in" s_drawn_in f fd) (mf : mg "drawn_in" = some (.ref f)) (T : Txt mg) (G_begun_rows : DefOk P w K mg base "begun_rows" 1 p_begun_rows d_begun_rows) (G_put_ahead : DefOk P w K mg base "put_ahead" 1 p_put_ahead d_put_ahead) (G_ties_in : DefOk P w K mg base "ties_in" 2 p_ties_in d_ties_in) (G_face_of : DefOk P w K mg base "face_of" 5 p_face_of d_face_of) (G_hold_room : DefX P w K mg base "hold_room" 3 p_hold_room d_hold_room) (M_NoAlong : MkX P w K mg base "NoAlong" ["dart"]) : DefX P w K mg base "drawn_in" 6 p_drawn_in d_drawn_in :=
  ⟨f, fd, fn_drawn_in F T G_begun_rows G_put_ahead G_ties_in G_face_of G_hold_room M_NoAlong, mf, F.kp, F.binds (ps := p_drawn_in) fun _ _ _ _ _ _ us hl => match us, hl with | [_, _, _], _ => rfl⟩
abbrev s__law_feed : Stmt := top 31
abbrev N__law_feed : List Str := ["_law_script"]
abbrev p__law_feed : List Str := ["_law_script"]
theorem sc__law_feed : FnScope N__law_feed p__law_feed (defScope s__law_feed) := ⟨rfl, rfl, rfl, by decide +kernel, rfl, by decide +kernel, by decide +kernel⟩
theorem fn__law_feed {f : Addr} {fd : FuncData} (F : Fun K "_law_feed" "_law_feed" s__law_feed f fd) (T : Txt mg)  : FnD P w K mg base 1 f fd p__law_feed d__law_feed := by
  refine fnD_of (k := 0) (N := N__law_feed) (W := []) (fb := b__law_feed) F sc__law_feed fun cdv A outer s H hgd hr => ?_
  have hu := hr.un
  have hu1 := room_u (n := 1) (k := 0) (u := (A.deeper _).units) (by decide) hu
  have hu40 := room_u (n := 40) (k := 0) (u := (A.deeper _).units) (by decide) hu
  have hu64 := room_u (n := 64) (k := 0) (u := (A.deeper _).units) (by decide) hu
  have hu65 := room_u (n := 65) (k := 0) (u := (A.deeper _).units) (by decide) hu
  exact dss_one (ds_ret (de_dic (dpp_cons (de_str) (de_frz (de_cut (de_var (pv 0)) (do_none) (do_some (de_int)))) (dpp_cons (de_str) (de_int) (dpp_cons (de_str) (de_int) (dpp_cons (de_str) (de_int) (dpp_nil))))) rfl rfl (fun z => nomatch z) (by decide)))
theorem ok__law_feed {f : Addr} {fd : FuncData} (F : Fun K "_law_feed" "_law_feed" s__law_feed f fd) (mf : mg "_law_feed" = some (.ref f)) (T : Txt mg)  : DefOk P w K mg base "_law_feed" 1 p__law_feed d__law_feed :=
  ⟨f, fd, fn__law_feed F T , mf, F.kp, F.binds (ps := p__law_feed) fun _ _ _ _ _ _ us hl => match us, hl with | [_], _ => rfl⟩
abbrev s__law_draw : Stmt := top 32
abbrev N__law_draw : List Str := ["_law_feed_here", "_law_many", "_law_turn_here", "_law_digit", "_law_cells", "_law_at", "_law_cell", "_law_mixed"]
abbrev p__law_draw : List Str := ["_law_feed_here", "_law_many"]
theorem sc__law_draw : FnScope N__law_draw p__law_draw (defScope s__law_draw) := ⟨rfl, rfl, rfl, by decide +kernel, rfl, by decide +kernel, by decide +kernel⟩
theorem fn__law_draw {f : Addr} {fd : FuncData} (F : Fun K "_law_draw" "_law_draw" s__law_draw f fd) (T : Txt mg)  : FnD P w K mg base 1 f fd p__law_draw d__law_draw := by
  refine fnD_of (k := 0) (N := N__law_draw) (W := [2, 3, 4, 5, 6, 7, 7]) (fb := b__law_draw) F sc__law_draw fun cdv A outer s H hgd hr => ?_
  have hu := hr.un
  have hu1 := room_u (n := 1) (k := 0) (u := (A.deeper _).units) (by decide) hu
  have hu40 := room_u (n := 40) (k := 0) (u := (A.deeper _).units) (by decide) hu
  have hu64 := room_u (n := 64) (k := 0) (u := (A.deeper _).units) (by decide) hu
  have hu65 := room_u (n := 65) (k := 0) (u := (A.deeper _).units) (by decide) hu
  exact dss_cons (ds_set (i := 2) sc__law_draw.nd rfl (Or.inl rfl) (de_op ox_add o2_add (de_sub hu1 (de_var (pv 0)) (de_str) (fun _ _ => rfl)) (de_int))) (dss_cons (ds_store (ps_asg (DE.pe (de_var (pv 2))) (pg_sub (DP.pe (dp_var (pv 0))) (DE.pe (de_str)) (set_all hu1)))) (dss_cons (ds_if (dt_cmp op_gt (o2_cmp _) (de_sub hu1 (de_var (pv 0)) (de_str) (fun _ _ => rfl)) (de_int) (nomark _)) (dss_cons (ds_set (i := 3) sc__law_draw.nd rfl (Or.inl rfl) (de_op op_modN o2_mod (de_sub hu1 (de_var (pv 0)) (de_str) (fun _ _ => rfl)) (de_var (pv 1)))) (dss_cons (ds_store (ps_asg (DE.pe (de_op op_fdivN o2_div (de_sub hu1 (de_var (pv 0)) (de_str) (fun _ _ => rfl)) (de_var (pv 1)))) (pg_sub (DP.pe (dp_var (pv 0))) (DE.pe (de_str)) (set_all hu1)))) (dss_one (ds_ret (de_var (pv 3)))))) (dss_nil)) (dss_cons (ds_set (i := 4) sc__law_draw.nd rfl (Or.inl rfl) (de_sub hu1 (de_var (pv 0)) (de_str) (fun _ _ => rfl))) (dss_cons (ds_set (i := 5) sc__law_draw.nd rfl (Or.inl rfl) (de_sub hu1 (de_var (pv 0)) (de_str) (fun _ _ => rfl))) (dss_cons (ds_store (ps_asg (DE.pe (de_op ox_add o2_add (de_var (pv 5)) (de_int))) (pg_sub (DP.pe (dp_var (pv 0))) (DE.pe (de_str)) (set_all hu1)))) (dss_cons (ds_set (i := 6) sc__law_draw.nd rfl (Or.inl rfl) (de_ifx (dt_cmp (ox_ne hu64) o2_ne (de_var (pv 4)) (de_lst (da_nil)) (nomark _)) (de_sub hu1 (de_var (pv 4)) (de_op op_modN o2_mod (de_var (pv 5)) (de_callB cx_len cs_len (by rfl) T.b_len (by first | rfl | decide +kernel) (da_cons (de_var (pv 4)) (da_nil)))) (fun _ _ => rfl)) (de_int))) (dss_cons (ds_if (DW.dt (dw_and (dt_cmp op_ge (o2_cmp _) (de_var (pv 6)) (de_op op_pow o2_pow (de_int) (de_int)) (nomark _)) (dw_and1 (dt_cmp op_lt (o2_cmp _) (de_var (pv 5)) (de_callB cx_len cs_len (by rfl) T.b_len (by first | rfl | decide +kernel) (da_cons (de_var (pv 4)) (da_nil))) (nomark _))))) (dss_cons (ds_store (ps_asg (DE.pe (de_op op_fdivN o2_div (de_var (pv 6)) (de_var (pv 1)))) (pg_sub (DP.pe (dp_var (pv 0))) (DE.pe (de_str)) (set_all hu1)))) (dss_one (ds_ret (de_op op_modN o2_mod (de_var (pv 6)) (de_var (pv 1)))))) (dss_nil)) (dss_cons (ds_set (i := 7) sc__law_draw.nd rfl (Or.inl rfl) (de_op op_modN o2_mod (de_op ox_mul o2_mul (de_op ox_add o2_add (de_op op_modN o2_mod (de_var (pv 6)) (de_int)) (de_int)) (de_op ox_add o2_add (de_op ox_mul o2_mul (de_int) (de_var (pv 2))) (de_int))) (de_int))) (dss_cons (ds_set (i := 7) sc__law_draw.nd rfl (Or.inl rfl) (de_op op_modN o2_mod (de_op ox_mul o2_mul (de_op ox_add o2_add (de_op op_modN o2_mod (de_op op_pow o2_pow (de_var (pv 7)) (de_int)) (de_int)) (de_var (pv 2))) (de_int)) (de_int))) (dss_one (ds_ret (de_op op_modN o2_mod (de_op op_fdivN o2_div (de_var (pv 7)) (de_int)) (de_var (pv 1))))))))))))))
theorem ok__law_draw {f : Addr} {fd : FuncData} (F : Fun K "_law_draw" "_law_draw" s__law_draw f fd) (mf : mg "_law_draw" = some (.ref f)) (T : Txt mg)  : DefOk P w K mg base "_law_draw" 1 p__law_draw d__law_draw :=
  ⟨f, fd, fn__law_draw F T , mf, F.kp, F.binds (ps := p__law_draw) fun _ _ _ _ _ _ us hl => match us, hl with | [_, _], _ => rfl⟩
abbrev s__law_begun : Stmt := top 33
abbrev N__law_begun : List Str := ["_law_rows", "_law_found", "_law_row", "_law_at"]
abbrev p__law_begun : List Str := ["_law_rows"]
theorem sc__law_begun : FnScope N__law_begun p__law_begun (defScope s__law_begun) := ⟨rfl, rfl, rfl, by decide +kernel, rfl, by decide +kernel, by decide +kernel⟩
theorem fn__law_begun {f : Addr} {fd : FuncData} (F : Fun K "_law_begun" "_law_begun" s__law_begun f fd) (T : Txt mg)  : FnD P w K mg base 1 f fd p__law_begun d__law_begun := by
  refine fnD_of (k := 0) (N := N__law_begun) (W := [1, 2, 3]) (fb := b__law_begun) F sc__law_begun fun cdv A outer s H hgd hr => ?_
  have hu := hr.un
  have hu1 := room_u (n := 1) (k := 0) (u := (A.deeper _).units) (by decide) hu
  have hu40 := room_u (n := 40) (k := 0) (u := (A.deeper _).units) (by decide) hu
  have hu64 := room_u (n := 64) (k := 0) (u := (A.deeper _).units) (by decide) hu
  have hu65 := room_u (n := 65) (k := 0) (u := (A.deeper _).units) (by decide) hu
  exact dss_cons (ds_set (i := 1) sc__law_begun.nd rfl (Or.inl rfl) (de_lst (da_nil))) (dss_cons (ds_for PassesOwn.never rfl (di_seq (de_frz (de_var (pv 0)))) (DG.dy (dg_name (pg_name (i := 2) sc__law_begun.nd rfl (Or.inl rfl)))) (dss_cons (ds_set (i := 3) sc__law_begun.nd rfl (Or.inl rfl) (de_index (pe_bm PySem.F.plainAttrs_list PySem.F.slot_list_index PySem.F.type_list_index (mt_indexD hu65) (DE.pe (de_var (pv 2))) (DA.pa (da_cons (de_callB (cx_min rfl hu1) (cs_mm min) (by rfl) T.b_min (by first | rfl | decide +kernel) (da_cons (de_var (pv 2)) (da_nil))) (da_nil)))) (pe_tm PySem.F.slot_tuple_index PySem.F.type_tuple_index mt_tidx (DE.pe (de_var (pv 2))) (DA.pa (da_cons (de_callB (cx_min rfl hu1) (cs_mm min) (by rfl) T.b_min (by first | rfl | decide +kernel) (da_cons (de_var (pv 2)) (da_nil))) (da_nil)))))) (dss_one (ds_expr (de_mut (pe_bm PySem.F.plainAttrs_list PySem.F.slot_list_append PySem.F.type_list_append mt_append (DP.pe (dp_var (pv 1))) (DA.pa (da_cons (de_callTy call_tupOf cs_tuple (by rfl) T.b_tuple (by first | rfl | decide +kernel) (da_cons (de_op ox_add o2_add (de_cut (de_var (pv 2)) (do_some (de_var (pv 3))) (do_none)) (de_cut (de_var (pv 2)) (do_none) (do_some (de_var (pv 3))))) (da_nil))) (da_nil)))) mu_append))))) (dss_one (ds_ret (de_callTy call_tupOf cs_tuple (by rfl) T.b_tuple (by first | rfl | decide +kernel) (da_cons (de_callB (cx_sorted hu40) cs_sorted (by rfl) T.b_sorted (by first | rfl | decide +kernel) (da_cons (de_var (pv 1)) (da_nil))) (da_nil))))))
theorem ok__law_begun {f : Addr} {fd : FuncData} (F : Fun K "_law_begun" "_law_begun" s__law_begun f fd) (mf : mg "_law_begun" = some (.ref f)) (T : Txt mg)  : DefOk P w K mg base "_law_begun" 1 p__law_begun d__law_begun :=
  ⟨f, fd, fn__law_begun F T , mf, F.kp, F.binds (ps := p__law_begun) fun _ _ _ _ _ _ us hl => match us, hl with | [_], _ => rfl⟩
abbrev s__law_behind : Stmt := top 34
abbrev N__law_behind : List Str := ["_law_rows", "_law_dart", "_law_row"]
abbrev p__law_behind : List Str := ["_law_rows", "_law_dart"]
theorem sc__law_behind : FnScope N__law_behind p__law_behind (defScope s__law_behind) := ⟨rfl, rfl, rfl, by decide +kernel, rfl, by decide +kernel, by decide +kernel⟩
theorem fn__law_behind {f : Addr} {fd : FuncData} (F : Fun K "_law_behind" "_law_behind" s__law_behind f fd) (T : Txt mg)  : FnD P w K mg base 1 f fd p__law_behind d__law_behind := by
  refine fnD_of (k := 0) (N := N__law_behind) (W := [2]) (fb := b__law_behind) F sc__law_behind fun cdv A outer s H hgd hr => ?_
  have hu := hr.un
  have hu1 := room_u (n := 1) (k := 0) (u := (A.deeper _).units) (by decide) hu
  have hu40 := room_u (n := 40) (k := 0) (u := (A.deeper _).units) (by decide) hu
  have hu64 := room_u (n := 64) (k := 0) (u := (A.deeper _).units) (by decide) hu
  have hu65 := room_u (n := 65) (k := 0) (u := (A.deeper _).units) (by decide) hu
  exact dss_cons (ds_set (i := 2) sc__law_behind.nd rfl (Or.inl rfl) (de_sub hu1 (de_lc (own := [("_law_row", 2)]) rfl sc__law_behind.nd (di_seq (de_frz (de_var (pv 0)))) (blkOk_by (own := [("_law_row", 2)]) (N := N__law_behind) (sc := defScope s__law_behind) (by decide +kernel)) (fun _ _ _ _ _ => DG.dy (dg_name (pg_name (i := 2) sc__law_behind.nd rfl (Or.inl rfl)))) (fun _ _ _ _ _ => dts_one (dt_cmp (ox_in hu65) o2_in (de_var (pv 1)) (de_var (pv 2)) (by rfl))) (fun _ _ _ _ _ => de_var (pv 2)) (by decide)) (de_int) (fun _ _ => rfl))) (dss_one (ds_ret (de_sub hu1 (de_var (pv 2)) (de_op op_modN o2_mod (de_op ox_add o2_add (de_index (pe_bm PySem.F.plainAttrs_list PySem.F.slot_list_index PySem.F.type_list_index (mt_indexD hu65) (DE.pe (de_var (pv 2))) (DA.pa (da_cons (de_var (pv 1)) (da_nil)))) (pe_tm PySem.F.slot_tuple_index PySem.F.type_tuple_index mt_tidx (DE.pe (de_var (pv 2))) (DA.pa (da_cons (de_var (pv 1)) (da_nil))))) (de_int)) (de_callB cx_len cs_len (by rfl) T.b_len (by first | rfl | decide +kernel) (da_cons (de_var (pv 2)) (da_nil)))) (fun _ _ => rfl))))
theorem ok__law_behind {f : Addr} {fd : FuncData} (F : Fun K "_law_behind" "_law_behind" s__law_behind f fd) (mf : mg "_law_behind" = some (.ref f)) (T : Txt mg)  : DefOk P w K mg base "_law_behind" 1 p__law_behind d__law_behind :=
  ⟨f, fd, fn__law_behind F T , mf, F.kp, F.binds (ps := p__law_behind) fun _ _ _ _ _ _ us hl => match us, hl with | [_, _], _ => rfl⟩
abbrev s__law_ring : Stmt := top 35
abbrev N__law_ring : List Str := ["_law_rows", "_law_dart", "_law_ring_here", "_law_ahead"]
abbrev p__law_ring : List Str := ["_law_rows", "_law_dart"]
theorem sc__law_ring : FnScope N__law_ring p__law_ring (defScope s__law_ring) := ⟨rfl, rfl, rfl, by decide +kernel, rfl, by decide +kernel, by decide +kernel⟩
theorem fn__law_ring {f : Addr} {fd : FuncData} (F : Fun K "_law_ring" "_law_ring" s__law_ring f fd) (T : Txt mg) (G__law_behind : DefOk P w K mg base "_law_behind" 1 p__law_behind d__law_behind) : FnD P w K mg base 2 f fd p__law_ring d__law_ring := by
  refine fnD_of (k := 1) (N := N__law_ring) (W := [2, 3, 3]) (fb := b__law_ring) F sc__law_ring fun cdv A outer s H hgd hr => ?_
  have hu := hr.un
  have hu1 := room_u (n := 1) (k := 1) (u := (A.deeper _).units) (by decide) hu
  have hu40 := room_u (n := 40) (k := 1) (u := (A.deeper _).units) (by decide) hu
  have hu64 := room_u (n := 64) (k := 1) (u := (A.deeper _).units) (by decide) hu
  have hu65 := room_u (n := 65) (k := 1) (u := (A.deeper _).units) (by decide) hu
  exact dss_cons (ds_set (i := 2) sc__law_ring.nd rfl (Or.inl rfl) (de_lst (da_cons (de_var (pv 1)) (da_nil)))) (dss_cons (ds_set (i := 3) sc__law_ring.nd rfl (Or.inl rfl) (de_callG G__law_behind hgd hr (by decide) (by rfl) (fCons_len (fCons_len (fNil_len))) (da_cons (de_var (pv 0)) (da_cons (de_op op_xor o2_xor (de_var (pv 1)) (de_int)) (da_nil))))) (dss_cons (ds_while fuel PassesOwn.never (dt_cmp (ox_ne hu64) o2_ne (de_var (pv 3)) (de_var (pv 1)) (nomark _)) (dss_cons (ds_expr (de_mut (pe_bm PySem.F.plainAttrs_list PySem.F.slot_list_append PySem.F.type_list_append mt_append (DP.pe (dp_var (pv 2))) (DA.pa (da_cons (de_var (pv 3)) (da_nil)))) mu_append)) (dss_one (ds_set (i := 3) sc__law_ring.nd rfl (Or.inl rfl) (de_callG G__law_behind hgd hr (by decide) (by rfl) (fCons_len (fCons_len (fNil_len))) (da_cons (de_var (pv 0)) (da_cons (de_op op_xor o2_xor (de_var (pv 3)) (de_int)) (da_nil)))))))) (dss_one (ds_ret (de_var (pv 2))))))
theorem ok__law_ring {f : Addr} {fd : FuncData} (F : Fun K "_law_ring" "_law_ring" s__law_ring f fd) (mf : mg "_law_ring" = some (.ref f)) (T : Txt mg) (G__law_behind : DefOk P w K mg base "_law_behind" 1 p__law_behind d__law_behind) : DefOk P w K mg base "_law_ring" 2 p__law_ring d__law_ring :=
  ⟨f, fd, fn__law_ring F T G__law_behind, mf, F.kp, F.binds (ps := p__law_ring) fun _ _ _ _ _ _ us hl => match us, hl with | [_, _], _ => rfl⟩
abbrev s__law_turn : Stmt := top 36
abbrev N__law_turn : List Str := ["_law_feed_here", "_law_many", "_law_left", "_law_k"]
abbrev p__law_turn : List Str := ["_law_feed_here", "_law_many"]
theorem sc__law_turn : FnScope N__law_turn p__law_turn (defScope s__law_turn) := ⟨rfl, rfl, rfl, by decide +kernel, rfl, by decide +kernel, by decide +kernel⟩
theorem fn__law_turn {f : Addr} {fd : FuncData} (F : Fun K "_law_turn" "_law_turn" s__law_turn f fd) (T : Txt mg) (G__law_draw : DefOk P w K mg base "_law_draw" 1 p__law_draw d__law_draw) : FnD P w K mg base 2 f fd p__law_turn d__law_turn := by
  refine fnD_of (k := 1) (N := N__law_turn) (W := [2]) (fb := b__law_turn) F sc__law_turn fun cdv A outer s H hgd hr => ?_
  have hu := hr.un
  have hu1 := room_u (n := 1) (k := 1) (u := (A.deeper _).units) (by decide) hu
  have hu40 := room_u (n := 40) (k := 1) (u := (A.deeper _).units) (by decide) hu
  have hu64 := room_u (n := 64) (k := 1) (u := (A.deeper _).units) (by decide) hu
  have hu65 := room_u (n := 65) (k := 1) (u := (A.deeper _).units) (by decide) hu
  exact dss_cons (ds_set (i := 2) sc__law_turn.nd rfl (Or.inr rfl) (de_lstRg1 rfl (by rfl) T.b_list (by rfl) T.b_range (de_var (pv 1)))) (dss_one (ds_ret (de_callTy call_tupOf cs_tuple (by rfl) T.b_tuple (by first | rfl | decide +kernel) (da_cons (de_lc (own := [("_law_k", 3)]) rfl sc__law_turn.nd (di_rng1 (by rfl) T.b_range (da_cons (de_var (pv 1)) (da_nil))) (blkOk_by (own := [("_law_k", 3)]) (N := N__law_turn) (sc := defScope s__law_turn) (by decide +kernel)) (fun _ _ _ _ _ => DG.dy (dg_name (pg_name (i := 3) sc__law_turn.nd rfl (Or.inl rfl)))) (fun _ _ _ _ _ => dts_nil) (fun _ _ _ _ _ => de_op ox_add o2_add (de_op ox_mul o2_mul (de_int) (de_mut (pe_bm PySem.F.plainAttrs_list PySem.F.slot_list_pop PySem.F.type_list_pop mt_popAt (DP.pe (dp_var (pv 2))) (DA.pa (da_cons (de_callG G__law_draw hgd hr (by decide) (by rfl) (fCons_len (fCons_len (fNil_len))) (da_cons (de_var (pv 0)) (da_cons (de_callB cx_len cs_len (by rfl) T.b_len (by first | rfl | decide +kernel) (da_cons (de_var (pv 2)) (da_nil))) (da_nil)))) (da_nil)))) mu_popAt)) (de_callG G__law_draw hgd hr (by decide) (by rfl) (fCons_len (fCons_len (fNil_len))) (da_cons (de_var (pv 0)) (da_cons (de_int) (da_nil))))) (by decide)) (da_nil)))))
theorem ok__law_turn {f : Addr} {fd : FuncData} (F : Fun K "_law_turn" "_law_turn" s__law_turn f fd) (mf : mg "_law_turn" = some (.ref f)) (T : Txt mg) (G__law_draw : DefOk P w K mg base "_law_draw" 1 p__law_draw d__law_draw) : DefOk P w K mg base "_law_turn" 2 p__law_turn d__law_turn :=
  ⟨f, fd, fn__law_turn F T G__law_draw, mf, F.kp, F.binds (ps := p__law_turn) fun _ _ _ _ _ _ us hl => match us, hl with | [_, _], _ => rfl⟩
abbrev s__law_called : Stmt := top 37
abbrev N__law_called : List Str := ["_law_rows", "_law_turn_here", "_law_called_here", "_law_dart", "_law_row"]
abbrev p__law_called : List Str := ["_law_rows", "_law_turn_here"]
theorem sc__law_called : FnScope N__law_called p__law_called (defScope s__law_called) := ⟨rfl, rfl, rfl, by decide +kernel, rfl, by decide +kernel, by decide +kernel⟩
theorem fn__law_called {f : Addr} {fd : FuncData} (F : Fun K "_law_called" "_law_called" s__law_called f fd) (T : Txt mg) (G__law_begun : DefOk P w K mg base "_law_begun" 1 p__law_begun d__law_begun) : FnD P w K mg base 2 f fd p__law_called d__law_called := by
  refine fnD_of (k := 1) (N := N__law_called) (W := [2, 3]) (fb := b__law_called) F sc__law_called fun cdv A outer s H hgd hr => ?_
  have hu := hr.un
  have hu1 := room_u (n := 1) (k := 1) (u := (A.deeper _).units) (by decide) hu
  have hu40 := room_u (n := 40) (k := 1) (u := (A.deeper _).units) (by decide) hu
  have hu64 := room_u (n := 64) (k := 1) (u := (A.deeper _).units) (by decide) hu
  have hu65 := room_u (n := 65) (k := 1) (u := (A.deeper _).units) (by decide) hu
  exact dss_cons (ds_set (i := 2) sc__law_called.nd rfl (Or.inr rfl) (de_lst (da_nil))) (dss_cons (ds_for PassesOwn.never rfl (di_seq (de_frz (de_var (pv 1)))) (DG.dy (dg_name (pg_name (i := 3) sc__law_called.nd rfl (Or.inl rfl)))) (dss_one (ds_expr (de_mut (pe_bm PySem.F.plainAttrs_list PySem.F.slot_list_extend PySem.F.type_list_extend mt_extend (DP.pe (dp_var (pv 2))) (DA.pa (da_cons (de_lst (da_cons (de_var (pv 3)) (da_cons (de_op op_xor o2_xor (de_var (pv 3)) (de_int)) (da_nil)))) (da_nil)))) mu_extend)))) (dss_one (ds_ret (de_callG G__law_begun hgd hr (by decide) (by rfl) (fCons_len (fNil_len)) (da_cons (de_lc (own := [("_law_row", 4)]) rfl sc__law_called.nd (di_seq (de_frz (de_var (pv 0)))) (blkOk_by (own := [("_law_row", 4)]) (N := N__law_called) (sc := defScope s__law_called) (by decide +kernel)) (fun _ _ _ _ _ => DG.dy (dg_name (pg_name (i := 4) sc__law_called.nd rfl (Or.inl rfl)))) (fun _ _ _ _ _ => dts_nil) (fun _ _ _ _ _ => de_lc (own := [("_law_dart", 3)]) rfl sc__law_called.nd (di_seq (de_frz (de_var (pv 4)))) (blkOk_by (own := [("_law_dart", 3)]) (by kernel_rfl)) (fun _ _ _ _ _ => DG.dy (dg_name (pg_name (i := 3) sc__law_called.nd rfl (Or.inl rfl)))) (fun _ _ _ _ _ => dts_nil) (fun _ _ _ _ _ => de_sub hu1 (de_var (pv 2)) (de_var (pv 3)) (fun _ _ => rfl)) (by decide)) (by decide)) (da_nil))))))
theorem ok__law_called {f : Addr} {fd : FuncData} (F : Fun K "_law_called" "_law_called" s__law_called f fd) (mf : mg "_law_called" = some (.ref f)) (T : Txt mg) (G__law_begun : DefOk P w K mg base "_law_begun" 1 p__law_begun d__law_begun) : DefOk P w K mg base "_law_called" 2 p__law_called d__law_called :=
  ⟨f, fd, fn__law_called F T G__law_begun, mf, F.kp, F.binds (ps := p__law_called) fun _ _ _ _ _ _ us hl => match us, hl with | [_, _], _ => rfl⟩
abbrev s__law_put : Stmt := top 38
abbrev N__law_put : List Str := ["_law_rows", "_law_dart", "_law_fresh", "_law_found", "_law_row", "_law_at"]
abbrev p__law_put : List Str := ["_law_rows", "_law_dart", "_law_fresh"]
theorem sc__law_put : FnScope N__law_put p__law_put (defScope s__law_put) := ⟨rfl, rfl, rfl, by decide +kernel, rfl, by decide +kernel, by decide +kernel⟩
theorem fn__law_put {f : Addr} {fd : FuncData} (F : Fun K "_law_put" "_law_put" s__law_put f fd) (T : Txt mg)  : FnD P w K mg base 1 f fd p__law_put d__law_put := by
  refine fnD_of (k := 0) (N := N__law_put) (W := [3, 4, 5]) (fb := b__law_put) F sc__law_put fun cdv A outer s H hgd hr => ?_
  have hu := hr.un
  have hu1 := room_u (n := 1) (k := 0) (u := (A.deeper _).units) (by decide) hu
  have hu40 := room_u (n := 40) (k := 0) (u := (A.deeper _).units) (by decide) hu
  have hu64 := room_u (n := 64) (k := 0) (u := (A.deeper _).units) (by decide) hu
  have hu65 := room_u (n := 65) (k := 0) (u := (A.deeper _).units) (by decide) hu
  exact dss_cons (ds_set (i := 3) sc__law_put.nd rfl (Or.inl rfl) (de_lst (da_nil))) (dss_cons (ds_for PassesOwn.never rfl (di_seq (de_frz (de_var (pv 0)))) (DG.dy (dg_name (pg_name (i := 4) sc__law_put.nd rfl (Or.inl rfl)))) (dss_cons (ds_set (i := 5) sc__law_put.nd rfl (Or.inl rfl) (de_ifx (dt_cmp (ox_in hu65) o2_in (de_var (pv 1)) (de_var (pv 4)) (by rfl)) (de_index (pe_bm PySem.F.plainAttrs_list PySem.F.slot_list_index PySem.F.type_list_index (mt_indexD hu65) (DE.pe (de_var (pv 4))) (DA.pa (da_cons (de_var (pv 1)) (da_nil)))) (pe_tm PySem.F.slot_tuple_index PySem.F.type_tuple_index mt_tidx (DE.pe (de_var (pv 4))) (DA.pa (da_cons (de_var (pv 1)) (da_nil))))) (de_int))) (dss_one (ds_expr (de_mut (pe_bm PySem.F.plainAttrs_list PySem.F.slot_list_append PySem.F.type_list_append mt_append (DP.pe (dp_var (pv 3))) (DA.pa (da_cons (de_frz (de_ifx (dt_cmp (ox_in hu65) o2_in (de_var (pv 1)) (de_var (pv 4)) (by rfl)) (de_op ox_add o2_add (de_op ox_add o2_add (de_cut (de_var (pv 4)) (do_none) (do_some (de_var (pv 5)))) (de_lst (da_cons (de_var (pv 2)) (da_nil)))) (de_cut (de_var (pv 4)) (do_some (de_var (pv 5))) (do_none))) (de_var (pv 4)))) da_nil))) mu_append))))) (dss_one (ds_ret (de_var (pv 3)))))
theorem ok__law_put {f : Addr} {fd : FuncData} (F : Fun K "_law_put" "_law_put" s__law_put f fd) (mf : mg "_law_put" = some (.ref f)) (T : Txt mg)  : DefOk P w K mg base "_law_put" 1 p__law_put d__law_put :=
  ⟨f, fd, fn__law_put F T , mf, F.kp, F.binds (ps := p__law_put) fun _ _ _ _ _ _ us hl => match us, hl with | [_, _, _], _ => rfl⟩
abbrev s__law_flat_web : Stmt := top 39
abbrev N__law_flat_web : List Str := ["_law_feed_here", "_law_most", "_law_many", "_law_grows", "_law_rows", "_law_tie", "_law_one", "_law_ring_here", "_law_other"]
abbrev p__law_flat_web : List Str := ["_law_feed_here", "_law_most"]
theorem sc__law_flat_web : FnScope N__law_flat_web p__law_flat_web (defScope s__law_flat_web) := ⟨rfl, rfl, rfl, by decide +kernel, rfl, by decide +kernel, by decide +kernel⟩
theorem fn__law_flat_web {f : Addr} {fd : FuncData} (F : Fun K "_law_flat_web" "_law_flat_web" s__law_flat_web f fd) (T : Txt mg) (G__law_called : DefOk P w K mg base "_law_called" 2 p__law_called d__law_called) (G__law_turn : DefOk P w K mg base "_law_turn" 2 p__law_turn d__law_turn) (G__law_draw : DefOk P w K mg base "_law_draw" 1 p__law_draw d__law_draw) (G__law_put : DefOk P w K mg base "_law_put" 1 p__law_put d__law_put) (G__law_ring : DefOk P w K mg base "_law_ring" 2 p__law_ring d__law_ring) : FnD P w K mg base 3 f fd p__law_flat_web d__law_flat_web := by
  refine fnD_of (k := 2) (N := N__law_flat_web) (W := [2, 3, 4, 5, 6, 4, 7, 8, 4]) (fb := b__law_flat_web) F sc__law_flat_web fun cdv A outer s H hgd hr => ?_
  have hu := hr.un
  have hu1 := room_u (n := 1) (k := 2) (u := (A.deeper _).units) (by decide) hu
  have hu40 := room_u (n := 40) (k := 2) (u := (A.deeper _).units) (by decide) hu
  have hu64 := room_u (n := 64) (k := 2) (u := (A.deeper _).units) (by decide) hu
  have hu65 := room_u (n := 65) (k := 2) (u := (A.deeper _).units) (by decide) hu
  exact dss_cons (ds_set (i := 2) sc__law_flat_web.nd rfl (Or.inl rfl) (de_op ox_add o2_add (de_int) (de_callG G__law_draw hgd hr (by decide) (by rfl) (fCons_len (fCons_len (fNil_len))) (da_cons (de_var (pv 0)) (da_cons (de_var (pv 1)) (da_nil)))))) (dss_cons (ds_set (i := 3) sc__law_flat_web.nd rfl (Or.inl rfl) (de_callG G__law_draw hgd hr (by decide) (by rfl) (fCons_len (fCons_len (fNil_len))) (da_cons (de_var (pv 0)) (da_cons (de_int) (da_nil))))) (dss_cons (ds_set (i := 4) sc__law_flat_web.nd rfl (Or.inl rfl) (de_ifx (dt_cmp (ox_eq hu64) o2_eq (de_callG G__law_draw hgd hr (by decide) (by rfl) (fCons_len (fCons_len (fNil_len))) (da_cons (de_var (pv 0)) (da_cons (de_int) (da_nil)))) (de_int) (nomark _)) (de_lst (da_cons (de_lst (da_cons (de_int) (da_cons (de_int) (da_nil)))) (da_nil))) (de_lst (da_cons (de_lst (da_cons (de_int) (da_nil))) (da_cons (de_lst (da_cons (de_int) (da_nil))) (da_nil)))))) (dss_cons (ds_for PassesOwn.never rfl (di_rng2 (by rfl) T.b_range (da_cons (de_int) (da_cons (de_var (pv 2)) (da_nil)))) (DG.dy (dg_name (pg_name (i := 5) sc__law_flat_web.nd rfl (Or.inl rfl)))) (dss_cons (ds_set (i := 6) sc__law_flat_web.nd rfl (Or.inl rfl) (de_callG G__law_draw hgd hr (by decide) (by rfl) (fCons_len (fCons_len (fNil_len))) (da_cons (de_var (pv 0)) (da_cons (de_op ox_mul o2_mul (de_int) (de_var (pv 5))) (da_nil))))) (dss_one (ds_if (dt_cmp op_le (o2_cmp _) (de_callG G__law_draw hgd hr (by decide) (by rfl) (fCons_len (fCons_len (fNil_len))) (da_cons (de_var (pv 0)) (da_cons (de_int) (da_nil)))) (de_var (pv 3)) (nomark _)) (dss_one (ds_set (i := 4) sc__law_flat_web.nd rfl (Or.inl rfl) (de_op ox_add o2_add (de_callG G__law_put hgd hr (by decide) (by rfl) (fCons_len (fCons_len (fCons_len (fNil_len)))) (da_cons (de_var (pv 4)) (da_cons (de_var (pv 6)) (da_cons (de_op ox_mul o2_mul (de_int) (de_var (pv 5))) (da_nil))))) (de_lst (da_cons (de_frz (de_lst (da_cons (de_op ox_add o2_add (de_op ox_mul o2_mul (de_int) (de_var (pv 5))) (de_int)) (da_nil)))) (da_nil)))))) (dss_cons (ds_set (i := 7) sc__law_flat_web.nd rfl (Or.inl rfl) (de_callG G__law_ring hgd hr (by decide) (by rfl) (fCons_len (fCons_len (fNil_len))) (da_cons (de_var (pv 4)) (da_cons (de_var (pv 6)) (da_nil))))) (dss_cons (ds_set (i := 8) sc__law_flat_web.nd rfl (Or.inl rfl) (de_sub hu1 (de_var (pv 7)) (de_callG G__law_draw hgd hr (by decide) (by rfl) (fCons_len (fCons_len (fNil_len))) (da_cons (de_var (pv 0)) (da_cons (de_callB cx_len cs_len (by rfl) T.b_len (by first | rfl | decide +kernel) (da_cons (de_var (pv 7)) (da_nil))) (da_nil)))) (fun _ _ => rfl))) (dss_one (ds_set (i := 4) sc__law_flat_web.nd rfl (Or.inl rfl) (de_callG G__law_put hgd hr (by decide) (by rfl) (fCons_len (fCons_len (fCons_len (fNil_len)))) (da_cons (de_callG G__law_put hgd hr (by decide) (by rfl) (fCons_len (fCons_len (fCons_len (fNil_len)))) (da_cons (de_var (pv 4)) (da_cons (de_var (pv 6)) (da_cons (de_op ox_mul o2_mul (de_int) (de_var (pv 5))) (da_nil))))) (da_cons (de_var (pv 8)) (da_cons (de_op ox_add o2_add (de_op ox_mul o2_mul (de_int) (de_var (pv 5))) (de_int)) (da_nil))))))))))))) (dss_one (ds_ret (de_callG G__law_called hgd hr (by decide) (by rfl) (fCons_len (fCons_len (fNil_len))) (da_cons (de_var (pv 4)) (da_cons (de_callG G__law_turn hgd hr (by decide) (by rfl) (fCons_len (fCons_len (fNil_len))) (da_cons (de_var (pv 0)) (da_cons (de_var (pv 2)) (da_nil)))) (da_nil)))))))))
theorem ok__law_flat_web {f : Addr} {fd : FuncData} (F : Fun K "_law_flat_web" "_law_flat_web" s__law_flat_web f fd) (mf : mg "_law_flat_web" = some (.ref f)) (T : Txt mg) (G__law_called : DefOk P w K mg base "_law_called" 2 p__law_called d__law_called) (G__law_turn : DefOk P w K mg base "_law_turn" 2 p__law_turn d__law_turn) (G__law_draw : DefOk P w K mg base "_law_draw" 1 p__law_draw d__law_draw) (G__law_put : DefOk P w K mg base "_law_put" 1 p__law_put d__law_put) (G__law_ring : DefOk P w K mg base "_law_ring" 2 p__law_ring d__law_ring) : DefOk P w K mg base "_law_flat_web" 3 p__law_flat_web d__law_flat_web :=
  ⟨f, fd, fn__law_flat_web F T G__law_called G__law_turn G__law_draw G__law_put G__law_ring, mf, F.kp, F.binds (ps := p__law_flat_web) fun _ _ _ _ _ _ us hl => match us, hl with | [_, _], _ => rfl⟩
abbrev s__law_strange : Stmt := top 40
abbrev N__law_strange : List Str := ["_law_e", "_law_kinds"]
abbrev p__law_strange : List Str := ["_law_e"]
theorem sc__law_strange : FnScope N__law_strange p__law_strange (defScope s__law_strange) := ⟨rfl, rfl, rfl, by decide +kernel, rfl, by decide +kernel, by decide +kernel⟩
theorem fn__law_strange {f : Addr} {fd : FuncData} (F : Fun K "_law_strange" "_law_strange" s__law_strange f fd) (T : Txt mg)  (ix__law_strange_RimError : IsX K mg "RimError" [("NoAlong", true), ("TooMany", true)]) (ix__law_strange_ValueError : IsX K mg "ValueError" [("NoAlong", true), ("TooMany", true)]) (ix__law_strange_NoRow : IsX K mg "NoRow" [("NoAlong", false), ("TooMany", false)]) (ix__law_strange_TooMany : IsX K mg "TooMany" [("NoAlong", false), ("TooMany", true)]) (ix__law_strange_Barred : IsX K mg "Barred" [("NoAlong", false), ("TooMany", false)]) (ix__law_strange_NoText : IsX K mg "NoText" [("NoAlong", false), ("TooMany", false)]) (ix__law_strange_NoAsk : IsX K mg "NoAsk" [("NoAlong", false), ("TooMany", false)]) (ix__law_strange_NoTie : IsX K mg "NoTie" [("NoAlong", false), ("TooMany", false)]) (ix__law_strange_NoAlong : IsX K mg "NoAlong" [("NoAlong", true), ("TooMany", false)]) (ix__law_strange_NoPaper : IsX K mg "NoPaper" [("NoAlong", false), ("TooMany", false)]) : FnE P w K mg base 1 f fd p__law_strange ["NoAlong", "TooMany"] d__law_strange := by
  refine fnE_of (k := 0) (N := N__law_strange) (W := [1, 1]) (fb := b__law_strange) F sc__law_strange fun cdv A outer s H a oe c C dd hgd hr hy hmc hz hfl => ?_
  have hu := hr.un
  have hu1 := room_u (n := 1) (k := 0) (u := (A.deeper _).units) (by decide) hu
  have hu40 := room_u (n := 40) (k := 0) (u := (A.deeper _).units) (by decide) hu
  have hu64 := room_u (n := 64) (k := 0) (u := (A.deeper _).units) (by decide) hu
  have hu65 := room_u (n := 65) (k := 0) (u := (A.deeper _).units) (by decide) hu
  exact dss_cons (ds_set (i := 1) sc__law_strange.nd rfl (Or.inl rfl) (de_lst (da_cons (de_isE ix__law_strange_NoPaper hmc hz hfl (by rfl) T.b_isinstance (by rfl) (pv 0)) (da_cons (de_isE ix__law_strange_NoAlong hmc hz hfl (by rfl) T.b_isinstance (by rfl) (pv 0)) (da_cons (de_isE ix__law_strange_NoTie hmc hz hfl (by rfl) T.b_isinstance (by rfl) (pv 0)) (da_cons (de_isE ix__law_strange_NoAsk hmc hz hfl (by rfl) T.b_isinstance (by rfl) (pv 0)) (da_nil))))))) (dss_cons (ds_set (i := 1) sc__law_strange.nd rfl (Or.inl rfl) (de_op ox_add o2_add (de_var (pv 1)) (de_lst (da_cons (de_isE ix__law_strange_NoText hmc hz hfl (by rfl) T.b_isinstance (by rfl) (pv 0)) (da_cons (de_isE ix__law_strange_Barred hmc hz hfl (by rfl) T.b_isinstance (by rfl) (pv 0)) (da_cons (de_isE ix__law_strange_TooMany hmc hz hfl (by rfl) T.b_isinstance (by rfl) (pv 0)) (da_cons (de_isE ix__law_strange_NoRow hmc hz hfl (by rfl) T.b_isinstance (by rfl) (pv 0)) (da_nil)))))))) (dss_one (ds_ret (de_or (de_cmp (ox_ne (by exact hu64)) o2_ne (de_cntB (pe_bm PySem.F.plainAttrs_list PySem.F.slot_list_count PySem.F.type_list_count (mt_bcount (by exact hu40)) (DE.pe (de_var (pv 1))) (DA.pa (da_cons (de_bl) (da_nil))))) (de_int) (nomark _)) (de_or (de_not (de_isE ix__law_strange_RimError hmc hz hfl (by rfl) T.b_isinstance (by rfl) (pv 0))) (de_one (de_not (de_isE ix__law_strange_ValueError hmc hz hfl (by rfl) T.b_isinstance (by rfl) (pv 0)))))))))
theorem ok__law_strange {f : Addr} {fd : FuncData} (F : Fun K "_law_strange" "_law_strange" s__law_strange f fd) (mf : mg "_law_strange" = some (.ref f)) (T : Txt mg)  (ix__law_strange_RimError : IsX K mg "RimError" [("NoAlong", true), ("TooMany", true)]) (ix__law_strange_ValueError : IsX K mg "ValueError" [("NoAlong", true), ("TooMany", true)]) (ix__law_strange_NoRow : IsX K mg "NoRow" [("NoAlong", false), ("TooMany", false)]) (ix__law_strange_TooMany : IsX K mg "TooMany" [("NoAlong", false), ("TooMany", true)]) (ix__law_strange_Barred : IsX K mg "Barred" [("NoAlong", false), ("TooMany", false)]) (ix__law_strange_NoText : IsX K mg "NoText" [("NoAlong", false), ("TooMany", false)]) (ix__law_strange_NoAsk : IsX K mg "NoAsk" [("NoAlong", false), ("TooMany", false)]) (ix__law_strange_NoTie : IsX K mg "NoTie" [("NoAlong", false), ("TooMany", false)]) (ix__law_strange_NoAlong : IsX K mg "NoAlong" [("NoAlong", true), ("TooMany", false)]) (ix__law_strange_NoPaper : IsX K mg "NoPaper" [("NoAlong", false), ("TooMany", false)]) : DefE P w K mg base "_law_strange" 1 p__law_strange ["NoAlong", "TooMany"] d__law_strange :=
  ⟨f, fd, fn__law_strange F T ix__law_strange_RimError ix__law_strange_ValueError ix__law_strange_NoRow ix__law_strange_TooMany ix__law_strange_Barred ix__law_strange_NoText ix__law_strange_NoAsk ix__law_strange_NoTie ix__law_strange_NoAlong ix__law_strange_NoPaper, mf, F.kp, F.binds (ps := p__law_strange) fun _ _ _ _ _ _ us hl => match us, hl with | [_], _ => rfl⟩
abbrev s__law_told : Stmt := top 41
abbrev N__law_told : List Str := ["_law_web", "_law_one", "_law_other", "_law_told_here", "_law_e"]
abbrev p__law_told : List Str := ["_law_web", "_law_one", "_law_other"]
theorem sc__law_told : FnScope N__law_told p__law_told (defScope s__law_told) := ⟨rfl, rfl, rfl, by decide +kernel, rfl, by decide +kernel, by decide +kernel⟩
theorem fn__law_told {f : Addr} {fd : FuncData} (F : Fun K "_law_told" "_law_told" s__law_told f fd) (T : Txt mg) (G_drawn_in : DefX P w K mg base "drawn_in" 6 p_drawn_in d_drawn_in) (G__law_strange : DefE P w K mg base "_law_strange" 1 p__law_strange ["NoAlong", "TooMany"] d__law_strange) (hx_NoAlong : HdX K mg "NoAlong" ["NoAlong"]) (hx_TooMany : HdX K mg "TooMany" ["TooMany"]) (hn_NoAlong_TooMany : HnX K mg "NoAlong" ["TooMany"]) (fx_NoAlong_dart : FldX K mg ["NoAlong"] "dart") (fx_TooMany_word : FldX K mg ["TooMany"] "word") : FnD P w K mg base 7 f fd p__law_told d__law_told := by
  refine fnD_of (k := 6) (N := N__law_told) (W := [3, 3, 4, 3, 3]) (fb := b__law_told) F sc__law_told fun cdv A outer s H hgd hr => ?_
  have hu := hr.un
  have hu1 := room_u (n := 1) (k := 6) (u := (A.deeper _).units) (by decide) hu
  have hu40 := room_u (n := 40) (k := 6) (u := (A.deeper _).units) (by decide) hu
  have hu64 := room_u (n := 64) (k := 6) (u := (A.deeper _).units) (by decide) hu
  have hu65 := room_u (n := 65) (k := 6) (u := (A.deeper _).units) (by decide) hu
  exact dss_cons (ds_set (i := 3) sc__law_told.nd rfl (Or.inl rfl) (de_tup (da_cons (de_str) (da_nil)))) (dss_cons (ds_tryAs2 (i := 4) hx_NoAlong hx_TooMany hn_NoAlong_TooMany sc__law_told.nd rfl rfl (by rfl) (by rfl) rfl rfl (fun Wx pn xe tk => dssx_one (dsx_set (i := 3) sc__law_told.nd rfl (Or.inl rfl) (dex_call G_drawn_in tk hgd hr (by decide) (by rfl) (xA_len (fCons_len (fCons_len (fCons_len (fNil_len))))) (dax_of (da_cons (de_var (pv 0)) (da_cons (de_var (pv 1)) (da_cons (de_var (pv 2)) (da_nil)))))))) (fun a oe c C dd pn hy hmc hz hfl => dss_one (ds_set (i := 3) sc__law_told.nd rfl (Or.inl rfl) (de_tup (da_cons (de_str) (da_cons (de_fld fx_NoAlong_dart hy hmc hz hfl (pv 4)) (da_cons (de_callE G__law_strange (by exact hgd) (by first | exact hr | exact L2H.roomH_of hr) (by decide) (mem_sub (by decide) hy) hmc hz hfl (by rfl) (fCons_len (fNil_len)) (da_cons (de_var (pv 4)) (da_nil))) (da_nil))))))) (fun a oe c C dd pn hy hmc hz hfl => dss_one (ds_set (i := 3) sc__law_told.nd rfl (Or.inl rfl) (de_tup (da_cons (de_str) (da_cons (de_fld fx_TooMany_word hy hmc hz hfl (pv 4)) (da_cons (de_callE G__law_strange (by exact hgd) (by first | exact hr | exact L2H.roomH_of hr) (by decide) (mem_sub (by decide) hy) hmc hz hfl (by rfl) (fCons_len (fNil_len)) (da_cons (de_var (pv 4)) (da_nil))) (da_nil)))))))) (dss_one (ds_ret (de_var (pv 3)))))
theorem ok__law_told {f : Addr} {fd : FuncData} (F : Fun K "_law_told" "_law_told" s__law_told f fd) (mf : mg "_law_told" = some (.ref f)) (T : Txt mg) (G_drawn_in : DefX P w K mg base "drawn_in" 6 p_drawn_in d_drawn_in) (G__law_strange : DefE P w K mg base "_law_strange" 1 p__law_strange ["NoAlong", "TooMany"] d__law_strange) (hx_NoAlong : HdX K mg "NoAlong" ["NoAlong"]) (hx_TooMany : HdX K mg "TooMany" ["TooMany"]) (hn_NoAlong_TooMany : HnX K mg "NoAlong" ["TooMany"]) (fx_NoAlong_dart : FldX K mg ["NoAlong"] "dart") (fx_TooMany_word : FldX K mg ["TooMany"] "word") : DefOk P w K mg base "_law_told" 7 p__law_told d__law_told :=
  ⟨f, fd, fn__law_told F T G_drawn_in G__law_strange hx_NoAlong hx_TooMany hn_NoAlong_TooMany fx_NoAlong_dart fx_TooMany_word, mf, F.kp, F.binds (ps := p__law_told) fun _ _ _ _ _ _ us hl => match us, hl with | [_, _, _], _ => rfl⟩
abbrev s__law_due : Stmt := top 42
abbrev N__law_due : List Str := ["_law_web", "_law_one", "_law_other", "_law_many", "_law_rows", "_law_row"]
abbrev p__law_due : List Str := ["_law_web", "_law_one", "_law_other"]
theorem sc__law_due : FnScope N__law_due p__law_due (defScope s__law_due) := ⟨rfl, rfl, rfl, by decide +kernel, rfl, by decide +kernel, by decide +kernel⟩
theorem fn__law_due {f : Addr} {fd : FuncData} (F : Fun K "_law_due" "_law_due" s__law_due f fd) (T : Txt mg) (G__law_begun : DefOk P w K mg base "_law_begun" 1 p__law_begun d__law_begun) (G__law_put : DefOk P w K mg base "_law_put" 1 p__law_put d__law_put) (G__law_ring : DefOk P w K mg base "_law_ring" 2 p__law_ring d__law_ring) : FnD P w K mg base 3 f fd p__law_due d__law_due := by
  refine fnD_of (k := 2) (N := N__law_due) (W := [3, 4]) (fb := b__law_due) F sc__law_due fun cdv A outer s H hgd hr => ?_
  have hu := hr.un
  have hu1 := room_u (n := 1) (k := 2) (u := (A.deeper _).units) (by decide) hu
  have hu40 := room_u (n := 40) (k := 2) (u := (A.deeper _).units) (by decide) hu
  have hu64 := room_u (n := 64) (k := 2) (u := (A.deeper _).units) (by decide) hu
  have hu65 := room_u (n := 65) (k := 2) (u := (A.deeper _).units) (by decide) hu
  exact dss_cons (ds_set (i := 3) sc__law_due.nd rfl (Or.inl rfl) (de_callB (cr_sum rfl) cs_sum (by rfl) T.b_sum (by first | rfl | decide +kernel) (da_cons (de_lc (own := [("_law_row", 5)]) rfl sc__law_due.nd (di_seq (de_frz (de_var (pv 0)))) (blkOk_by (own := [("_law_row", 5)]) (N := N__law_due) (sc := defScope s__law_due) (by decide +kernel)) (fun _ _ _ _ _ => DG.dy (dg_name (pg_name (i := 5) sc__law_due.nd rfl (Or.inl rfl)))) (fun _ _ _ _ _ => dts_nil) (fun _ _ _ _ _ => de_callB cx_len cs_len (by rfl) T.b_len (by first | rfl | decide +kernel) (da_cons (de_var (pv 5)) (da_nil))) (by decide)) (da_nil)))) (dss_cons (ds_if (dt_cmp (ox_eq hu64) o2_eq (de_var (pv 3)) (de_int) (nomark _)) (dss_one (ds_ret (de_tup (da_cons (de_str) (da_cons (de_str) (da_cons (de_bl) (da_nil))))))) (dss_nil)) (dss_cons (ds_if (dt_cmp (ox_notIn hu65) o2_notIn (de_var (pv 2)) (de_callG G__law_ring hgd hr (by decide) (by rfl) (fCons_len (fCons_len (fNil_len))) (da_cons (de_var (pv 0)) (da_cons (de_var (pv 1)) (da_nil)))) (by rfl)) (dss_one (ds_ret (de_tup (da_cons (de_str) (da_cons (de_var (pv 2)) (da_cons (de_bl) (da_nil))))))) (dss_nil)) (dss_cons (ds_set (i := 4) sc__law_due.nd rfl (Or.inl rfl) (de_callG G__law_put hgd hr (by decide) (by rfl) (fCons_len (fCons_len (fCons_len (fNil_len)))) (da_cons (de_lc (own := [("_law_row", 5)]) rfl sc__law_due.nd (di_seq (de_frz (de_var (pv 0)))) (blkOk_by (own := [("_law_row", 5)]) (N := N__law_due) (sc := defScope s__law_due) (by decide +kernel)) (fun _ _ _ _ _ => DG.dy (dg_name (pg_name (i := 5) sc__law_due.nd rfl (Or.inl rfl)))) (fun _ _ _ _ _ => dts_nil) (fun _ _ _ _ _ => de_callTy call_list_of cs_list (by rfl) T.b_list (by first | rfl | decide +kernel) (da_cons (de_var (pv 5)) (da_nil))) (by decide)) (da_cons (de_var (pv 1)) (da_cons (de_var (pv 3)) (da_nil)))))) (dss_one (ds_ret (de_callG G__law_begun hgd hr (by decide) (by rfl) (fCons_len (fNil_len)) (da_cons (de_callG G__law_put hgd hr (by decide) (by rfl) (fCons_len (fCons_len (fCons_len (fNil_len)))) (da_cons (de_var (pv 4)) (da_cons (de_var (pv 2)) (da_cons (de_op ox_add o2_add (de_var (pv 3)) (de_int)) (da_nil))))) (da_nil))))))))
theorem ok__law_due {f : Addr} {fd : FuncData} (F : Fun K "_law_due" "_law_due" s__law_due f fd) (mf : mg "_law_due" = some (.ref f)) (T : Txt mg) (G__law_begun : DefOk P w K mg base "_law_begun" 1 p__law_begun d__law_begun) (G__law_put : DefOk P w K mg base "_law_put" 1 p__law_put d__law_put) (G__law_ring : DefOk P w K mg base "_law_ring" 2 p__law_ring d__law_ring) : DefOk P w K mg base "_law_due" 3 p__law_due d__law_due :=
  ⟨f, fd, fn__law_due F T G__law_begun G__law_put G__law_ring, mf, F.kp, F.binds (ps := p__law_due) fun _ _ _ _ _ _ us hl => match us, hl with | [_, _, _], _ => rfl⟩
abbrev s_law : Stmt := top 43
abbrev N_law : List Str := ["_law_script", "_law_feed_here", "_law_ways", "_law_web", "_law_kept", "_law_many", "_law_way", "_law_one", "_law_ring_here", "_law_other", "_law_due_here", "_law_found", "_law_k", "_law_row"]
abbrev p_law : List Str := ["_law_script"]
theorem sc_law : FnScope N_law p_law (defScope s_law) := ⟨rfl, rfl, rfl, by decide +kernel, rfl, by decide +kernel, by decide +kernel⟩
theorem fn_law {f : Addr} {fd : FuncData} (F : Fun K "law" "law" s_law f fd) (T : Txt mg) (G_faces : DefOk P w K mg base "faces" 4 p_faces d_faces) (G_is_flat : DefOk P w K mg base "is_flat" 6 p_is_flat d_is_flat) (G__law_told : DefOk P w K mg base "_law_told" 7 p__law_told d__law_told) (G__law_due : DefOk P w K mg base "_law_due" 3 p__law_due d__law_due) (G__law_draw : DefOk P w K mg base "_law_draw" 1 p__law_draw d__law_draw) (G__law_ring : DefOk P w K mg base "_law_ring" 2 p__law_ring d__law_ring) (G__law_flat_web : DefOk P w K mg base "_law_flat_web" 3 p__law_flat_web d__law_flat_web) (G__law_feed : DefOk P w K mg base "_law_feed" 1 p__law_feed d__law_feed) : FnD P w K mg base 8 f fd p_law d_law := by
  refine fnD_of (k := 7) (N := N_law) (W := [1, 2, 3, 4, 5, 6, 7, 8, 9, 10, 11]) (fb := b_law) F sc_law fun cdv A outer s H hgd hr => ?_
  have hu := hr.un
  have hu1 := room_u (n := 1) (k := 7) (u := (A.deeper _).units) (by decide) hu
  have hu40 := room_u (n := 40) (k := 7) (u := (A.deeper _).units) (by decide) hu
  have hu64 := room_u (n := 64) (k := 7) (u := (A.deeper _).units) (by decide) hu
  have hu65 := room_u (n := 65) (k := 7) (u := (A.deeper _).units) (by decide) hu
  exact dss_cons (ds_set (i := 1) sc_law.nd rfl (Or.inr rfl) (de_callG G__law_feed hgd hr (by decide) (by rfl) (fCons_len (fNil_len)) (da_cons (de_var (pv 0)) (da_nil)))) (dss_cons (ds_setLc (i := 2) (own := [("_law_k", 12)]) rfl sc_law.nd rfl rfl (sw_true rfl rfl rfl (by decide +kernel)) (di_rng1 (by rfl) T.b_range (da_cons (de_int) (da_nil))) (blkOk_by (own := [("_law_k", 12)]) (N := N_law) (sc := defScope s_law) (by decide +kernel)) (fun _ _ _ _ _ => DG.dy (dg_name (pg_name (i := 12) sc_law.nd rfl (Or.inl rfl)))) (fun _ _ _ _ _ => dts_nil) (fun _ _ _ _ _ => de_callG G__law_draw hgd hr (by decide) (by rfl) (fCons_len (fCons_len (fNil_len))) (da_cons (de_var (pv 1)) (da_cons (de_int) (da_nil)))) (by decide)) (dss_cons (ds_set (i := 3) sc_law.nd rfl (Or.inl rfl) (de_callG G__law_flat_web hgd hr (by decide) (by rfl) (fCons_len (fCons_len (fNil_len))) (da_cons (de_var (pv 1)) (da_cons (de_int) (da_nil))))) (dss_cons (ds_set (i := 4) sc_law.nd rfl (Or.inl rfl) (de_callB (cx_repr hgd hu40) cs_repr (by rfl) T.b_repr (by first | rfl | decide +kernel) (da_cons (de_var (pv 3)) (da_nil)))) (dss_cons (ds_set (i := 5) sc_law.nd rfl (Or.inl rfl) (de_callB (cr_sum rfl) cs_sum (by rfl) T.b_sum (by first | rfl | decide +kernel) (da_cons (de_lc (own := [("_law_row", 13)]) rfl sc_law.nd (di_seq (de_frz (de_var (pv 3)))) (blkOk_by (own := [("_law_row", 13)]) (N := N_law) (sc := defScope s_law) (by decide +kernel)) (fun _ _ _ _ _ => DG.dy (dg_name (pg_name (i := 13) sc_law.nd rfl (Or.inl rfl)))) (fun _ _ _ _ _ => dts_nil) (fun _ _ _ _ _ => de_callB cx_len cs_len (by rfl) T.b_len (by first | rfl | decide +kernel) (da_cons (de_var (pv 13)) (da_nil))) (by decide)) (da_nil)))) (dss_cons (ds_for PassesOwn.never rfl (di_seq (de_frz (de_var (pv 2)))) (DG.dy (dg_name (pg_name (i := 6) sc_law.nd rfl (Or.inl rfl)))) (dss_cons (ds_set (i := 7) sc_law.nd rfl (Or.inl rfl) (de_callG G__law_draw hgd hr (by decide) (by rfl) (fCons_len (fCons_len (fNil_len))) (da_cons (de_var (pv 1)) (da_cons (de_var (pv 5)) (da_nil))))) (dss_cons (ds_set (i := 8) sc_law.nd rfl (Or.inl rfl) (de_pick (de_lst (da_cons (de_callG G__law_ring hgd hr (by decide) (by rfl) (fCons_len (fCons_len (fNil_len))) (da_cons (de_var (pv 3)) (da_cons (de_var (pv 7)) (da_nil)))) (da_cons (de_lstRg1 rfl (by rfl) T.b_list (by rfl) T.b_range (de_var (pv 5))) (da_cons (de_lst (da_cons (de_var (pv 7)) (da_nil))) (da_nil))))) (de_sub hu1 (de_lst (da_cons (de_int) (da_cons (de_int) (da_cons (de_int) (da_cons (de_int) (da_nil)))))) (de_var (pv 6)) (fun _ _ => rfl)) (fun _ _ => rfl))) (dss_cons (ds_set (i := 9) sc_law.nd rfl (Or.inl rfl) (de_sub hu1 (de_var (pv 8)) (de_callG G__law_draw hgd hr (by decide) (by rfl) (fCons_len (fCons_len (fNil_len))) (da_cons (de_var (pv 1)) (da_cons (de_callB cx_len cs_len (by rfl) T.b_len (by first | rfl | decide +kernel) (da_cons (de_var (pv 8)) (da_nil))) (da_nil)))) (fun _ _ => rfl))) (dss_cons (ds_set (i := 10) sc_law.nd rfl (Or.inl rfl) (de_callG G__law_due hgd hr (by decide) (by rfl) (fCons_len (fCons_len (fCons_len (fNil_len)))) (da_cons (de_var (pv 3)) (da_cons (de_var (pv 7)) (da_cons (de_var (pv 9)) (da_nil)))))) (dss_cons (ds_set (i := 11) sc_law.nd rfl (Or.inl rfl) (de_callG G__law_told hgd hr (by decide) (by rfl) (fCons_len (fCons_len (fCons_len (fNil_len)))) (da_cons (de_var (pv 3)) (da_cons (de_var (pv 7)) (da_cons (de_var (pv 9)) (da_nil)))))) (dss_cons (ds_if (DW.dt (dw_or (dt_cmp (ox_ne hu64) o2_ne (de_callB (cx_repr hgd hu40) cs_repr (by rfl) T.b_repr (by first | rfl | decide +kernel) (da_cons (de_var (pv 11)) (da_nil))) (de_callB (cx_repr hgd hu40) cs_repr (by rfl) T.b_repr (by first | rfl | decide +kernel) (da_cons (de_var (pv 10)) (da_nil))) (nomark _)) (dw_or1 (dt_cmp (ox_ne hu64) o2_ne (de_callB (cx_repr hgd hu40) cs_repr (by rfl) T.b_repr (by first | rfl | decide +kernel) (da_cons (de_var (pv 3)) (da_nil))) (de_var (pv 4)) (nomark _))))) (dss_one (ds_ret (de_bl))) (dss_nil)) (dss_one (ds_if (dt_cmp (op_notInT hu65) o2_notInT (de_sub hu1 (de_var (pv 10)) (de_int) (fun _ _ => rfl)) (de_tup (da_cons (de_str) (da_cons (de_str) (da_nil)))) (by rfl)) (dss_one (ds_if (DW.dt (dw_or (dt_cmp (ox_ne hu64) o2_ne (de_callB cx_len cs_len (by rfl) T.b_len (by first | rfl | decide +kernel) (da_cons (de_callG G_faces hgd hr (by decide) (by rfl) (fCons_len (fNil_len)) (da_cons (de_var (pv 11)) (da_nil))) (da_nil))) (de_op ox_add o2_add (de_callB cx_len cs_len (by rfl) T.b_len (by first | rfl | decide +kernel) (da_cons (de_callG G_faces hgd hr (by decide) (by rfl) (fCons_len (fNil_len)) (da_cons (de_var (pv 3)) (da_nil))) (da_nil))) (de_int)) (nomark _)) (dw_or (dt_cmp (ox_ne hu64) o2_ne (de_callB cx_len cs_len (by rfl) T.b_len (by first | rfl | decide +kernel) (da_cons (de_var (pv 11)) (da_nil))) (de_callB cx_len cs_len (by rfl) T.b_len (by first | rfl | decide +kernel) (da_cons (de_var (pv 3)) (da_nil))) (nomark _)) (dw_or1 (dt_cmp op_notBl o2_isNotB (de_callG G_is_flat hgd hr (by decide) (by rfl) (fCons_len (fNil_len)) (da_cons (de_var (pv 11)) (da_nil))) (de_bl) (nomark _)))))) (dss_one (ds_ret (de_bl))) (dss_nil))) (dss_nil)))))))))) (dss_one (ds_ret (de_bl))))))))
abbrev si_NoAlong : Stmt := inClass (top 3) 0
theorem sci_NoAlong : FnScope ["self", "dart"] ["self", "dart"] (defScope si_NoAlong) := ⟨rfl, rfl, rfl, by decide +kernel, rfl, by decide +kernel, by decide +kernel⟩
theorem mk_NoAlong {C fI Cb : Addr} {fd : FuncData} (c : ClsX K mg "NoAlong" C fI) (B : BaseX K mg "RimError" Cb) (n_dart : PySem.W.findIn K (.ref C) "dart" = some none) (F : Fun K "__init__" "NoAlong.__init__" si_NoAlong fI fd) : MkX P w K mg base "NoAlong" ["dart"] := by
  refine mk1 c (F.ok sci_NoAlong (fun vs H Q E h => ?_) (fun cdv A outer s H vs Q E hr h => ⟨_, ?_, doesI1 (z := "no dart along the face") c.ox n_dart h⟩)) (F.binds (ps := ["self", "dart"]) fun _ _ _ _ _ _ us hl => match us, hl with | [_, _], _ => rfl)
  · obtain ⟨_, _, rfl, _⟩ := h; rfl
  · exact pss_cons (ps_expr (pe_baseinit B rfl (pa_cons (pv 0) (pa_cons pe_str pa_nil)))) (pss_one (ps_ost (pv 0) (pv 1)))
abbrev si_TooMany : Stmt := inClass (top 8) 0
theorem sci_TooMany : FnScope ["self", "word"] ["self", "word"] (defScope si_TooMany) := ⟨rfl, rfl, rfl, by decide +kernel, rfl, by decide +kernel, by decide +kernel⟩
theorem mk_TooMany {C fI Cb : Addr} {fd : FuncData} (c : ClsX K mg "TooMany" C fI) (B : BaseX K mg "RimError" Cb) (n_word : PySem.W.findIn K (.ref C) "word" = some none) (F : Fun K "__init__" "TooMany.__init__" si_TooMany fI fd) : MkX P w K mg base "TooMany" ["word"] := by
  refine mk1 c (F.ok sci_TooMany (fun vs H Q E h => ?_) (fun cdv A outer s H vs Q E hr h => ⟨_, ?_, doesI1 (z := "too many") c.ox n_word h⟩)) (F.binds (ps := ["self", "word"]) fun _ _ _ _ _ _ us hl => match us, hl with | [_, _], _ => rfl)
  · obtain ⟨_, _, rfl, _⟩ := h; rfl
  · exact pss_cons (ps_expr (pe_baseinit B rfl (pa_cons (pv 0) (pa_cons pe_str pa_nil)))) (pss_one (ps_ost (pv 0) (pv 1)))
end
end K11
/-! meanings that many laws share; printed by gen.py, then kept -/
namespace RB
open PySem L2 DL
def b__law_draw : FS := fSeq (fStore (fOp dAdd (fOp dSubs (fVar 0) (fC (.int 3))) (fC (.int 1))) (fpVar 0) (fC (.int 3))) (fSeq (fIfS (fTest (fOp (dCmp pGt) (fOp dSubs (fVar 0) (fC (.int 2))) (fC (.int 0)))) (fSeq (fAsg (fOp dMod (fOp dSubs (fVar 0) (fC (.int 2))) (fVar 1)) (fgName 2)) (fSeq (fStore (fOp dDiv (fOp dSubs (fVar 0) (fC (.int 2))) (fVar 1)) (fpVar 0) (fC (.int 2))) (fRet (fVar 2)))) (fSkip)) (fSeq (fAsg (fC (.int 0)) (fgName 3)) (fSeq (fIfS (fTest (fOp dNe (fOp dSubs (fVar 0) (fC (.int 0))) (fLst (fNil)))) (fAsg (fOp dSubs (fOp dSubs (fVar 0) (fC (.int 0))) (fOp dMod (fOp dSubs (fVar 0) (fC (.int 1))) (fCall dLen (fCons (fOp dSubs (fVar 0) (fC (.int 0))) (fNil))))) (fgName 3)) (fSkip)) (fSeq (fStore (fOp dAdd (fOp dSubs (fVar 0) (fC (.int 1))) (fC (.int 1))) (fpVar 0) (fC (.int 1))) (fSeq (fIfS (fAnd (fTest (fOp (dCmp pGe) (fVar 3) (fOp dPow (fC (.int 10)) (fC (.int 18))))) (fTest (fOp (dCmp pLe) (fOp dSubs (fVar 0) (fC (.int 1))) (fCall dLen (fCons (fOp dSubs (fVar 0) (fC (.int 0))) (fNil)))))) (fSeq (fStore (fOp dDiv (fVar 3) (fVar 1)) (fpVar 0) (fC (.int 2))) (fRet (fOp dMod (fVar 3) (fVar 1)))) (fSkip)) (fSeq (fAsg (fOp dMod (fOp dMul (fOp dAdd (fOp dMod (fVar 3) (fC (.int 2147483647))) (fOp dSubs (fVar 0) (fC (.int 3)))) (fOp dAdd (fOp dMul (fC (.int 2)) (fOp dSubs (fVar 0) (fC (.int 3)))) (fC (.int 1)))) (fC (.int 2147483647))) (fgName 4)) (fSeq (fAsg (fOp dMod (fOp dPow (fOp dAdd (fOp dMod (fOp dPow (fVar 4) (fC (.int 5))) (fC (.int 2147483647))) (fOp dMul (fC (.int 7919)) (fOp dSubs (fVar 0) (fC (.int 3))))) (fC (.int 5))) (fC (.int 2147483629))) (fgName 4)) (fRet (fOp dMod (fOp dDiv (fVar 4) (fC (.int 64))) (fVar 1))))))))))
def d__law_draw : Den := denOf 5 2 [2, 3, 3, 4, 4] b__law_draw
def b__law_behind : FS := fSeq (fAsg (fDic0) (fgName 1)) (fSeq (fFor (fSeqI (fFrz (fVar 0))) (fgName 2) (fFor (fRng1 (fCons (fCall dLen (fCons (fVar 2) (fNil))) (fNil))) (fgName 3) (fStore (fOp dSubs (fVar 2) (fVar 3)) (fpVar 1) (fOp dSubs (fVar 2) (fOp dSub (fVar 3) (fC (.int 1))))))) (fRet (fVar 1)))
def d__law_behind : Den := denOf 4 1 [1, 2, 3] b__law_behind
def b__law_ring : FS := fSeq (fAsg (fLst (fCons (fVar 1) (fNil))) (fgName 2)) (fSeq (fAsg (fOp dSubs (fVar 0) (fCallD RM.d_other_of (fCons (fVar 1) (fNil)))) (fgName 3)) (fSeq (whileD (fTest (fOp dNe (fVar 3) (fVar 1))) (fSeq (fDrop (fMut isLst mAppend (fpVar 2) (fCons (fVar 3) (fNil)))) (fAsg (fOp dSubs (fVar 0) (fCallD RM.d_other_of (fCons (fVar 3) (fNil)))) (fgName 3))) fuel) (fRet (fVar 2))))
def d__law_ring : Den := denOf 4 2 [2, 3, 3] b__law_ring
def b__law_put : FS := fSeq (fAsg (fLst (fNil)) (fgName 3)) (fSeq (fFor (fSeqI (fFrz (fVar 0))) (fgName 4) (fSeq (fAsg (fIf (fTest (fOp dIn (fVar 2) (fVar 4))) (fIndex (fVar 4) (fCons (fVar 2) (fNil))) (fCall dLen (fCons (fVar 4) (fNil)))) (fgName 5)) (fDrop (fMut isLst mAppend (fpVar 3) (fCons (fFrz (fOp dAdd (fOp dAdd (fCut (fVar 4) (foNone) (foSome (fVar 5))) (fOp dMul (fLst (fCons (fVar 1) (fNil))) (fCall dInt (fCons (fOp dIn (fVar 2) (fVar 4)) (fNil))))) (fCut (fVar 4) (foSome (fVar 5)) (foNone)))) fNil))))) (fRet (fVar 3)))
def d__law_put : Den := denOf 6 3 [3, 4, 5] b__law_put
end RB
/-! Plain laws: reading a meaning step by step; the feed of draws. -/
namespace DL
open PySem PySem.Spec L2
/-- it is told, and what is told is such -/
def Ok {α : Type} (x : Option α) (P : α → Prop) : Prop := ∃ a, x = some a ∧ P a
theorem ok_some {α : Type} {a : α} {P : α → Prop} : Ok (some a) P ↔ P a := ⟨fun ⟨b, e, h⟩ => by cases e; exact h, fun h => ⟨a, rfl, h⟩⟩
theorem ok_bind {α β : Type} {x : Option α} {f : α → Option β} {P : β → Prop} : Ok (x.bind f) P ↔ Ok x fun a => Ok (f a) P := by
  cases x with
  | none => exact ⟨fun ⟨b, e, h⟩ => (nomatch e), fun ⟨b, e, h⟩ => (nomatch e)⟩
  | some a => exact ⟨fun ⟨b, e, h⟩ => ⟨a, rfl, b, e, h⟩, fun ⟨a', e, b, e', h⟩ => by cases e; exact ⟨b, e', h⟩⟩
theorem ok_map {α β : Type} {x : Option α} {f : α → β} {P : β → Prop} : Ok (x.map f) P ↔ Ok x fun a => P (f a) := by
  cases x with
  | none => exact ⟨fun ⟨b, e, h⟩ => (nomatch e), fun ⟨b, e, h⟩ => (nomatch e)⟩
  | some a => exact ⟨fun ⟨b, e, h⟩ => (by cases e; exact ⟨a, rfl, h⟩), fun ⟨a', e, h⟩ => (by cases e; exact ⟨_, rfl, h⟩)⟩
theorem ok_mono {α : Type} {x : Option α} {P Q : α → Prop} (h : Ok x P) (k : ∀ a, P a → Q a) : Ok x Q := let ⟨a, e, p⟩ := h; ⟨a, e, k a p⟩
theorem slot0 (d : Option D) (ρ : Fm) : slot (d :: ρ) 0 = d := by cases d <;> rfl
theorem slotS (d : Option D) (ρ : Fm) (i : Nat) : slot (d :: ρ) (i + 1) = slot ρ i := by simp [slot]
/-! ### ints in lists -/
theorem immL_ints (ns : List Int) : immL (ns.map D.int) = true := by
  induction ns with
  | nil => rfl
  | cons n ns ih => simp [immL, imm, ih]
theorem immL_mem {ds : List D} : immL ds = true ↔ ∀ d ∈ ds, imm d = true := by
  induction ds with
  | nil => simp [immL]
  | cons n ns ih => simp [immL, ih]
theorem intsOf_ints (ns : List Int) : intsOf (ns.map D.int) = some ns := by
  induction ns with
  | nil => rfl
  | cons n ns ih => simp [intsOf, ih]
theorem toPL_map (ds : List D) : toPL ds = ds.map toP := by
  induction ds with
  | nil => rfl
  | cons n ns ih => simp [toPL, ih]
theorem ixN_int {n : Nat} {i : Int} (h0 : 0 ≤ i) (h : i < n) : ixN n i = some i.toNat := by
  unfold ixN; rw [if_pos h0, if_pos h]
theorem ixN_last {n : Nat} (h : 0 < n) : ixN n (-1) = some (n - 1) := by
  unfold ixN
  rw [if_neg (by omega), if_pos (by omega)]
  congr 1
  omega
theorem dSubs_seq {x : D} {ds : List D} {i : Int} {d : D} (hs : seqOf x = some ds) (h0 : 0 ≤ i) (h1 : ds[i.toNat]? = some d) (hi : imm d = true) : dSubs x (.int i) = some d := by
  have h2 : i.toNat < ds.length := (List.getElem?_eq_some_iff.mp h1).1
  have e : dIxQ x (.int i) = some d := by
    show (seqOf x).bind _ = _
    rw [hs]
    show ((atI ds i).bind _) = _
    have : atI ds i = some d := by
      unfold atI
      rw [ixN_int h0 (by omega)]
      exact h1
    rw [this]
    show (if imm d = true then some d else none) = _
    rw [if_pos hi]
  unfold dSubs dIx
  cases x <;> simp [seqOf] at hs <;> (simp [dIxS, e])
/-! ### the feed -/
def feedD (cs : List Int) (a l t : Int) : D := .dic [(.inr "cells", .flst (cs.map .int)), (.inr "at", .int a), (.inr "left", .int l), (.inr "turn", .int t)]
def IsFeed (d : D) : Prop := ∃ cs a l t, d = feedD cs a l t
@[simp] theorem feed_imm (cs : List Int) (a l t : Int) : imm (feedD cs a l t) = false := rfl
@[simp] theorem feed_turn (cs : List Int) (a l t : Int) : dSubs (feedD cs a l t) (.str "turn") = some (.int t) := rfl
@[simp] theorem feed_left (cs : List Int) (a l t : Int) : dSubs (feedD cs a l t) (.str "left") = some (.int l) := rfl
@[simp] theorem feed_at (cs : List Int) (a l t : Int) : dSubs (feedD cs a l t) (.str "at") = some (.int a) := rfl
@[simp] theorem feed_cells (cs : List Int) (a l t : Int) : dSubs (feedD cs a l t) (.str "cells") = some (.flst (cs.map .int)) := by
  show (if immL (cs.map .int) = true then some (D.flst (cs.map .int)) else none) = _
  rw [if_pos (immL_ints _)]
@[simp] theorem put_turn (cs : List Int) (a l t u : Int) : dStore (feedD cs a l t) (.str "turn") (.int u) = some (feedD cs a l u) := rfl
@[simp] theorem put_left (cs : List Int) (a l t u : Int) : dStore (feedD cs a l t) (.str "left") (.int u) = some (feedD cs a u t) := rfl
@[simp] theorem put_at (cs : List Int) (a l t u : Int) : dStore (feedD cs a l t) (.str "at") (.int u) = some (feedD cs u l t) := rfl
theorem mulOk_l {i j : Int} (h0 : -(2 ^ 64) < i) (h1 : i < 2 ^ 64) : mulOk i j = true := by
  unfold mulOk
  rw [decide_eq_true (by omega)]
  rfl
theorem mulOk_r {i j : Int} (h0 : -(2 ^ 64) < j) (h1 : j < 2 ^ 64) : mulOk i j = true := by
  unfold mulOk
  rw [Bool.or_eq_true]
  exact .inr (decide_eq_true (by omega))
end DL
/-! Meanings applied: what simp reads. -/
namespace DL
open PySem PySem.Spec L2
section
variable {ρ : Fm} {f g : FS} {fe fa fb fc : FE} {ft fu : FT} {fr : FA} {fp : FP} {fi : FI} {fg : FG} {fgs : FGs} {d d' : D} {i j : Nat} {op : D → D → Option D} {cl : List D → Option D}
@[simp] theorem ap_seq : fSeq f g ρ = (f ρ).bind fun x => match x.1 with | .nx => g x.2 | o => some (o, x.2) := rfl
@[simp] theorem ap_skip : fSkip ρ = some (.nx, ρ) := rfl
@[simp] theorem ap_drop : fDrop fe ρ = (fe ρ).map fun x => (.nx, x.2) := rfl
@[simp] theorem ap_ret : fRet fe ρ = (fe ρ).bind fun x => (take1 x.2 x.1).map fun y => (.ret y.1, y.2) := rfl
@[simp] theorem ap_retN : fRetN ρ = some (.ret .non, ρ) := rfl
@[simp] theorem ap_ifS : fIfS ft f g ρ = (ft ρ).bind fun x => if x.1 then f x.2 else g x.2 := rfl
@[simp] theorem ap_gName : fgName i d ρ = if i < ρ.length then some (ρ.set i (some d)) else none := rfl
@[simp] theorem ap_gTup {n : Nat} {ds : List D} : fgTup n fgs (.tup ds) ρ = if ds.length = n then fgs ds ρ else none := rfl
@[simp] theorem ap_gCons {ds : List D} : fgCons fg fgs (d :: ds) ρ = (fg d ρ).bind fun ρ1 => fgs ds ρ1 := rfl
@[simp] theorem ap_asg : fAsg fe fg ρ = (fe ρ).bind fun x => (take1 x.2 x.1).bind fun y => (fg y.1 y.2).map fun ρ3 => (.nx, ρ3) := rfl
@[simp] theorem ap_par : fPar i j fr ρ = (fr ρ).bind fun x => (takes x.2 x.1).bind fun y => match y.1 with
  | [d, e] => if i < y.2.length ∧ j < y.2.length then some (.nx, (y.2.set i (some d)).set j (some e)) else none
  | _ => none := rfl
@[simp] theorem ap_store : fStore fe fp fa ρ = (fe ρ).bind fun x => (fp x.2).bind fun p => (getP p.2 p.1).bind fun c0 => (fa (hide p.2 p.1)).bind fun y => (cont y.2 y.1).bind fun key =>
  (take1 y.2 x.1).bind fun v => (getP (unhide p.2 v.2 p.1) p.1).bind fun c => (dStore c key v.1).map fun c' => (.nx, setP (unhide p.2 v.2 p.1) c' p.1) := rfl
@[simp] theorem ap_for : fFor fi fg f ρ = (fi ρ).bind fun x => forD fg f x.1 x.2 := rfl
@[simp] theorem ap_C : fC d ρ = some (.val d, ρ) := rfl
@[simp] theorem ap_var' : fVar i ρ = (slot ρ i).map fun _ => (.var i, ρ) := by unfold fVar; cases slot ρ i <;> rfl
@[simp] theorem ap_op : fOp op fa fb ρ = (fa ρ).bind fun x => (fb x.2).bind fun y => (cont y.2 x.1).bind fun dx => (cont y.2 y.1).bind fun dy => (op dx dy).map fun z => (.val z, y.2) := rfl
@[simp] theorem ap_test : fTest fe ρ = (fe ρ).bind fun x => (cont x.2 x.1).bind fun d => match d with
  | .bl k => some (k, x.2)
  | _ => none := rfl
@[simp] theorem ap_and : fAnd ft fu ρ = (ft ρ).bind fun x => if x.1 then fu x.2 else some (false, x.2) := rfl
@[simp] theorem ap_or : fOr ft fu ρ = (ft ρ).bind fun x => if x.1 then some (true, x.2) else fu x.2 := rfl
@[simp] theorem ap_not : fNot ft ρ = (ft ρ).map fun x => (!x.1, x.2) := rfl
@[simp] theorem ap_bl : fBl ft ρ = (ft ρ).map fun x => (.val (.bl x.1), x.2) := rfl
@[simp] theorem ap_if : fIf ft fa fb ρ = (ft ρ).bind fun x => if x.1 then fa x.2 else fb x.2 := rfl
@[simp] theorem ap_nil : fNil ρ = some ([], ρ) := rfl
@[simp] theorem ap_cons : fCons fe fr ρ = (fe ρ).bind fun x => (fr x.2).map fun y => (x.1 :: y.1, y.2) := rfl
@[simp] theorem ap_tup : fTup fr ρ = (fr ρ).bind fun x => (takes x.2 x.1).bind fun y => if y.1.length ≤ sizeLine then some (.val (.tup y.1), y.2) else none := rfl
@[simp] theorem ap_lst : fLst fr ρ = (fr ρ).bind fun x => (takes x.2 x.1).bind fun y => if y.1.length ≤ sizeLine then some (.val (.lst y.1), y.2) else none := rfl
@[simp] theorem ap_dic : fDic fr ρ = (fr ρ).bind fun x => (takes x.2 x.1).bind fun y => (pairUp y.1).bind fun kvs => if (kvs.map (·.1)).Nodup ∧ kvs.length ≤ 15 then some (.val (.dic kvs), y.2) else none := rfl
@[simp] theorem ap_dic0 : fDic0 ρ = some (.val (.dic []), ρ) := rfl
@[simp] theorem ap_call : fCall cl fr ρ = (fr ρ).bind fun x => (conts x.2 x.1).bind fun ds => (cl ds).map fun z => (.val z, x.2) := rfl
@[simp] theorem ap_callD {den : Den} : fCallD den fr ρ = (fr ρ).bind fun x => (takes x.2 x.1).bind fun y => (den y.1).map fun z => (.val z.1, giveBack x.1 y.1 z.2 y.2) := rfl
@[simp] theorem ap_pVar : fpVar i ρ = (slot ρ i).map fun _ => (.sl i, ρ) := rfl
@[simp] theorem ap_mut {ok : D → Bool} {m : D → List D → Option (D × D)} : fMut ok m fp fr ρ = (fp ρ).bind fun p => (getP p.2 p.1).bind fun d0 => if ok d0 then (fr (hide p.2 p.1)).bind fun x => (takes x.2 x.1).bind fun y =>
    (getP (unhide p.2 y.2 p.1) p.1).bind fun d => (m d y.1).map fun z => (.val z.2, setP (unhide p.2 y.2 p.1) z.1 p.1) else none := rfl
@[simp] theorem ap_frz : fFrz fe ρ = (fe ρ).bind fun x => (cont x.2 x.1).bind fun d => (frzD d).map fun d' => (.val d', match x.1 with | .var i => x.2.set i (some d') | .val _ => x.2) := rfl
@[simp] theorem ap_seqI : fSeqI fe ρ = (fe ρ).bind fun x => (cont x.2 x.1).bind fun d => match d with
  | .tup ds => if immL ds = true then some (ds, x.2) else none
  | .flst ds => if immL ds = true then some (ds, x.2) else none
  | _ => none := rfl
@[simp] theorem ap_rng1 : fRng1 fr ρ = (fr ρ).bind fun x => (conts x.2 x.1).bind fun ds => match ds with
  | [.int j] => if okR j = true then some (iota 0 j.toNat, x.2) else none
  | _ => none := rfl
@[simp] theorem ap_rng2 : fRng2 fr ρ = (fr ρ).bind fun x => (conts x.2 x.1).bind fun ds => match ds with
  | [.int i, .int j] => if okR i = true ∧ okR j = true then some (iota i (j - i).toNat, x.2) else none
  | _ => none := rfl
@[simp] theorem ap_lstRg1 : fLstRg1 fa ρ = (fa ρ).bind fun x => (cont x.2 x.1).bind fun d => match d with
  | .int j => if okR j = true ∧ j.toNat ≤ 2 ^ 24 then some (.val (.lst (iota 0 j.toNat)), x.2) else none
  | _ => none := rfl
@[simp] theorem ap_yes : fYes ρ = some (true, ρ) := rfl
@[simp] theorem ap_lc {vs : List Nat} : fLc vs fi fg ft fe ρ = (fi ρ).bind fun x => (lcD vs fg ft fe x.1 (wipeF x.2 vs)).bind fun z => if z.1.length ≤ sizeLine then some (.val (.lst z.1), z.2) else none := rfl
@[simp] theorem ap_oNone : foNone ρ = some (none, ρ) := rfl
@[simp] theorem ap_oSome : foSome fe ρ = (fe ρ).bind fun x => (cont x.2 x.1).bind fun d => match d with
  | .int i => some (some i, x.2)
  | _ => none := rfl
@[simp] theorem ap_cut {fl fh : Fm → Option (Option Int × Fm)} : fCut fe fl fh ρ = (fe ρ).bind fun x => (fl x.2).bind fun l => (fh l.2).bind fun h => (cont h.2 x.1).bind fun d => (dCut d l.1 h.1).map fun z => (.val z, h.2) := rfl
@[simp] theorem ap_neg : fNeg fa ρ = (fa ρ).bind fun x => (cont x.2 x.1).bind fun d => match d with
  | .int i => some (.val (.int (-i)), x.2)
  | _ => none := rfl
end
@[simp] theorem cont_val {ρ : Fm} {d : D} : cont ρ (.val d) = some d := rfl
@[simp] theorem cont_var {ρ : Fm} {i : Nat} : cont ρ (.var i) = slot ρ i := rfl
@[simp] theorem take_val {ρ : Fm} {d : D} : take1 ρ (.val d) = some (d, ρ) := rfl
@[simp] theorem take_var {ρ : Fm} {i : Nat} : take1 ρ (.var i) = (slot ρ i).map fun d => (d, if imm d then ρ else ρ.set i none) := rfl
@[simp] theorem takes_nil {ρ : Fm} : takes ρ [] = some ([], ρ) := rfl
@[simp] theorem takes_cons {ρ : Fm} {r : R} {rs : List R} : takes ρ (r :: rs) = (take1 ρ r).bind fun x => (takes x.2 rs).map fun y => (x.1 :: y.1, y.2) := rfl
@[simp] theorem conts_nil {ρ : Fm} : conts ρ [] = some [] := rfl
@[simp] theorem conts_cons {ρ : Fm} {r : R} {rs : List R} : conts ρ (r :: rs) = (cont ρ r).bind fun d => (conts ρ rs).map fun ds => d :: ds := rfl
@[simp] theorem slot0' (d : Option D) (ρ : Fm) : slot (d :: ρ) 0 = d := slot0 d ρ
@[simp] theorem slotS' (d : Option D) (ρ : Fm) (i : Nat) : slot (d :: ρ) (i + 1) = slot ρ i := slotS d ρ i
@[simp] theorem getP_sl {ρ : Fm} {i : Nat} : getP ρ (.sl i) = slot ρ i := rfl
@[simp] theorem hide_sl {ρ : Fm} {i : Nat} : hide ρ (.sl i) = ρ := rfl
@[simp] theorem unhide_sl {ρ ρ' : Fm} {i : Nat} : unhide ρ ρ' (.sl i) = ρ' := rfl
@[simp] theorem setP_sl {ρ : Fm} {i : Nat} {d : D} : setP ρ d (.sl i) = ρ.set i (some d) := rfl
@[simp] theorem gb_nil {ds : List D} {os ρ : Fm} : giveBack [] ds os ρ = ρ := by unfold giveBack; rfl
@[simp] theorem gb_val {d0 d : D} {rs : List R} {ds : List D} {o : Option D} {os ρ : Fm} : giveBack (.val d0 :: rs) (d :: ds) (o :: os) ρ = giveBack rs ds os ρ := by rw [giveBack]
@[simp] theorem gb_var {i : Nat} {d : D} {rs : List R} {ds : List D} {o : Option D} {os ρ : Fm} : giveBack (.var i :: rs) (d :: ds) (o :: os) ρ = giveBack rs ds os (if imm d then ρ else ρ.set i o) := by rw [giveBack]
@[simp] theorem imm_non : imm .non = true := rfl
@[simp] theorem imm_bl {b : Bool} : imm (.bl b) = true := rfl
@[simp] theorem imm_int {i : Int} : imm (.int i) = true := rfl
@[simp] theorem imm_str {x : Str} : imm (.str x) = true := rfl
@[simp] theorem imm_tup {ds : List D} : imm (.tup ds) = immL ds := rfl
@[simp] theorem imm_lst {ds : List D} : imm (.lst ds) = false := rfl
@[simp] theorem imm_flst {ds : List D} : imm (.flst ds) = immL ds := rfl
@[simp] theorem imm_dic {ds : List (Key × D)} : imm (.dic ds) = false := rfl
@[simp] theorem immL_nil : immL [] = true := rfl
@[simp] theorem immL_cons {d : D} {ds : List D} : immL (d :: ds) = (imm d && immL ds) := rfl
@[simp] theorem add_int {i j : Int} : dAdd (.int i) (.int j) = some (.int (i + j)) := rfl
@[simp] theorem sub_int {i j : Int} : dSub (.int i) (.int j) = some (.int (i - j)) := rfl
theorem mul_int {i j : Int} (h : mulOk i j = true) : dMul (.int i) (.int j) = some (.int (i * j)) := by simp [dMul, dMulI, h]
theorem mul_l {i j : Int} (h0 : -(2 ^ 64) < i) (h1 : i < 2 ^ 64) : dMul (.int i) (.int j) = some (.int (i * j)) := mul_int (mulOk_l h0 h1)
theorem mul_r {i j : Int} (h0 : -(2 ^ 64) < j) (h1 : j < 2 ^ 64) : dMul (.int i) (.int j) = some (.int (i * j)) := mul_int (mulOk_r h0 h1)
@[simp] theorem div_int {i j : Int} (h0 : j ≠ 0) (h1 : j.natAbs < 1073741824) : dDiv (.int i) (.int j) = some (.int (i.fdiv j)) := if_pos ⟨h0, h1⟩
@[simp] theorem mod_int {i j : Int} (h : j ≠ 0) : dMod (.int i) (.int j) = some (.int (i.fmod j)) := if_pos h
theorem pow_int {i j : Int} (h : 0 ≤ j ∧ j ≤ 1000000 ∧ i.natAbs < 2 ^ 64) : dPow (.int i) (.int j) = some (.int (i ^ j.toNat)) := if_pos h
@[simp] theorem cmp_int {p : Int → Int → Bool} {i j : Int} : dCmp p (.int i) (.int j) = some (.bl (p i j)) := rfl
@[simp] theorem eq_int {i j : Int} : dEq (.int i) (.int j) = some (.bl (decide (i = j))) := by
  show some (D.bl (decide (V.int i = V.int j))) = _
  simp
@[simp] theorem ne_int {i j : Int} : dNe (.int i) (.int j) = some (.bl (!decide (i = j))) := by
  show some (D.bl (!decide (V.int i = V.int j))) = _
  simp
@[simp] theorem ne_str {i j : Str} : dNe (.str i) (.str j) = some (.bl (!decide (i = j))) := by
  show some (D.bl (!decide (V.str i = V.str j))) = _
  simp
@[simp] theorem len_lst {ds : List D} : dLen [.lst ds] = some (.int ds.length) := rfl
@[simp] theorem len_flst {ds : List D} : dLen [.flst ds] = some (.int ds.length) := rfl
@[simp] theorem len_tup {ds : List D} : dLen [.tup ds] = some (.int ds.length) := rfl
@[simp] theorem len_dic {ds : List (Key × D)} : dLen [.dic ds] = some (.int ds.length) := rfl
@[simp] theorem frz_lst {ds : List D} : frzD (.lst ds) = (frzL ds).map .flst := rfl
@[simp] theorem frz_flst {ds : List D} : frzD (.flst ds) = (frzL ds).map .flst := rfl
@[simp] theorem frz_tup {ds : List D} : frzD (.tup ds) = (frzL ds).map .tup := rfl
@[simp] theorem frz_int {i : Int} : frzD (.int i) = some (.int i) := rfl
@[simp] theorem frz_bl {i : Bool} : frzD (.bl i) = some (.bl i) := rfl
@[simp] theorem frz_non : frzD .non = some .non := rfl
@[simp] theorem frz_str {i : Str} : frzD (.str i) = some (.str i) := rfl
@[simp] theorem frzL_nil : frzL [] = some [] := rfl
@[simp] theorem frzL_cons {d : D} {ds : List D} : frzL (d :: ds) = (frzD d).bind fun d' => (frzL ds).map fun ds' => d' :: ds' := rfl
@[simp] theorem immL_map_int {ns : List Int} : immL (ns.map D.int) = true := immL_ints ns
@[simp] theorem frzL_ints {ns : List Int} : frzL (ns.map D.int) = some (ns.map D.int) := frzL_id _ (immL_ints ns)
/-! ### loops -/
theorem ok_for {fg : FG} {fb : FS} {P : Fl × Fm → Prop} (I : List D → Fm → Prop) (step : ∀ d r ρ, I (d :: r) ρ → Ok (fg d ρ) fun ρ1 => Ok (fb ρ1) fun x => match x.1 with
    | .nx => I r x.2
    | .ct => I r x.2
    | .bk => P (.nx, x.2)
    | .ret v => P (.ret v, x.2)) (done : ∀ ρ, I [] ρ → P (.nx, ρ)) : ∀ {ds : List D} {ρ : Fm}, I ds ρ → Ok (forD fg fb ds ρ) P
  | [], ρ, h => ok_some.mpr (done ρ h)
  | d :: ds, ρ, h => by
    refine ok_bind.mpr (ok_mono (step d ds ρ h) fun ρ1 h1 => ok_bind.mpr (ok_mono h1 fun x h2 => ?_))
    obtain ⟨o, ρ2⟩ := x
    cases o with
    | nx => exact ok_for I step done h2
    | ct => exact ok_for I step done h2
    | bk => exact ok_some.mpr h2
    | ret v => exact ok_some.mpr h2
theorem ok_while {ft : FT} {fb : FS} {P : Fl × Fm → Prop} (I : Nat → Fm → Prop) (step : ∀ k ρ, I k ρ → Ok (ft ρ) fun t => if t.1 = true then Ok (fb t.2) fun x => match x.1 with
    | .nx => ∃ k', k' < k ∧ I k' x.2
    | .ct => ∃ k', k' < k ∧ I k' x.2
    | .bk => P (.nx, x.2)
    | .ret v => P (.ret v, x.2) else P (.nx, t.2)) : ∀ {n k : Nat} {ρ : Fm}, k < n → I k ρ → Ok (whileD ft fb n ρ) P
  | 0, k, ρ, hk, h => absurd hk (Nat.not_lt_zero _)
  | n + 1, k, ρ, hk, h => by
    refine ok_bind.mpr (ok_mono (step k ρ h) fun t h1 => ?_)
    obtain ⟨b, ρ1⟩ := t
    cases b with
    | false => exact ok_some.mpr h1
    | true =>
      refine ok_bind.mpr (ok_mono h1 fun x h2 => ?_)
      obtain ⟨o, ρ2⟩ := x
      cases o with
      | nx => obtain ⟨k', hk', hI⟩ := h2; exact ok_while I step (by omega) hI
      | ct => obtain ⟨k', hk', hI⟩ := h2; exact ok_while I step (by omega) hI
      | bk => exact ok_some.mpr h2
      | ret v => exact ok_some.mpr h2
end DL
/-! Small data: texts of it, likeness, rows and webs. -/
namespace DL
open PySem PySem.Spec L2
/-! data of small whole numbers, truths and None; so deep at most, of such a weight at most -/
mutual
def small : D → Bool
  | .non => true | .bl _ => true
  | .int i => decide (i.natAbs < 10 ^ 12)
  | .str x => decide (PyData.canLay0 (.str x) = true)
  | .tup ds => smallL ds
  | .lst ds => smallL ds
  | .flst ds => smallL ds
  | .dic _ => false
  | .fdic _ => false
  | .exc _ _ _ _ => false
def smallL : List D → Bool
  | [] => true
  | d :: ds => small d && smallL ds
end
theorem smallL_mem : ∀ {ds : List D}, smallL ds = true ↔ ∀ d ∈ ds, small d = true := by
  intro ds
  induction ds with
  | nil => simp [smallL]
  | cons n ns ih => simp [smallL, ih]
mutual
theorem small_all : ∀ (d : D), small d = true → noDic d = true ∧ (toP d).canLay0 = true ∧ (toP d).showable = true ∧ (toP d).hasDict = false ∧ (toP d).intsShort 13 = true
  | .non, _ => ⟨rfl, rfl, rfl, rfl, rfl⟩
  | .bl _, _ => ⟨rfl, rfl, rfl, rfl, rfl⟩
  | .int i, h => by
    have h' : i.natAbs < 10 ^ 12 := of_decide_eq_true h
    refine ⟨rfl, rfl, ?_, rfl, ?_⟩
    · show decide (i.natAbs.log2 < 1920) = true
      rw [decide_eq_true_iff]
      by_cases h0 : i.natAbs = 0
      · rw [h0]; decide
      · exact (Nat.log2_lt h0).mpr (Nat.lt_trans h' (Nat.lt_of_lt_of_le (by decide : 10 ^ 12 < 2 ^ 40) (Nat.pow_le_pow_right (by decide) (by decide))))
    · have := PyData.intsShortAll_ints [i] fun n hn => by simp at hn; rw [hn]; exact h'
      simpa [PyData.intsShortAll, toP] using this
  | .str x, h => ⟨rfl, of_decide_eq_true h, rfl, rfl, by have := PyData.intsShortAll_strs 13 [x]; simpa [PyData.intsShortAll, toP] using this⟩
  | .tup ds, h => by
    obtain ⟨a, b, c, d, e⟩ := small_allL ds h
    exact ⟨a, by simpa [toP, PyData.canLay0] using b, by simpa [toP, PyData.showable] using c, by simpa [toP, PyData.hasDict] using d, by simpa [toP, PyData.intsShort] using e⟩
  | .lst ds, h => by
    obtain ⟨a, b, c, d, e⟩ := small_allL ds h
    exact ⟨a, by simpa [toP, PyData.canLay0] using b, by simpa [toP, PyData.showable] using c, by simpa [toP, PyData.hasDict] using d, by simpa [toP, PyData.intsShort] using e⟩
  | .flst ds, h => by
    obtain ⟨a, b, c, d, e⟩ := small_allL ds h
    exact ⟨a, by simpa [toP, PyData.canLay0] using b, by simpa [toP, PyData.showable] using c, by simpa [toP, PyData.hasDict] using d, by simpa [toP, PyData.intsShort] using e⟩
  | .dic _, h => by cases h
  | .fdic _, h => by cases h
  | .exc _ _ _ _, h => by cases h
theorem small_allL : ∀ (ds : List D), smallL ds = true → noDicL ds = true ∧ PyData.canLayAll0 (toPL ds) = true ∧ PyData.showableAll (toPL ds) = true ∧ PyData.hasDictAll (toPL ds) = false ∧ PyData.intsShortAll 13 (toPL ds) = true
  | [], _ => ⟨rfl, rfl, rfl, rfl, rfl⟩
  | d :: ds, h => by
    have h' : small d = true ∧ smallL ds = true := by simpa [smallL] using h
    obtain ⟨a, b, c, e, f⟩ := small_all d h'.1
    obtain ⟨a', b', c', e', f'⟩ := small_allL ds h'.2
    exact ⟨by simp [noDicL, a, a'], by simp [toPL, PyData.canLayAll0, b, b'], by simp [toPL, PyData.showableAll, c, c'], by simp [toPL, PyData.hasDictAll, e, e'], by simp [toPL, PyData.intsShortAll, f, f']⟩
end
structure Nice (k w : Nat) (d : D) : Prop where
  small : small d = true
  depth : (toP d).depth ≤ k
  weight : (toP d).weight ≤ w
theorem Nice.mono {k k' w w' : Nat} {d : D} (h : Nice k w d) (hk : k ≤ k') (hw : w ≤ w') : Nice k' w' d := ⟨h.small, Nat.le_trans h.depth hk, Nat.le_trans h.weight hw⟩
theorem nice_int {i : Int} (h : i.natAbs < 10 ^ 12) : Nice 0 40 (.int i) := ⟨decide_eq_true h, Nat.le_refl _, by
  show (PyData.int i).weight ≤ 40
  simp only [PyData.weight]
  split
  · exact Nat.zero_le _
  · rename_i h0
    have h0' : i.natAbs ≠ 0 := by simpa using h0
    exact (Nat.log2_lt h0').mpr (Nat.lt_trans h (by decide))⟩
theorem depthAll_le {k : Nat} : ∀ {ds : List D}, (∀ d ∈ ds, (toP d).depth ≤ k) → PyData.depthAll (toPL ds) ≤ k
  | [], _ => by simp [toPL, PyData.depthAll]
  | d :: ds, h => by
    simp only [toPL, PyData.depthAll]
    exact Nat.max_le.mpr ⟨h d List.mem_cons_self, depthAll_le fun x hx => h x (List.mem_cons_of_mem _ hx)⟩
theorem weightAll_le {w : Nat} : ∀ {ds : List D}, (∀ d ∈ ds, (toP d).weight ≤ w) → PyData.weightAll (toPL ds) ≤ ds.length * (w + 1)
  | [], _ => by simp [toPL, PyData.weightAll]
  | d :: ds, h => by
    simp only [toPL, PyData.weightAll, List.length_cons, Nat.add_mul]
    have := weightAll_le (w := w) fun x hx => h x (List.mem_cons_of_mem _ hx)
    have := h d List.mem_cons_self
    omega
theorem nice_tup {k w : Nat} {ds : List D} (h : ∀ d ∈ ds, Nice k w d) : Nice (k + 1) (ds.length * (w + 1)) (.tup ds) :=
  ⟨smallL_mem.mpr fun d hd => (h d hd).small, by simp only [toP, PyData.depth]; exact Nat.succ_le_succ (depthAll_le fun d hd => (h d hd).depth), by simp only [toP, PyData.weight]; exact weightAll_le fun d hd => (h d hd).weight⟩
theorem Nice.shaped {k w : Nat} {d : D} (h : Nice k w d) (hk : k ≤ 64) : SeqAt.shaped (toP d) = true := by
  unfold SeqAt.shaped
  rw [(small_all d h.small).2.1, decide_eq_true (Nat.le_trans h.depth hk)]
  rfl
theorem Nice.reprOk {k w : Nat} {d : D} (h : Nice k w d) (hk : k ≤ 32) (hw : w ≤ 2 ^ 20) : reprOk d = true := by
  obtain ⟨a, b, c, e, f⟩ := small_all d h.small
  have l0 : (toP d).layable0 = true := by
    unfold PyData.layable0
    rw [b, decide_eq_true (Nat.le_trans h.depth (by omega)), decide_eq_true (Nat.le_trans h.weight hw)]
    rfl
  have := PyData.shown_fits_of_layable0 (by decide) (by decide) l0 f
  unfold DL.reprOk
  rw [a, c, e, decide_eq_true (Nat.le_trans h.depth hk), decide_eq_true this]
  rfl
theorem repr_nice {k w : Nat} {d : D} (h : Nice k w d) (hk : k ≤ 32) (hw : w ≤ 2 ^ 20) : dRepr [d] = some (.str (toP d).shown) := by
  unfold dRepr
  exact if_pos (h.reprOk hk hw)
/-! ### likeness of whole numbers, lists of such -/
theorem eqvAll_ints : ∀ (a b : List Int), PyData.eqvAll (toPL (a.map D.int)) (toPL (b.map D.int)) = decide (a = b)
  | [], [] => by simp [toPL, PyData.eqvAll]
  | [], _ :: _ => by simp [toPL, PyData.eqvAll]
  | _ :: _, [] => by simp [toPL, PyData.eqvAll]
  | i :: a, j :: b => by
    simp only [List.map_cons, toPL, PyData.eqvAll, toP, PyData.eqv, eqvAll_ints a b, List.cons.injEq]
    by_cases h : i = j <;> simp [h]
theorem shaped_ints (ns : List Int) : SeqAt.shaped (.list (toPL (ns.map D.int))) = true := by
  have h1 : PyData.canLayAll0 (toPL (ns.map D.int)) = true := by
    induction ns with
    | nil => rfl
    | cons n ns ih => simp [toPL, PyData.canLayAll0, toP, PyData.canLay0, ih]
  have h2 : PyData.depthAll (toPL (ns.map D.int)) ≤ 0 := by
    induction ns with
    | nil => simp [toPL, PyData.depthAll]
    | cons n ns ih => simpa [toPL, PyData.depthAll, toP, PyData.depth] using ih (by
        simpa [toPL, PyData.canLayAll0, toP, PyData.canLay0] using h1)
  unfold SeqAt.shaped
  have h3 : (PyData.list (toPL (ns.map D.int))).depth ≤ 64 := by
    rw [PyData.depth]
    exact Nat.le_trans (Nat.succ_le_succ h2) (by decide : 0 + 1 ≤ 64)
  rw [PyData.canLay0, h1, decide_eq_true h3]
  rfl
theorem noDic_ints (ns : List Int) : noDicL (ns.map D.int) = true := by
  induction ns with
  | nil => rfl
  | cons n ns ih => simp [noDicL, noDic, ih]
/-- an int list: frozen or not -/
def isInts (x : D) (ns : List Int) : Prop := x = .lst (ns.map D.int) ∨ x = .flst (ns.map D.int)
theorem eqB_ints {x y : D} {a b : List Int} (hx : isInts x a) (hy : isInts y b) : dEqB x y = some (decide (a = b)) := by
  have key : dEqD x y = some (decide (a = b)) := by
    rcases hx with rfl | rfl <;> rcases hy with rfl | rfl <;>
      (show (if _ then some (PyData.eqv (.list (toPL (a.map D.int))) (.list (toPL (b.map D.int)))) else none) = _
       rw [if_pos ⟨noDic_ints a, noDic_ints b, shaped_ints a, shaped_ints b⟩]
       simp only [PyData.eqv, eqvAll_ints])
  rcases hx with rfl | rfl <;> rcases hy with rfl | rfl <;> exact key
theorem ne_ints {x y : D} {a b : List Int} (hx : isInts x a) (hy : isInts y b) : dNe x y = some (.bl (!decide (a = b))) := by
  unfold dNe; rw [eqB_ints hx hy]; rfl
theorem eq_ints {x y : D} {a b : List Int} (hx : isInts x a) (hy : isInts y b) : dEq x y = some (.bl (decide (a = b))) := by
  unfold dEq; rw [eqB_ints hx hy]; rfl
@[simp] theorem ne_void (a : List Int) : dNe (.lst (a.map D.int)) (.lst []) = some (.bl (!decide (a = []))) := ne_ints (b := []) (.inl rfl) (.inl rfl)
@[simp] theorem ne_voidf (a : List Int) : dNe (.flst (a.map D.int)) (.lst []) = some (.bl (!decide (a = []))) := ne_ints (b := []) (.inr rfl) (.inl rfl)
@[simp] theorem eq_void (a : List Int) : dEq (.lst (a.map D.int)) (.lst []) = some (.bl (decide (a = []))) := eq_ints (b := []) (.inl rfl) (.inl rfl)
@[simp] theorem eq_voidf (a : List Int) : dEq (.flst (a.map D.int)) (.lst []) = some (.bl (decide (a = []))) := eq_ints (b := []) (.inr rfl) (.inl rfl)
end DL
/-! More that simp reads. -/
namespace DL
open PySem PySem.Spec L2
section
variable {W : List Nat} {ρ : Fm}
@[simp] theorem par1 : params W 1 ρ = [if 0 ∈ W then none else slot ρ 0] := rfl
@[simp] theorem par2 : params W 2 ρ = [if 0 ∈ W then none else slot ρ 0, if 1 ∈ W then none else slot ρ 1] := rfl
@[simp] theorem par3 : params W 3 ρ = [if 0 ∈ W then none else slot ρ 0, if 1 ∈ W then none else slot ρ 1, if 2 ∈ W then none else slot ρ 2] := rfl
@[simp] theorem par4 : params W 4 ρ = [if 0 ∈ W then none else slot ρ 0, if 1 ∈ W then none else slot ρ 1, if 2 ∈ W then none else slot ρ 2, if 3 ∈ W then none else slot ρ 3] := rfl
@[simp] theorem par5 : params W 5 ρ = [if 0 ∈ W then none else slot ρ 0, if 1 ∈ W then none else slot ρ 1, if 2 ∈ W then none else slot ρ 2, if 3 ∈ W then none else slot ρ 3, if 4 ∈ W then none else slot ρ 4] := rfl
end
theorem ap_index {fo : FE} {fr : FA} {ρ : Fm} : fIndex fo fr ρ = (fo ρ).bind fun x => (cont x.2 x.1).bind fun d0 => match d0 with
  | .tup _ => fMethR dIndexT fo fr ρ
  | .lst _ => fMethR dIndexL fo fr ρ
  | .flst _ => fMethR dIndexL fo fr ρ
  | _ => none := by
  unfold fIndex
  cases h : fo ρ with
  | none => rfl
  | some x =>
    simp only [Option.bind_some]
    cases h2 : cont x.2 x.1 with
    | none => rfl
    | some d => cases d <;> rfl
theorem ap_methR {g : D → List D → Option D} {fo : FE} {fr : FA} {ρ : Fm} : fMethR g fo fr ρ = (fo ρ).bind fun x => (cont x.2 x.1).bind fun d0 => (fr x.2).bind fun y => (cont y.2 x.1).bind fun d => (conts y.2 y.1).bind fun ds => (g d ds).map fun z => (.val z, y.2) := rfl
@[simp] theorem isLst_l {ds : List D} : isLst (.lst ds) = true := rfl
@[simp] theorem cut_t {ds : List D} {l h : Option Int} : dCut (.tup ds) l h = if immL ds = true then some (.tup (cut ds l h)) else none := rfl
@[simp] theorem cut_l {ds : List D} {l h : Option Int} : dCut (.lst ds) l h = if immL ds = true then some (.lst (cut ds l h)) else none := rfl
@[simp] theorem cut_f {ds : List D} {l h : Option Int} : dCut (.flst ds) l h = if immL ds = true then some (.lst (cut ds l h)) else none := rfl
@[simp] theorem ok_some' {α : Type} {a : α} {P : α → Prop} : Ok (some a) P ↔ P a := ok_some
@[simp] theorem ne_vv : dNe (.lst []) (.lst []) = some (.bl false) := ne_void []
@[simp] theorem ne_vvf : dNe (.flst []) (.lst []) = some (.bl false) := ne_voidf []
@[simp] theorem pow_1018 : dPow (.int 10) (.int 18) = some (.int 1000000000000000000) := rfl
@[simp] theorem mul_ls {i j : Int} (h0 : -(2 ^ 64) < i) (h1 : i < 2 ^ 64) : dMul (.int i) (.int j) = some (.int (i * j)) := mul_l h0 h1
@[simp] theorem mul_rs {i j : Int} (h0 : -(2 ^ 64) < j) (h1 : j < 2 ^ 64) : dMul (.int i) (.int j) = some (.int (i * j)) := mul_r h0 h1
theorem fmod_in (x : Int) {m : Int} (h : 0 < m) : 0 ≤ x.fmod m ∧ x.fmod m < m := ⟨Int.fmod_nonneg_of_pos x h, Int.fmod_lt_of_pos x h⟩
@[simp] theorem mul_fm {x y : Int} : dMul (.int (x.fmod 1000000007 + 1)) (.int y) = some (.int ((x.fmod 1000000007 + 1) * y)) := by
  have := fmod_in x (m := 1000000007) (by decide)
  exact mul_l (by omega) (by omega)
@[simp] theorem pow_fm {x : Int} : dPow (.int (x.fmod 2147483647)) (.int 5) = some (.int ((x.fmod 2147483647) ^ 5)) := by
  have := fmod_in x (m := 2147483647) (by decide)
  exact pow_int ⟨by decide, by decide, by omega⟩
theorem cell_at {cs : List Int} (a : Int) (h : cs ≠ []) : ∃ c, dSubs (.flst (cs.map .int)) (.int (a.fmod cs.length)) = some (.int c) := by
  have hl : 0 < cs.length := List.length_pos_iff.mpr h
  have := fmod_in a (m := cs.length) (by omega)
  have hlt : (a.fmod cs.length).toNat < cs.length := by omega
  exact ⟨cs[(a.fmod cs.length).toNat], dSubs_seq rfl this.1 (by rw [List.getElem?_map, List.getElem?_eq_getElem hlt]; rfl) rfl⟩
theorem gb_none : ∀ {rs : List R} {ds : List D} {ρ : Fm}, giveBack rs ds [] ρ = ρ
  | [], _, _ => by unfold giveBack; rfl
  | .var _ :: _, [], _ => by unfold giveBack; rfl
  | .val _ :: _, [], _ => by unfold giveBack; rfl
  | .var _ :: _, _ :: _, _ => by unfold giveBack; rfl
  | .val _ :: _, _ :: _, _ => by unfold giveBack; rfl
@[simp] theorem gb_immc {i : Nat} {d : D} {rs : List R} {ds : List D} {os ρ : Fm} (h : imm d = true) : giveBack (.var i :: rs) (d :: ds) os ρ = giveBack rs ds os.tail ρ := by
  cases os with
  | nil => rw [gb_none, List.tail_nil, gb_none]
  | cons o os => rw [giveBack, if_pos h]; rfl
@[simp] theorem gb_valc {v d : D} {rs : List R} {ds : List D} {os ρ : Fm} : giveBack (.val v :: rs) (d :: ds) os ρ = giveBack rs ds os.tail ρ := by
  cases os with
  | nil => rw [gb_none, List.tail_nil, gb_none]
  | cons o os => rw [giveBack]; rfl
end DL
/-! Lists of whole numbers, rows, webs. -/
namespace DL
open PySem PySem.Spec L2
abbrev intsD (ns : List Int) : List D := ns.map D.int
/-- a row as a tuple; a web -/
def rowD (r : List Int) : D := .tup (intsD r)
abbrev webD (w : List (List Int)) : D := .tup (w.map rowD)
theorem findIdx_ints (m : Int) : ∀ {ns : List Int}, m ∈ ns → (toPL (intsD ns)).findIdx? (fun z => PyData.eqv z (toP (.int m))) = some (ns.idxOf m)
  | [], h => by cases h
  | n :: ns, h => by
    simp only [intsD, List.map_cons, toPL, List.findIdx?_cons, toP, PyData.eqv, List.idxOf_cons]
    by_cases e : n = m
    · simp [e]
    · have hm : m ∈ ns := by rcases List.mem_cons.mp h with z | z; exact absurd z.symm e; exact z
      have := findIdx_ints m hm
      have e' : (n == m) = false := by simpa using e
      have t' : (toPL (intsD ns)).findIdx? (fun z => z.eqv (PyData.int m)) = some (ns.idxOf m) := by simpa [toP] using this
      have t2 : (toPL (ns.map D.int)).findIdx? (fun z => z.eqv (PyData.int m)) = some (ns.idxOf m) := t'
      rw [t2]
      simp [e']
theorem index_l {x : D} {ns : List Int} {m : Int} (hx : isInts x ns) (h : m ∈ ns) : dIndexL x [.int m] = some (.int (ns.idxOf m : Nat)) := by
  have sm : SeqAt.shaped (toP (.int m)) = true := rfl
  rcases hx with rfl | rfl <;>
    (show (if _ then (idxD (toPL (ns.map D.int)) (toP (.int m))).map (fun j => D.int (j : Nat)) else none) = _
     rw [if_pos ⟨noDic_ints ns, rfl, shaped_ints ns, sm⟩]
     unfold idxD
     rw [findIdx_ints m h]
     rfl)
theorem index_t {ns : List Int} {m : Int} (h : m ∈ ns) : dIndexT (.tup (intsD ns)) [.int m] = some (.int (ns.idxOf m : Nat)) := by
  show (intsOf (ns.map D.int)).bind _ = _
  rw [intsOf_ints]
  show (if m ∈ ns then _ else _) = _
  rw [if_pos h]
theorem foldl_min_mem : ∀ (ns : List Int) (n : Int), ns.foldl min n ∈ n :: ns
  | [], n => by simp
  | m :: ns, n => by
    have := foldl_min_mem ns (min n m)
    simp only [List.foldl_cons]
    rcases List.mem_cons.mp this with h | h
    · rw [h]
      by_cases z : n ≤ m
      · rw [Int.min_def, if_pos z]; simp
      · rw [Int.min_def, if_neg z]; simp
    · simp [h]
theorem foldl_min_le : ∀ (ns : List Int) (n : Int), (∀ m ∈ n :: ns, ns.foldl min n ≤ m)
  | [], n => by simp
  | m :: ns, n => by
    intro k hk
    have ih := foldl_min_le ns (min n m)
    simp only [List.foldl_cons]
    have h0 := ih (min n m) List.mem_cons_self
    rcases List.mem_cons.mp hk with rfl | hk
    · omega
    · rcases List.mem_cons.mp hk with rfl | hk
      · omega
      · exact ih k (List.mem_cons_of_mem _ hk)
/-- the least of a list that isn't void -/
def least : List Int → Int
  | [] => 0
  | n :: ns => ns.foldl min n
theorem least_mem {ns : List Int} (h : ns ≠ []) : least ns ∈ ns := by
  cases ns with
  | nil => exact absurd rfl h
  | cons n ns => exact foldl_min_mem ns n
theorem least_le {ns : List Int} {m : Int} (h : m ∈ ns) : least ns ≤ m := by
  cases ns with
  | nil => cases h
  | cons n ns => exact foldl_min_le ns n m h
theorem min_of {x : D} {ns : List Int} (hs : seqOf x = some (intsD ns)) (h : ns ≠ []) : dMm min [x] = some (.int (least ns)) := by
  show (seqOf x).bind _ = _
  rw [hs]
  show (intsOf (ns.map D.int)).bind _ = _
  rw [intsOf_ints]
  cases ns with
  | nil => exact absurd rfl h
  | cons n ns => rfl
theorem sIx_nn (n d k : Nat) (h : k ≤ n) : HT.sIx n d (some (k : Int)) = k := by
  rw [HT.sIx_nat]
  omega
theorem cut_from {α : Type} (xs : List α) (k : Nat) (h : k ≤ xs.length) : cut xs (some (k : Int)) none = xs.drop k := by
  unfold cut
  rw [sIx_nn _ _ _ h]
  show (xs.drop k).take (xs.length - k) = _
  rw [List.take_of_length_le (by simp)]
theorem cut_to {α : Type} (xs : List α) (k : Nat) (h : k ≤ xs.length) : cut xs none (some (k : Int)) = xs.take k := by
  unfold cut
  rw [sIx_nn _ _ _ h]
  show (xs.drop 0).take (k - 0) = _
  simp
theorem cat_l {a b : List D} (ha : immL a = true) (hb : immL b = true) (h : a.length + b.length ≤ sizeLine) : dAdd (.lst a) (.lst b) = some (.lst (a ++ b)) := by
  unfold dAdd dAddI dAddS dCatL
  simp [ha, hb, h]
theorem tuple_l {a : List D} (ha : immL a = true) : dTuple [.lst a] = some (.tup a) := if_pos ha
theorem append_l {ds : List D} {y : D} (h : ds.length < sizeLine) : mAppend (.lst ds) [y] = some (.lst (ds ++ [y]), .non) := if_pos h
theorem immL_append' (a b : List D) : immL (a ++ b) = (immL a && immL b) := immL_append a b
theorem imm_rows (w : List (List Int)) : immL (w.map rowD) = true := immL_mem.mpr fun d hd => by
  obtain ⟨r, _, rfl⟩ := List.mem_map.mp hd
  exact immL_ints r
theorem alikeAll_ints : ∀ (a b : List Int), PySem.W.alikeAll (toPL (intsD a)) (toPL (intsD b)) = true
  | [], _ => by simp [toPL, PySem.W.alikeAll]
  | _ :: _, [] => by simp [toPL, PySem.W.alikeAll]
  | i :: a, j :: b => by
    have := alikeAll_ints a b
    simp only [intsD, List.map_cons, toPL, PySem.W.alikeAll, toP, PySem.W.alike, Bool.true_and]
    exact this
theorem depth_row (r : List Int) : (toP (rowD r)).depth ≤ 32 := by
  have := depthAll_le (k := 0) (ds := intsD r) fun d hd => by
    obtain ⟨i, _, rfl⟩ := List.mem_map.mp hd
    exact Nat.le_refl 0
  show (PyData.tuple (toPL (intsD r))).depth ≤ 32
  rw [PyData.depth]
  omega
/-- rows in rising order, as sorted puts them -/
def rowLe (a b : List Int) : Bool := PySem.W.dataLe false toP (rowD a) (rowD b)
def sortRows (w : List (List Int)) : List (List Int) := w.mergeSort rowLe
theorem sorted_rows {w : List (List Int)} (h : ∀ r ∈ w, r ≠ []) : dSorted [.lst (w.map rowD)] = some (.lst ((sortRows w).map rowD)) := by
  have h1 : noDicL (w.map rowD) = true := by
    induction w with
    | nil => rfl
    | cons r w ih =>
      show (noDicL (intsD r) && noDicL (w.map rowD)) = true
      rw [noDic_ints, ih fun x hx => h x (List.mem_cons_of_mem _ hx)]
      rfl
  have h2 : sortable ((w.map rowD).map toP) = true := by
    unfold sortable
    rw [Bool.or_eq_true]
    left
    rw [List.all_eq_true]
    intro d hd
    obtain ⟨e, he, rfl⟩ := List.mem_map.mp hd
    obtain ⟨r, hr, rfl⟩ := List.mem_map.mp he
    cases r with
    | nil => exact absurd rfl (h _ hr)
    | cons n r => rfl
  have h3 : allAlike ((w.map rowD).map toP) = true := by
    unfold allAlike
    rw [List.all_eq_true]
    intro d hd
    rw [List.all_eq_true]
    intro e he
    obtain ⟨d', hd', rfl⟩ := List.mem_map.mp hd
    obtain ⟨r, _, rfl⟩ := List.mem_map.mp hd'
    obtain ⟨e', he', rfl⟩ := List.mem_map.mp he
    obtain ⟨q, _, rfl⟩ := List.mem_map.mp he'
    exact alikeAll_ints r q
  show (if _ then some (D.lst ((w.map rowD).mergeSort (PySem.W.dataLe false toP))) else none) = _
  rw [if_pos ⟨h1, imm_rows w, h2, h3, fun d hd => by obtain ⟨r, _, rfl⟩ := List.mem_map.mp hd; exact depth_row r⟩]
  congr 2
  exact (List.map_mergeSort (f := rowD) (r := rowLe) (s := PySem.W.dataLe false toP) fun a _ b _ => rfl).symm
theorem sortRows_perm (w : List (List Int)) : (sortRows w).Perm w := List.mergeSort_perm _ _
/-- a row begun with its least -/
def turnRow (r : List Int) : List Int := r.drop (r.idxOf (least r)) ++ r.take (r.idxOf (least r))
theorem turnRow_perm (r : List Int) : (turnRow r).Perm r := by
  have := List.perm_append_comm (l₁ := r.drop (r.idxOf (least r))) (l₂ := r.take (r.idxOf (least r)))
  rw [List.take_append_drop] at this
  exact this
theorem big_ok {n : Nat} (h : n ≤ 100000) : n ≤ sizeLine := Nat.le_trans h (by decide)
theorem big_lt {n : Nat} (h : n ≤ 100000) : n < sizeLine := Nat.lt_of_le_of_lt h (by decide)
theorem IsFeed.imm {d : D} (h : IsFeed d) : imm d = false := by obtain ⟨_, _, _, _, rfl⟩ := h; rfl
/-- 0, 1, …, k - 1 -/
def up (k : Nat) : List Int := (List.range k).map fun (i : Nat) => (i : Int)
theorem iota_up (k : Nat) : iota 0 k = intsD (up k) := by simp [iota, up, intsD]
theorem up_length (k : Nat) : (up k).length = k := by simp [up]
theorem up_mem {k : Nat} {i : Int} : i ∈ up k ↔ 0 ≤ i ∧ i < k := by
  unfold up
  rw [List.mem_map]
  constructor
  · rintro ⟨j, hj, rfl⟩
    have := List.mem_range.mp hj
    omega
  · rintro ⟨h0, h1⟩
    exact ⟨i.toNat, List.mem_range.mpr (by omega), by omega⟩
theorem up_nodup (k : Nat) : (up k).Nodup := by
  unfold up
  refine List.pairwise_map.mpr (List.Pairwise.imp (fun {a b} h => ?_) List.nodup_range)
  omega
theorem okR_of' {j : Int} (h0 : -4611686018427387904 < j) (h1 : j < 4611686018427387904) : okR j = true := decide_eq_true (by omega)
theorem map_erase {α β : Type} (f : α → β) : ∀ (l : List α) (i : Nat), (l.map f).eraseIdx i = (l.eraseIdx i).map f
  | [], i => by simp
  | a :: l, 0 => rfl
  | a :: l, i + 1 => by simp [map_erase f l i]
theorem pop_ints {ns : List Int} {i : Int} (h0 : 0 ≤ i) (h1 : i < ns.length) (hl : ns.length ≤ 100000) : ∃ n, ns[i.toNat]? = some n ∧ mPopAt (.lst (intsD ns)) [.int i] = some (.lst (intsD (ns.eraseIdx i.toNat)), .int n) := by
  have hlt : i.toNat < ns.length := by omega
  refine ⟨ns[i.toNat], List.getElem?_eq_getElem hlt, ?_⟩
  show (if i.natAbs < 2 ^ 63 then _ else _) = _
  rw [if_pos (by omega), ixN_int h0 (by simp; omega)]
  show Option.map _ ((ns.map D.int)[i.toNat]?) = _
  rw [List.getElem?_map, List.getElem?_eq_getElem hlt]
  simp [map_erase]
theorem erase_perm {ns : List Int} {i : Nat} {n : Int} (h : ns[i]? = some n) : (n :: ns.eraseIdx i).Perm ns := by
  induction ns generalizing i with
  | nil => simp at h
  | cons m ns ih =>
    cases i with
    | zero => simp at h; subst h; simp
    | succ i =>
      simp at h
      simp only [List.eraseIdx_cons_succ]
      exact (List.Perm.swap _ _ _).trans ((ih h).cons _)
@[simp] theorem hide_ix {ρ : Fm} {i j : Nat} : hide ρ (.ix i j) = ρ.set i none := rfl
@[simp] theorem unhide_ix {ρ1 ρ3 : Fm} {i j : Nat} : unhide ρ1 ρ3 (.ix i j) = (ρ3.set i none).set i (slot ρ1 i) := rfl
theorem rows_le : ∀ {w : List (List Int)}, (∀ r ∈ w, r ≠ []) → w.length ≤ w.flatten.length
  | [], _ => Nat.zero_le _
  | r :: w, h => by
    have := rows_le (w := w) fun x hx => h x (List.mem_cons_of_mem _ hx)
    have := List.length_pos_iff.mpr (h r List.mem_cons_self)
    simp only [List.length_cons, List.flatten_cons, List.length_append]
    omega
theorem row_le : ∀ {w : List (List Int)} {r : List Int}, r ∈ w → r.length ≤ w.flatten.length
  | q :: w, r, h => by
    simp only [List.flatten_cons, List.length_append]
    rcases List.mem_cons.mp h with rfl | h
    · omega
    · have := row_le h
      omega
theorem turn_flat : ∀ (w : List (List Int)), (w.map turnRow).flatten.Perm w.flatten
  | [] => .refl _
  | r :: w => by
    simp only [List.map_cons, List.flatten_cons]
    exact (turnRow_perm r).append (turn_flat w)
theorem turn_ne {r : List Int} (h : r ≠ []) : turnRow r ≠ [] := fun z => by
  have := (turnRow_perm r).length_eq
  rw [z] at this
  exact h (List.eq_nil_of_length_eq_zero this.symm)
end DL
/-! Webs by their rows: places, next ones; comprehensions over lists of anything. -/
namespace DL
open PySem PySem.Spec L2
theorem lcD_of {α : Type} {vs : List Nat} {fg : FG} {ft : FT} {fe : FE} {ρ0 : Fm} {emb z : α → D} {p : α → Bool} : ∀ {xs : List α}, (∀ x ∈ xs, ∃ ρ1, fg (emb x) ρ0 = some ρ1 ∧ ∃ ρ2, ft ρ1 = some (p x, ρ2) ∧
    (p x = false → wipeF ρ2 vs = ρ0) ∧ (p x = true → ∃ r ρ3 ρ4, fe ρ2 = some (r, ρ3) ∧ take1 ρ3 r = some (z x, ρ4) ∧ wipeF ρ4 vs = ρ0)) → lcD vs fg ft fe (xs.map emb) ρ0 = some ((xs.filter p).map z, ρ0)
  | [], _ => rfl
  | x :: xs, h => by
    obtain ⟨ρ1, e1, ρ2, e2, hf, ht⟩ := h x List.mem_cons_self
    have ih := lcD_of (vs := vs) (fg := fg) (ft := ft) (fe := fe) (emb := emb) (z := z) (p := p) fun d' hd => h d' (List.mem_cons_of_mem _ hd)
    show (fg (emb x) ρ0).bind _ = _
    rw [e1]
    show (ft ρ1).bind _ = _
    rw [e2]
    cases hp : p x with
    | false =>
      rw [List.filter_cons_of_neg (by simp [hp])]
      show lcD vs fg ft fe (xs.map emb) (wipeF ρ2 vs) = _
      rw [hf hp, ih]
    | true =>
      rw [List.filter_cons_of_pos hp]
      obtain ⟨r, ρ3, ρ4, e3, e4, e5⟩ := ht hp
      show (fe ρ2).bind _ = _
      rw [e3]
      show (take1 ρ3 r).bind _ = _
      rw [e4]
      show (lcD vs fg ft fe (xs.map emb) (wipeF ρ4 vs)).map _ = _
      rw [e5, ih]
      rfl
theorem lcD_all {α : Type} {vs : List Nat} {fg : FG} {fe : FE} {ρ0 : Fm} {emb z : α → D} {xs : List α} (h : ∀ x ∈ xs, ∃ ρ1, fg (emb x) ρ0 = some ρ1 ∧ ∃ r ρ3 ρ4, fe ρ1 = some (r, ρ3) ∧ take1 ρ3 r = some (z x, ρ4) ∧ wipeF ρ4 vs = ρ0) :
    lcD vs fg fYes fe (xs.map emb) ρ0 = some (xs.map z, ρ0) := by
  have := lcD_of (vs := vs) (fg := fg) (ft := fYes) (fe := fe) (ρ0 := ρ0) (emb := emb) (z := z) (p := fun _ => true) (xs := xs) fun x hx => by
    obtain ⟨ρ1, e1, r⟩ := h x hx
    exact ⟨ρ1, e1, ρ1, rfl, (fun e => by cases e), fun _ => r⟩
  rw [List.filter_eq_self.mpr fun _ _ => rfl] at this
  exact this
theorem inS_ints (d : Int) : ∀ (r : List Int), inS (.int d) (intsD r) = some (decide (d ∈ r))
  | [] => by simp [inS]
  | i :: r => by
    show (toV (.int d)).bind (fun v => (toV (.int i)).bind fun w => (inS (.int d) (intsD r)).map fun b => eqV w v || b) = _
    rw [inS_ints d r]
    show some (eqV (.int i) (.int d) || decide (d ∈ r)) = _
    have : eqV (.int i) (.int d) = decide (d = i) := by
      unfold eqV
      by_cases h : d = i
      · subst h; simp
      · have h' : ¬ i = d := fun z => h z.symm
        simp [h, h']
    rw [this]
    by_cases h : d = i <;> simp [h]
theorem in_row (d : Int) (r : List Int) : dIn (.int d) (rowD r) = some (.bl (decide (d ∈ r))) := by
  show ((((toV (.int d)).bind fun _ => inS (.int d) (intsD r)).orElse _)).map _ = _
  show ((inS (.int d) (intsD r)).orElse _).map _ = _
  rw [inS_ints]
  rfl
theorem in_l {x : D} {d : Int} {r : List Int} (hx : isInts x r) : dIn (.int d) x = some (.bl (decide (d ∈ r))) := by
  rcases hx with rfl | rfl <;>
    (show ((inS (.int d) (intsD r)).orElse _).map _ = _
     rw [inS_ints]
     rfl)
theorem notIn_l {x : D} {d : Int} {r : List Int} (hx : isInts x r) : dNotIn (.int d) x = some (.bl (!decide (d ∈ r))) := by
  rcases hx with rfl | rfl <;>
    (show ((inS (.int d) (intsD r)).orElse _).map _ = _
     rw [inS_ints]
     rfl)
/-! ### index of True -/
theorem findIdx_bls : ∀ (bs : List Bool), true ∈ bs → (toPL (bs.map D.bl)).findIdx? (fun z => PyData.eqv z (toP (.bl true))) = some (bs.idxOf true)
  | [], h => by cases h
  | b :: bs, h => by
    simp only [List.map_cons, toPL, List.findIdx?_cons, toP, PyData.eqv, List.idxOf_cons]
    cases b with
    | true => simp
    | false =>
      have hm : true ∈ bs := by simpa using h
      have := findIdx_bls bs hm
      have t2 : (toPL (bs.map D.bl)).findIdx? (fun z => z.eqv (PyData.bool true)) = some (bs.idxOf true) := this
      rw [t2]
      simp
theorem noDic_bls (bs : List Bool) : noDicL (bs.map D.bl) = true := by
  induction bs with
  | nil => rfl
  | cons n ns ih => simp [noDicL, noDic, ih]
theorem shaped_bls (ns : List Bool) : SeqAt.shaped (.list (toPL (ns.map D.bl))) = true := by
  have h1 : PyData.canLayAll0 (toPL (ns.map D.bl)) = true := by
    induction ns with
    | nil => rfl
    | cons n ns ih => simp [toPL, PyData.canLayAll0, toP, PyData.canLay0, ih]
  have h2 : PyData.depthAll (toPL (ns.map D.bl)) ≤ 0 := depthAll_le fun d hd => by
    obtain ⟨b, _, rfl⟩ := List.mem_map.mp hd
    exact Nat.le_refl 0
  unfold SeqAt.shaped
  have h3 : (PyData.list (toPL (ns.map D.bl))).depth ≤ 64 := by
    rw [PyData.depth]
    exact Nat.le_trans (Nat.succ_le_succ h2) (by decide : 0 + 1 ≤ 64)
  rw [PyData.canLay0, h1, decide_eq_true h3]
  rfl
theorem index_true {bs : List Bool} (h : true ∈ bs) : dIndexL (.lst (bs.map D.bl)) [.bl true] = some (.int (bs.idxOf true : Nat)) := by
  have sm : SeqAt.shaped (toP (.bl true)) = true := rfl
  show (if _ then (idxD (toPL (bs.map D.bl)) (toP (.bl true))).map (fun j => D.int (j : Nat)) else none) = _
  rw [if_pos ⟨noDic_bls bs, rfl, shaped_bls bs, sm⟩]
  unfold idxD
  rw [findIdx_bls bs h]
  rfl
/-! ### webs -/
structure IsWeb (w : List (List Int)) (n : Nat) : Prop where
  ne : ∀ r ∈ w, r ≠ []
  perm : w.flatten.Perm (up (2 * n))
  pos : 1 ≤ n
  le : n ≤ 12
def spotOf (w : List (List Int)) (d : Int) : Nat := w.findIdx fun r => decide (d ∈ r)
def rowOf (w : List (List Int)) (d : Int) : List Int := (w[spotOf w d]?).getD []
def nextOf (w : List (List Int)) (d : Int) : Int := ((rowOf w d)[((rowOf w d).idxOf d + 1) % (rowOf w d).length]?).getD 0
def otherOf (d : Int) : Int := if d.fmod 2 = 0 then d + 1 else d - 1
section
variable {w : List (List Int)} {n : Nat} (W : IsWeb w n)
include W
theorem IsWeb.nodup : w.flatten.Nodup := W.perm.nodup_iff.mpr (up_nodup _)
theorem IsWeb.mem {d : Int} : d ∈ w.flatten ↔ 0 ≤ d ∧ d < 2 * n := by
  rw [W.perm.mem_iff, up_mem]
  simp
theorem IsWeb.len : w.flatten.length = 2 * n := by rw [W.perm.length_eq, up_length]
theorem IsWeb.rows : w.length ≤ 24 := by
  have := rows_le W.ne
  rw [W.len] at this
  have := W.le
  omega
theorem IsWeb.row {r : List Int} (h : r ∈ w) : r.length ≤ 24 := by
  have := row_le h
  rw [W.len] at this
  have := W.le
  omega
theorem IsWeb.row_nodup {r : List Int} (h : r ∈ w) : r.Nodup := (List.pairwise_flatten.mp W.nodup).1 r h
/-- the row that it stands in, its place -/
theorem IsWeb.place {p : Nat} {r : List Int} {d : Int} (hp : w[p]? = some r) (hd : d ∈ r) : spotOf w d = p := by
  have hlt := (List.getElem?_eq_some_iff.mp hp).1
  have hr := (List.getElem?_eq_some_iff.mp hp).2
  unfold spotOf
  rw [List.findIdx_eq hlt]
  refine ⟨by rw [hr]; simpa using hd, fun j hj => ?_⟩
  have := (List.pairwise_flatten.mp W.nodup).2
  rw [List.pairwise_iff_getElem] at this
  have := this j p (by omega) hlt hj
  rw [hr] at this
  rw [decide_eq_false_iff_not]
  exact fun z => this d z d hd rfl
theorem IsWeb.at {d : Int} (h : d ∈ w.flatten) : ∃ p r, w[p]? = some r ∧ d ∈ r ∧ spotOf w d = p ∧ rowOf w d = r := by
  obtain ⟨r, hr, hd⟩ := List.mem_flatten.mp h
  obtain ⟨p, hlt, hp⟩ := List.mem_iff_getElem.mp hr
  have hp' : w[p]? = some r := by rw [List.getElem?_eq_getElem hlt, hp]
  have e := W.place hp' hd
  exact ⟨p, r, hp', hd, e, by unfold rowOf; rw [e, hp']; rfl⟩
end
end DL
/-! Loops by their count; dicts by their rows. -/
namespace DL
open PySem PySem.Spec L2
theorem ok_at {α : Type} {fg : FG} {fb : FS} {P : Fl × Fm → Prop} {emb : α → D} (xs : List α) (I : Nat → Fm → Prop) (step : ∀ p x ρ, xs[p]? = some x → I p ρ → Ok (fg (emb x) ρ) fun ρ1 => Ok (fb ρ1) fun x => match x.1 with
    | .nx => I (p + 1) x.2
    | .ct => I (p + 1) x.2
    | .bk => P (.nx, x.2)
    | .ret v => P (.ret v, x.2)) (done : ∀ ρ, I xs.length ρ → P (.nx, ρ)) {ρ : Fm} (h0 : I 0 ρ) : Ok (forD fg fb (xs.map emb) ρ) P := by
  refine ok_for (fun rest ρ => ∃ p, p ≤ xs.length ∧ rest = (xs.drop p).map emb ∧ I p ρ) ?_ ?_ ⟨0, Nat.zero_le _, rfl, h0⟩
  · rintro d r ρ ⟨p, hp, e, hI⟩
    cases hx : xs[p]? with
    | none =>
      rw [List.drop_eq_nil_of_le (List.getElem?_eq_none_iff.mp hx)] at e
      cases e
    | some x =>
      have hlt := (List.getElem?_eq_some_iff.mp hx).1
      rw [List.drop_eq_getElem_cons hlt, (List.getElem?_eq_some_iff.mp hx).2] at e
      injection e with e1 e2
      subst e1 e2
      refine ok_mono (step p x ρ hx hI) fun ρ1 h1 => ok_mono h1 fun y h2 => ?_
      obtain ⟨o, ρ2⟩ := y
      cases o with
      | nx => exact ⟨p + 1, hlt, rfl, h2⟩
      | ct => exact ⟨p + 1, hlt, rfl, h2⟩
      | bk => exact h2
      | ret v => exact h2
  · rintro ρ ⟨p, hp, e, hI⟩
    have hl : xs.length ≤ p := by
      have := congrArg List.length e
      simp at this
      omega
    have : p = xs.length := by omega
    subst this
    exact done ρ hI
theorem ok_iota {n : Nat} {fg : FG} {fb : FS} {P : Fl × Fm → Prop} (I : Nat → Fm → Prop) (step : ∀ p ρ, p < n → I p ρ → Ok (fg (.int (p : Nat)) ρ) fun ρ1 => Ok (fb ρ1) fun x => match x.1 with
    | .nx => I (p + 1) x.2
    | .ct => I (p + 1) x.2
    | .bk => P (.nx, x.2)
    | .ret v => P (.ret v, x.2)) (done : ∀ ρ, I n ρ → P (.nx, ρ)) {ρ : Fm} (h0 : I 0 ρ) : Ok (forD fg fb (iota 0 n) ρ) P := by
  have e : iota 0 n = (List.range n).map fun (i : Nat) => D.int (i : Int) := by simp [iota]
  rw [e]
  refine ok_at (List.range n) I (fun p x ρ hx hI => ?_) (fun ρ h => done ρ (by simpa using h)) h0
  obtain ⟨hlt, hx⟩ := List.getElem?_eq_some_iff.mp hx
  simp at hlt hx
  subst hx
  exact step p ρ hlt hI
/-! ### dicts with whole numbers as keys -/
def kvsOf (f : Int → D) (ds : List Int) : List (Key × D) := ds.map fun d => (Sum.inl d, f d)
@[simp] theorem kvs_len {f : Int → D} {ds : List Int} : (kvsOf f ds).length = ds.length := by simp [kvsOf]
@[simp] theorem kvs_nil {f : Int → D} : kvsOf f [] = [] := rfl
theorem kvs_any {f : Int → D} {d : Int} : ∀ {ds : List Int}, d ∉ ds → (kvsOf f ds).any (fun kv => decide (kv.1 = (Sum.inl d : Key))) = false
  | [], _ => rfl
  | e :: ds, h => by
    have h1 : e ≠ d := fun z => h (by simp [z])
    have h2 : d ∉ ds := fun z => h (List.mem_cons_of_mem _ z)
    have := kvs_any (f := f) h2
    simp only [kvsOf, List.map_cons, List.any_cons, Bool.or_eq_false_iff]
    exact ⟨decide_eq_false fun z => h1 (Sum.inl.inj z), this⟩
theorem put_new {f : Int → D} {d : Int} {ds : List Int} (h : d ∉ ds) (hi : imm (f d) = true) (hl : ds.length < 100000) : dStore (.dic (kvsOf f ds)) (.int d) (f d) = some (.dic (kvsOf f (ds ++ [d]))) := by
  show (if imm (f d) = true ∧ (kvsOf f ds).length < sizeLine then some (D.dic (kvPut (kvsOf f ds) (.inl d) (f d))) else none) = _
  rw [if_pos ⟨hi, Nat.lt_of_lt_of_le (by simpa using hl) (by decide : 100000 ≤ sizeLine)⟩]
  unfold kvPut
  rw [if_neg (by rw [kvs_any h]; decide)]
  simp [kvsOf]
theorem kv_get {f : Int → D} {d : Int} : ∀ {ds : List Int}, d ∈ ds → kvGet (kvsOf f ds) (.inl d) = some (f d)
  | e :: ds, h => by
    unfold kvGet
    simp only [kvsOf, List.map_cons, List.find?_cons]
    by_cases he : e = d
    · subst he; simp
    · have hd : d ∈ ds := by rcases List.mem_cons.mp h with z | z; exact absurd z.symm he; exact z
      have := kv_get (f := f) hd
      unfold kvGet at this
      have hh : decide ((Sum.inl e : Key) = .inl d) = false := decide_eq_false fun z => he (Sum.inl.inj z)
      rw [hh]
      exact this
theorem subs_dic {f : Int → D} {d : Int} {ds : List Int} (h : d ∈ ds) (hi : imm (f d) = true) : dSubs (.dic (kvsOf f ds)) (.int d) = some (f d) := by
  show ((DL.keyOf (.int d)).bind fun k => (kvGet (kvsOf f ds) k).bind fun d => if imm d = true then some d else none) = _
  show ((kvGet (kvsOf f ds) (.inl d)).bind fun d => if imm d = true then some d else none) = _
  rw [kv_get h]
  exact if_pos hi
theorem subs_web {w : List (List Int)} {p : Nat} {r : List Int} (h : w[p]? = some r) : dSubs (webD w) (.int p) = some (rowD r) := dSubs_seq rfl (by omega) (by rw [Int.toNat_natCast, List.getElem?_map, h]; rfl) (immL_ints r)
section
variable {w : List (List Int)} {n : Nat} (W : IsWeb w n)
include W
theorem IsWeb.spots {p a : Nat} {r : List Int} {d : Int} (hp : w[p]? = some r) (ha : r[a]? = some d) : spotOf w d = p ∧ rowOf w d = r ∧ r.idxOf d = a := by
  have hd := List.mem_of_getElem? ha
  have e := W.place hp hd
  refine ⟨e, by unfold rowOf; rw [e, hp]; rfl, ?_⟩
  obtain ⟨hlt, hx⟩ := List.getElem?_eq_some_iff.mp ha
  rw [← hx]
  exact (W.row_nodup (List.mem_of_getElem? hp)).idxOf_getElem a hlt
theorem IsWeb.next {p a : Nat} {r : List Int} {d : Int} (hp : w[p]? = some r) (ha : r[a]? = some d) : (a + 1 < r.length → r[a + 1]? = some (nextOf w d)) ∧ (¬ a + 1 < r.length → r[0]? = some (nextOf w d)) := by
  obtain ⟨e1, e2, e3⟩ := W.spots hp ha
  obtain ⟨hlt, hx⟩ := List.getElem?_eq_some_iff.mp ha
  have hm : (a + 1) % r.length < r.length := Nat.mod_lt _ (by omega)
  have en : r[(a + 1) % r.length]? = some (nextOf w d) := by
    unfold nextOf
    rw [e2, e3, List.getElem?_eq_getElem hm]
    rfl
  refine ⟨fun h => by rwa [Nat.mod_eq_of_lt h] at en, fun h => ?_⟩
  have : a + 1 = r.length := by omega
  rwa [this, Nat.mod_self] at en
theorem IsWeb.nice : Nice 2 30000 (webD w) := by
  have rl := W.rows
  have hn := W.le
  refine (nice_tup (k := 1) (w := 24 * 41) fun d hd => ?_).mono (by decide) ?_
  · obtain ⟨r, hr, rfl⟩ := List.mem_map.mp hd
    have rr := W.row hr
    refine (nice_tup (k := 0) (w := 40) fun e he => ?_).mono (by decide) ?_
    · obtain ⟨i, hi, rfl⟩ := List.mem_map.mp he
      obtain ⟨h0, h1⟩ := W.mem.mp (List.mem_flatten.mpr ⟨r, hr, hi⟩)
      exact nice_int (by omega)
    · rw [List.length_map]
      exact Nat.mul_le_mul rr (Nat.le_refl _)
  · rw [List.length_map]
    exact Nat.le_trans (Nat.mul_le_mul rl (Nat.le_refl _)) (by decide)
end
end DL
/-! More readings: backwards, kinds, sets, loops in place, zip; rules for comprehensions. -/
namespace DL
open PySem PySem.Spec L2
section
variable {ρ : Fm} {f : FS} {fe fa fb : FE} {fr : FA} {d : D} {ds : List D} {ns : List Int} {i j : Nat}
@[simp] theorem ap_rev : fRev fe ρ = (fe ρ).bind fun x => (cont x.2 x.1).bind fun d => (dRev d).map fun z => (.val z, x.2) := rfl
@[simp] theorem ap_isi {k : Kd} : fIsi k fe ρ = (fe ρ).bind fun x => (cont x.2 x.1).bind fun d => if isX d = true then none else some (.val (.bl (isK k d)), x.2) := rfl
@[simp] theorem isX_non : isX .non = false := rfl
@[simp] theorem isX_bl {b : Bool} : isX (.bl b) = false := rfl
@[simp] theorem isX_int {i : Int} : isX (.int i) = false := rfl
@[simp] theorem isX_str {x : Str} : isX (.str x) = false := rfl
@[simp] theorem isX_tup {ds : List D} : isX (.tup ds) = false := rfl
@[simp] theorem isX_lst {ds : List D} : isX (.lst ds) = false := rfl
@[simp] theorem isX_flst {ds : List D} : isX (.flst ds) = false := rfl
@[simp] theorem isX_dic {kvs : List (Key × D)} : isX (.dic kvs) = false := rfl
@[simp] theorem isX_row {r : List Int} : isX (rowD r) = false := rfl
@[simp] theorem isX_fdic {kvs : List (Key × D)} : isX (.fdic kvs) = false := rfl
@[simp] theorem ap_setLen : fSetLen fe ρ = (fe ρ).bind fun x => (cont x.2 x.1).bind fun d => (intsIn d).bind fun ns => if ns.length ≤ 4000 then some (.val (.int (ascend ns).length), x.2) else none := rfl
@[simp] theorem ap_setSorted : fSetSorted fe ρ = (fe ρ).bind fun x => (cont x.2 x.1).bind fun d => (intsIn d).bind fun ns => if ns.length ≤ 4000 ∧ (ascend ns).length < 64 then some (.val (.lst ((ascend ns).map .int)), x.2) else none := rfl
@[simp] theorem ap_forM : fForM i j f ρ = match slot ρ i with
  | some (.lst ds) => loopM i j f [] ds (ρ.set i none)
  | _ => none := rfl
@[simp] theorem ap_forN : fForN i j f ρ = match slot ρ i with
  | some (.lst ds) => loopM i j f [] ds (ρ.set i none)
  | _ => fFor (fSeqI (fVar i)) (fgName j) f ρ := rfl
@[simp] theorem ap_pick : fPick fa fb ρ = (fa ρ).bind fun x => (fb x.2).bind fun y => match x.1, cont y.2 y.1 with
  | .val (.lst ds), some (.int i) => (atI ds i).map fun d => (.val d, y.2)
  | _, _ => none := rfl
@[simp] theorem ap_zip : fZip fr ρ = (fr ρ).bind fun x => (conts x.2 x.1).bind fun ds => match ds with
  | [x1, y] => (fZip.seqS x1).bind fun ds => (fZip.seqS y).map fun es => (zipped ds es, x.2)
  | _ => none := rfl
@[simp] theorem seqS_t : fZip.seqS (.tup ds) = if immL ds = true then some ds else none := rfl
@[simp] theorem seqS_f : fZip.seqS (.flst ds) = if immL ds = true then some ds else none := rfl
@[simp] theorem ap_enum : fEnum fr ρ = (fr ρ).bind fun x => (conts x.2 x.1).bind fun ds => match ds with
  | [.tup ds] => if immL ds = true then some (counted ds, x.2) else none
  | [.flst ds] => if immL ds = true then some (counted ds, x.2) else none
  | _ => none := rfl
@[simp] theorem rev_t : dRev (.tup ds) = if immL ds = true then some (.tup ds.reverse) else none := rfl
@[simp] theorem rev_l : dRev (.lst ds) = if immL ds = true then some (.lst ds.reverse) else none := rfl
@[simp] theorem rev_f : dRev (.flst ds) = if immL ds = true then some (.lst ds.reverse) else none := rfl
@[simp] theorem intsIn_l : intsIn (.lst (ns.map .int)) = some ns := intsOf_ints ns
@[simp] theorem intsIn_f : intsIn (.flst (ns.map .int)) = some ns := intsOf_ints ns
@[simp] theorem intsIn_t : intsIn (.tup (ns.map .int)) = some ns := intsOf_ints ns
@[simp] theorem min2_int {i j : Int} : dMin2 [.int i, .int j] = some (.int (min i j)) := by
  show some (D.int (if j < i then j else i)) = _
  rw [Int.min_def]
  by_cases h : j < i
  · rw [if_pos h, if_neg (by omega)]
  · rw [if_neg h, if_pos (by omega)]
@[simp] theorem max2_int {i j : Int} : dMax2 [.int i, .int j] = some (.int (max i j)) := by
  show some (D.int (if j > i then j else i)) = _
  rw [Int.max_def]
  by_cases h : j > i
  · rw [if_pos h, if_pos (by omega)]
  · rw [if_neg h]
    by_cases h2 : i ≤ j
    · rw [if_pos h2, show i = j by omega]
    · rw [if_neg h2]
@[simp] theorem isB_bl {a b : Bool} : dIsB (.bl a) (.bl b) = some (.bl (decide (a = b))) := rfl
@[simp] theorem isNotB_bl {a b : Bool} : dIsNotB (.bl a) (.bl b) = some (.bl (!decide (a = b))) := rfl
@[simp] theorem int_int {i : Int} : dInt [.int i] = some (.int i) := rfl
@[simp] theorem int_bl {b : Bool} : dInt [.bl b] = some (.int (if b then 1 else 0)) := rfl
@[simp] theorem eq_bl {a b : Bool} : dEq (.bl a) (.bl b) = some (.bl (decide (a = b))) := by
  show some (D.bl (decide (V.bl a = V.bl b))) = _
  simp
@[simp] theorem ne_bl {a b : Bool} : dNe (.bl a) (.bl b) = some (.bl (!decide (a = b))) := by
  show some (D.bl (!decide (V.bl a = V.bl b))) = _
  simp
@[simp] theorem eq_str {i j : Str} : dEq (.str i) (.str j) = some (.bl (decide (i = j))) := by
  show some (D.bl (decide (V.str i = V.str j))) = _
  simp
@[simp] theorem sum_ints : dSum [.lst (ns.map .int)] = some (.int ns.sum) := by
  show (intsOf (ns.map .int)).map _ = _
  rw [intsOf_ints]; rfl
end
@[simp] theorem pLt_eq {i j : Int} : pLt i j = decide (i < j) := rfl
@[simp] theorem pLe_eq {i j : Int} : pLe i j = decide (i ≤ j) := rfl
@[simp] theorem pGt_eq {i j : Int} : pGt i j = decide (j < i) := rfl
@[simp] theorem pGe_eq {i j : Int} : pGe i j = decide (j ≤ i) := rfl
/-! ### loops in place -/
/-! ### comprehensions by an invariant -/
theorem ok_lc {α : Type} {vs : List Nat} {fg : FG} {ft : FT} {fe : FE} {emb : α → D} {Q : List D × Fm → Prop} {xs : List α} (I : Nat → List D → Fm → Prop)
    (step : ∀ p x acc ρ, xs[p]? = some x → I p acc ρ → Ok (fg (emb x) ρ) fun ρ1 => Ok (ft ρ1) fun t => if t.1 = true then Ok (fe t.2) fun r => Ok (take1 r.2 r.1) fun z => I (p + 1) (acc ++ [z.1]) (wipeF z.2 vs) else I (p + 1) acc (wipeF t.2 vs))
    (done : ∀ acc ρ, I xs.length acc ρ → Q (acc, ρ)) {ρ : Fm} (h0 : I 0 [] ρ) : Ok (lcD vs fg ft fe (xs.map emb) ρ) Q := by
  have go : ∀ (n p : Nat) (acc : List D) (ρ : Fm), xs.length - p = n → p ≤ xs.length → I p acc ρ → Ok (lcD vs fg ft fe ((xs.drop p).map emb) ρ) fun z => Q (acc ++ z.1, z.2) := by
    intro n
    induction n with
    | zero =>
      intro p acc ρ hn hp hI
      have : p = xs.length := by omega
      subst this
      rw [List.drop_length]
      refine ok_some.mpr ?_
      simpa using done acc ρ hI
    | succ n ih =>
      intro p acc ρ hn hp hI
      have lt : p < xs.length := by omega
      rw [List.drop_eq_getElem_cons lt]
      refine ok_bind.mpr (ok_mono (step p xs[p] acc ρ (List.getElem?_eq_getElem lt) hI) fun ρ1 h1 => ok_bind.mpr (ok_mono h1 fun t h2 => ?_))
      obtain ⟨b, ρ2⟩ := t
      cases b with
      | false =>
        exact ih (p + 1) acc _ (by omega) (by omega) h2
      | true =>
        refine ok_bind.mpr (ok_mono h2 fun r h3 => ok_bind.mpr (ok_mono h3 fun z h4 => ok_map.mpr (ok_mono (ih (p + 1) _ _ (by omega) (by omega) h4) fun y h5 => ?_)))
        simpa using h5
  simpa using go _ 0 [] ρ rfl (Nat.zero_le _) h0
theorem ok_lcFil {α : Type} {vs : List Nat} {fg : FG} {ft : FT} {fe : FE} {ρ0 : Fm} {emb : α → D} {P : List D × Fm → Prop} (z : α → D) (p : α → Bool) {xs : List α}
    (h : ∀ x ∈ xs, ∃ ρ1, fg (emb x) ρ0 = some ρ1 ∧ ∃ ρ2, ft ρ1 = some (p x, ρ2) ∧ (p x = false → wipeF ρ2 vs = ρ0) ∧ (p x = true → ∃ r ρ3 ρ4, fe ρ2 = some (r, ρ3) ∧ take1 ρ3 r = some (z x, ρ4) ∧ wipeF ρ4 vs = ρ0)) (k : P ((xs.filter p).map z, ρ0)) :
    Ok (lcD vs fg ft fe (xs.map emb) ρ0) P := ⟨_, lcD_of h, k⟩
end DL
/-! Rows of darts in plain Lean: a dart put ahead of another one, darts called otherwise, sums over darts. -/
namespace WA
open DL
/-- rows of the darts below m, each once, none void -/
structure Rows (rows : List (List Int)) (m : Nat) : Prop where
  ne : ∀ r ∈ rows, r ≠ []
  perm : rows.flatten.Perm (up m)
section
variable {rows : List (List Int)} {m : Nat} (R : Rows rows m)
include R
theorem Rows.nodup : rows.flatten.Nodup := R.perm.nodup_iff.mpr (up_nodup _)
theorem Rows.mem {d : Int} : d ∈ rows.flatten ↔ 0 ≤ d ∧ d < m := by rw [R.perm.mem_iff, up_mem]
theorem Rows.len : rows.flatten.length = m := by rw [R.perm.length_eq, up_length]
theorem Rows.few : rows.length ≤ m := by
  have := rows_le R.ne
  rwa [R.len] at this
theorem Rows.row {r : List Int} (h : r ∈ rows) : r.length ≤ m := by
  have := row_le h
  rwa [R.len] at this
theorem Rows.row_nodup {r : List Int} (h : r ∈ rows) : r.Nodup := (List.pairwise_flatten.mp R.nodup).1 r h
theorem Rows.row_mem {r : List Int} {d : Int} (h : r ∈ rows) (hd : d ∈ r) : 0 ≤ d ∧ d < m := R.mem.mp (List.mem_flatten.mpr ⟨r, h, hd⟩)
theorem Rows.at {d : Int} (h : 0 ≤ d ∧ d < m) : ∃ r ∈ rows, d ∈ r := List.mem_flatten.mp (R.mem.mpr h)
end
theorem up_succ (m : Nat) : up (m + 1) = up m ++ [(m : Int)] := by simp [up, List.range_succ]
/-! ### a fresh dart just ahead of a dart -/
def putRow (d f : Int) (r : List Int) : List Int := if d ∈ r then r.take (r.idxOf d) ++ f :: r.drop (r.idxOf d) else r
theorem putRow_ne {d f : Int} {r : List Int} (h : r ≠ []) : putRow d f r ≠ [] := by
  unfold putRow
  split
  · simp
  · exact h
theorem putRow_perm {d f : Int} {r : List Int} (h : d ∈ r) : (putRow d f r).Perm (f :: r) := by
  unfold putRow
  rw [if_pos h]
  refine List.perm_middle.trans ?_
  rw [List.take_append_drop]
theorem put_off {d f : Int} : ∀ {rows : List (List Int)}, d ∉ rows.flatten → rows.map (putRow d f) = rows
  | [], _ => rfl
  | r :: rows, h => by
    rw [List.flatten_cons, List.mem_append, not_or] at h
    rw [List.map_cons, put_off h.2]
    unfold putRow
    rw [if_neg h.1]
theorem put_flat {d f : Int} : ∀ {rows : List (List Int)}, rows.flatten.Nodup → d ∈ rows.flatten → (rows.map (putRow d f)).flatten.Perm (f :: rows.flatten)
  | [], _, h => by simp at h
  | r :: rows, nd, h => by
    rw [List.flatten_cons] at nd h ⊢
    rw [List.map_cons, List.flatten_cons]
    obtain ⟨n1, n2, n3⟩ := List.nodup_append.mp nd
    by_cases hr : d ∈ r
    · rw [put_off fun z => n3 d hr d z rfl]
      exact (putRow_perm hr).append_right _
    · have hd : d ∈ rows.flatten := (List.mem_append.mp h).resolve_left hr
      have e : putRow d f r = r := by unfold putRow; rw [if_neg hr]
      rw [e]
      exact ((put_flat n2 hd).append_left r).trans List.perm_middle
theorem Rows.put {rows : List (List Int)} {m : Nat} (R : Rows rows m) {d : Int} (h : 0 ≤ d ∧ d < m) : Rows (rows.map (putRow d m)) (m + 1) where
  ne r hr := by
    obtain ⟨q, hq, rfl⟩ := List.mem_map.mp hr
    exact putRow_ne (R.ne q hq)
  perm := by
    rw [up_succ]
    exact (put_flat R.nodup (R.mem.mpr h)).trans ((R.perm.cons _).trans (List.perm_append_singleton _ _).symm)
theorem Rows.grow {rows : List (List Int)} {m : Nat} (R : Rows rows m) : Rows (rows ++ [[(m : Int)]]) (m + 1) where
  ne r hr := by
    rcases List.mem_append.mp hr with z | z
    · exact R.ne r z
    · rw [List.mem_singleton.mp z]; simp
  perm := by
    rw [up_succ, List.flatten_append]
    exact R.perm.append_right _
/-! ### darts called otherwise -/
def callBy (C : List Int) (d : Int) : Int := C.getD d.toNat 0
theorem callBy_at {C : List Int} {d c : Int} (h0 : 0 ≤ d) (h : C[d.toNat]? = some c) : callBy C d = c := by
  unfold callBy
  rw [List.getD_eq_getElem?_getD, h]; rfl
theorem map_callBy (C : List Int) : (up C.length).map (callBy C) = C := by
  apply List.ext_getElem?
  intro i
  rw [List.getElem?_map]
  unfold up
  rw [List.getElem?_map]
  by_cases h : i < C.length
  · rw [List.getElem?_range h]
    simp [callBy, h]
  · rw [List.getElem?_eq_none (by simpa using h), List.getElem?_eq_none (by simpa using h)]
    rfl
theorem Rows.called {rows : List (List Int)} {m : Nat} (R : Rows rows m) {C : List Int} (h : C.Perm (up m)) : Rows (rows.map fun r => r.map (callBy C)) m where
  ne r hr := by
    obtain ⟨q, hq, rfl⟩ := List.mem_map.mp hr
    intro z
    exact R.ne q hq (List.map_eq_nil_iff.mp z)
  perm := by
    have e : (rows.map fun r => r.map (callBy C)).flatten = rows.flatten.map (callBy C) := by rw [List.map_flatten]
    rw [e]
    refine (R.perm.map _).trans ?_
    have hl : C.length = m := by rw [h.length_eq, up_length]
    have := map_callBy C
    rw [hl] at this
    rw [this]
    exact h
/-- begun with their least, sorted -/
theorem Rows.begun {rows : List (List Int)} {m : Nat} (R : Rows rows m) : Rows (sortRows (rows.map turnRow)) m where
  ne r hr := by
    obtain ⟨q, hq, rfl⟩ := List.mem_map.mp ((sortRows_perm _).mem_iff.mp hr)
    exact turn_ne (R.ne q hq)
  perm := ((sortRows_perm _).flatten.trans (turn_flat rows)).trans R.perm
theorem Rows.web {rows : List (List Int)} {n : Nat} (R : Rows rows (2 * n)) (h1 : 1 ≤ n) (h2 : n ≤ 12) : IsWeb rows n := ⟨R.ne, R.perm, h1, h2⟩
theorem rows_of {w : List (List Int)} {n : Nat} (W : IsWeb w n) : Rows w (2 * n) := ⟨W.ne, W.perm⟩
/-- the next dart around is of the rows -/
theorem next_mem {r : List Int} {d : Int} (h : d ∈ r) : ∃ x, r[(r.idxOf d + 1) % r.length]? = some x ∧ x ∈ r := by
  have h0 : 0 < r.length := List.length_pos_iff.mpr (List.ne_nil_of_mem h)
  have lt := Nat.mod_lt (r.idxOf d + 1) h0
  exact ⟨_, List.getElem?_eq_getElem lt, List.getElem_mem lt⟩
/-! ### ties' darts by pairs -/
def pairs (ts : List Int) : List Int := ts.flatMap fun t => [2 * t, 2 * t + 1]
theorem pairs_up (n : Nat) : pairs (up n) = up (2 * n) := by
  induction n with
  | zero => rfl
  | succ n ih =>
    rw [up_succ, show 2 * (n + 1) = 2 * n + 1 + 1 by omega, up_succ, up_succ]
    unfold pairs at ih ⊢
    rw [List.flatMap_append, ih]
    simp
theorem pairs_perm {a b : List Int} (h : a.Perm b) : (pairs a).Perm (pairs b) := h.flatMap_right _
theorem otherOf_even (t : Int) : otherOf (2 * t) = 2 * t + 1 := by
  have : (2 * t).fmod 2 = 0 := by rw [Int.fmod_eq_emod_of_nonneg _ (by decide)]; omega
  unfold otherOf
  rw [if_pos this]
theorem otherOf_odd (t : Int) : otherOf (2 * t + 1) = 2 * t := by
  have : ¬ (2 * t + 1).fmod 2 = 0 := by rw [Int.fmod_eq_emod_of_nonneg _ (by decide)]; omega
  unfold otherOf
  rw [if_neg this]
  omega
theorem other_in {m : Nat} {d : Int} (h : 0 ≤ d ∧ d < 2 * (m : Int)) : 0 ≤ otherOf d ∧ otherOf d < 2 * (m : Int) := by
  unfold otherOf
  have := Int.fmod_eq_emod_of_nonneg d (b := 2) (by decide)
  split <;> omega
/-! ### sums -/
def tot {α : Type} (g : α → Int) : List α → Int
  | [] => 0
  | a :: l => g a + tot g l
section
variable {α : Type} {g k : α → Int}
theorem tot_append (a b : List α) : tot g (a ++ b) = tot g a + tot g b := by
  induction a with
  | nil => simp [tot]
  | cons x a ih => simp only [List.cons_append, tot, ih]; omega
theorem tot_congr {a : List α} (h : ∀ x ∈ a, g x = k x) : tot g a = tot k a := by
  induction a with
  | nil => rfl
  | cons x a ih => simp only [tot, h x List.mem_cons_self, ih fun y hy => h y (List.mem_cons_of_mem _ hy)]
theorem tot_add (a : List α) : tot (fun x => g x + k x) a = tot g a + tot k a := by
  induction a with
  | nil => rfl
  | cons x a ih => simp only [tot, ih]; omega
theorem tot_zero (a : List α) : tot (fun _ => 0) a = 0 := by
  induction a with
  | nil => rfl
  | cons x a ih => simp only [tot, ih]; omega
theorem tot_one (a : List α) : tot (fun _ => 1) a = a.length := by
  induction a with
  | nil => rfl
  | cons x a ih => simp only [tot, ih, List.length_cons]; omega
end
end WA
/-! meanings that many laws share; printed by gen.py, then kept -/
namespace RP
open PySem L2 DL
end RP
/-! meanings that many laws share; printed by gen.py, then kept -/
namespace RD
open PySem L2 DL
def b__law_draw : FS := fSeq (fStore (fOp dAdd (fOp dSubs (fVar 0) (fC (.int 3))) (fC (.int 1))) (fpVar 0) (fC (.int 3))) (fSeq (fIfS (fTest (fOp (dCmp pGt) (fOp dSubs (fVar 0) (fC (.int 2))) (fC (.int 0)))) (fSeq (fAsg (fOp dMod (fOp dSubs (fVar 0) (fC (.int 2))) (fVar 1)) (fgName 2)) (fSeq (fStore (fOp dDiv (fOp dSubs (fVar 0) (fC (.int 2))) (fVar 1)) (fpVar 0) (fC (.int 2))) (fRet (fVar 2)))) (fSkip)) (fSeq (fAsg (fC (.int 5)) (fgName 3)) (fSeq (fIfS (fTest (fOp dNe (fOp dSubs (fVar 0) (fC (.int 0))) (fLst (fNil)))) (fAsg (fOp dSubs (fOp dSubs (fVar 0) (fC (.int 0))) (fOp dMod (fOp dSubs (fVar 0) (fC (.int 1))) (fCall dLen (fCons (fOp dSubs (fVar 0) (fC (.int 0))) (fNil))))) (fgName 3)) (fSkip)) (fSeq (fStore (fOp dAdd (fOp dSubs (fVar 0) (fC (.int 1))) (fC (.int 1))) (fpVar 0) (fC (.int 1))) (fSeq (fIfS (fAnd (fTest (fOp (dCmp pGe) (fVar 3) (fOp dPow (fC (.int 10)) (fC (.int 18))))) (fTest (fOp (dCmp pLe) (fOp dSubs (fVar 0) (fC (.int 1))) (fCall dLen (fCons (fOp dSubs (fVar 0) (fC (.int 0))) (fNil)))))) (fSeq (fStore (fOp dDiv (fVar 3) (fVar 1)) (fpVar 0) (fC (.int 2))) (fRet (fOp dMod (fVar 3) (fVar 1)))) (fSkip)) (fSeq (fAsg (fOp dMod (fOp dAdd (fOp dAdd (fOp dMul (fOp dMod (fVar 3) (fC (.int 2147483629))) (fOp dAdd (fOp dMul (fC (.int 2)) (fOp dSubs (fVar 0) (fC (.int 3)))) (fC (.int 1)))) (fOp dMul (fC (.int 7919)) (fOp dSubs (fVar 0) (fC (.int 3))))) (fC (.int 1))) (fC (.int 2147483647))) (fgName 4)) (fSeq (fAsg (fOp dMod (fOp dPow (fVar 4) (fC (.int 5))) (fC (.int 2147483647))) (fgName 4)) (fRet (fOp dMod (fOp dDiv (fVar 4) (fC (.int 64))) (fVar 1))))))))))
def d__law_draw : Den := denOf 5 2 [2, 3, 3, 4, 4] b__law_draw
def b__law_along : FS := fSeq (fForN 0 2 (fIfS (fTest (fOp dIn (fCallD RM.d_other_of (fCons (fVar 1) (fNil))) (fVar 2))) (fSeq (fAsg (fIndex (fCall dList (fCons (fVar 2) (fNil))) (fCons (fCallD RM.d_other_of (fCons (fVar 1) (fNil))) (fNil))) (fgName 3)) (fRet (fOp dSubs (fVar 2) (fOp dMod (fOp dAdd (fVar 3) (fC (.int 1))) (fCall dLen (fCons (fVar 2) (fNil))))))) (fSkip))) (fRet (fVar 1))
def d__law_along : Den := denOf 4 2 [2, 3] b__law_along
def b__law_ties : FS := fRet (fOp dDiv (fCall dSum (fCons (fLc [1] (fSeqI (fFrz (fVar 0))) (fgName 1) (fYes) (fCall dLen (fCons (fVar 1) (fNil)))) (fNil))) (fC (.int 2)))
def d__law_ties : Den := denOf 2 1 [] b__law_ties
end RD
namespace RM
open PySem PySem.Spec L2 DL
theorem draw_ok {d : D} {m : Int} (h : IsFeed d) (h1 : 1 ≤ m) (h2 : m < 1073741824) :
    Ok (d__law_draw [d, .int m]) fun ro => ∃ i d', ro.1 = .int i ∧ 0 ≤ i ∧ i < m ∧ IsFeed d' ∧ ro.2 = [some d', some (.int m)] := by
  obtain ⟨cs, a, l, t, rfl⟩ := h
  have hm : m ≠ 0 := by omega
  have hm' : m.natAbs < 1073741824 := by omega
  have fin : ∀ (x : Int) (a' l' t' : Int), ∃ i d', D.int (x.fmod m) = .int i ∧ 0 ≤ i ∧ i < m ∧ IsFeed d' ∧ [some (feedD cs a' l' t'), some (D.int m)] = [some d', some (.int m)] := fun x a' l' t' => ⟨_, _, rfl, Int.fmod_nonneg_of_pos x (by omega), Int.fmod_lt_of_pos x (by omega), ⟨cs, a', l', t', rfl⟩, rfl⟩
  by_cases hl : 0 < l
  · exact ok_mono (P := fun x => x = (D.int (l.fmod m), [some (feedD cs a (l.fdiv m) (t + 1)), some (D.int m)])) (by simp [d__law_draw, b__law_draw, denOf, hm, hm', hl]) fun x e => by rw [e]; exact fin _ _ _ _
  · have gen : ∃ x l', Ok (d__law_draw [feedD cs a l t, .int m]) fun y => y = (D.int (Int.fmod x m), [some (feedD cs (a + 1) l' (t + 1)), some (D.int m)]) := by
      by_cases hc : cs = []
      · subst hc
        exact ⟨_, l, by simp [d__law_draw, b__law_draw, denOf, hm, hm', hl]; rfl⟩
      · obtain ⟨c, ec⟩ := cell_at a hc
        have hlen : (cs.length : Int) ≠ 0 := by have := List.length_pos_iff.mpr hc; omega
        by_cases h3 : 1000000000000000000 ≤ c ∧ a < cs.length
        · exact ⟨c, c.fdiv m, by simp [d__law_draw, b__law_draw, denOf, hm, hm', hl, hc, ec, h3.1, h3.2, hlen]⟩
        · by_cases h4 : 1000000000000000000 ≤ c
          · have h5 : ¬ a < cs.length := fun z => h3 ⟨h4, z⟩
            exact ⟨_, l, by simp [d__law_draw, b__law_draw, denOf, hm, hm', hl, hc, ec, h4, h5, hlen]; rfl⟩
          · exact ⟨_, l, by simp [d__law_draw, b__law_draw, denOf, hm, hm', hl, hc, ec, h4, hlen]; rfl⟩
    obtain ⟨x, l', g⟩ := gen
    exact ok_mono g fun y e => by rw [e]; exact fin _ _ _ _
abbrev lstR (r : List Int) : D := .lst (intsD r)
abbrev flR (r : List Int) : D := .flst (intsD r)
theorem frzL_rows (rows : List (List Int)) : frzL (rows.map lstR) = some (rows.map flR) := by
  induction rows with
  | nil => rfl
  | cons r rows ih => simp [ih]
theorem immL_flR (rows : List (List Int)) : immL (rows.map flR) = true := by
  induction rows with
  | nil => rfl
  | cons r rows ih => simp [ih]
theorem begun_ok {rows : List (List Int)} (h : ∀ r ∈ rows, r ≠ [] ∧ r.length ≤ 1000) (hl : rows.length ≤ 1000) :
    Ok (d__law_begun [.lst (rows.map lstR)]) fun ro => ro.1 = webD (sortRows (rows.map turnRow)) := by
  simp [d__law_begun, b__law_begun, denOf, frzL_rows, immL_flR, big_ok, ok_bind]
  refine ok_mono (ok_for (P := fun x => ∃ o0 o2 o3, x = (.nx, [o0, some (.lst ((rows.map turnRow).map rowD)), o2, o3])) (fun rest ρ => ∃ done todo o0 o2 o3, rest = todo.map flR ∧ done ++ todo = rows ∧ ρ = [o0, some (.lst ((done.map turnRow).map rowD)), o2, o3]) ?_ ?_ ?_) ?_
  · rintro d r ρ ⟨done, todo, o0, o2, o3, e1, e2, rfl⟩
    cases todo with
    | nil => cases e1
    | cons q todo =>
      injection e1 with e1 e3
      subst e1 e3
      obtain ⟨hq, hq2⟩ := h q (by rw [← e2]; simp)
      have hlen : done.length ≤ 1000 := by rw [← e2] at hl; simp at hl; omega
      have c1 : cut (intsD q) (some ((q.idxOf (least q) : Nat) : Int)) none = intsD (q.drop (q.idxOf (least q))) := by rw [cut_from _ _ (by simp; exact List.idxOf_le_length), ← List.map_drop]
      have c2 : cut (intsD q) none (some ((q.idxOf (least q) : Nat) : Int)) = intsD (q.take (q.idxOf (least q))) := by rw [cut_to _ _ (by simp; exact List.idxOf_le_length), ← List.map_take]
      have m1 : dMm min [flR q] = some (.int (least q)) := min_of rfl hq
      have i1 := index_l (x := flR q) (.inr rfl) (least_mem hq)
      have ct : dAdd (.lst (intsD (q.drop (q.idxOf (least q))))) (.lst (intsD (q.take (q.idxOf (least q))))) = some (.lst (intsD (turnRow q))) := by
        rw [cat_l (immL_ints _) (immL_ints _) (big_ok (by simp; omega)), ← List.map_append]
        rfl
      have tp := tuple_l (immL_ints (turnRow q))
      have ap := append_l (ds := (done.map turnRow).map rowD) (y := .tup (intsD (turnRow q))) (big_lt (by simp; omega))
      simp [ap_index, ap_methR, m1, i1, c1, c2, ct, tp, ap, -List.map_map, -List.map_drop, -List.map_take]
      refine ⟨done ++ [q], todo, rfl, by simp [← e2], ?_⟩
      simp [rowD]
  · rintro ρ ⟨done, todo, o0, o2, o3, e1, e2, rfl⟩
    have : todo = [] := by cases todo with | nil => rfl | cons _ _ => cases e1
    subst this
    rw [List.append_nil] at e2
    subst e2
    exact ⟨_, _, _, rfl⟩
  · exact ⟨[], rows, _, _, _, rfl, rfl, rfl⟩
  · rintro x ⟨o0, o2, o3, rfl⟩
    have sr := sorted_rows (w := rows.map turnRow) fun r hr => by
      obtain ⟨q, hq, rfl⟩ := List.mem_map.mp hr
      intro z
      have := (turnRow_perm q).length_eq
      rw [z] at this
      exact (h q hq).1 (List.eq_nil_of_length_eq_zero this.symm)
    have tp := tuple_l (imm_rows (sortRows (rows.map turnRow)))
    simp [sr, tp, webD, -List.map_map]
end RM
namespace RM
open PySem PySem.Spec L2 DL
theorem draw_eq {d : D} {m : Int} (h : IsFeed d) (h1 : 1 ≤ m) (h2 : m < 1073741824) :
    ∃ i d', d__law_draw [d, .int m] = some (.int i, [some d', some (.int m)]) ∧ 0 ≤ i ∧ i < m ∧ IsFeed d' ∧ imm d' = false := by
  obtain ⟨⟨r, o⟩, e, i, d', e1, h0, h3, hf, e2⟩ := draw_ok h h1 h2
  cases e1
  cases e2
  exact ⟨i, d', e, h0, h3, hf, hf.imm⟩
end RM
/-! What the program's small functions tell of a web. -/
namespace RM
open PySem PySem.Spec L2 DL
theorem other_ok (d : Int) : d_other_of [.int d] = some (.int (otherOf d), [some (.int d)]) := by
  have h := fmod_in d (m := 2) (by decide)
  have e : d + 1 - 2 * d.fmod 2 = otherOf d := by
    unfold otherOf
    split <;> omega
  simp [d_other_of, b_other_of, denOf, e]
section
variable {w : List (List Int)} {n : Nat} (W : IsWeb w n)
include W
theorem darts_ok : d_darts_in_rows [webD w] = some (.lst (intsD w.flatten), [some (webD w)]) := by
  have key : ∀ (todo : List (List Int)) (done : List Int) (o2 : Option D), done.length + todo.flatten.length ≤ 1000 →
      ∃ o2', forD (fgName 2) (fDrop (fMut isLst mExtend (fpVar 1) (fCons (fCall dList (fCons (fVar 2) (fNil))) (fNil)))) (todo.map rowD) [some (webD w), some (.lst (intsD done)), o2] = some (.nx, [some (webD w), some (.lst (intsD (done ++ todo.flatten))), o2']) := by
    intro todo
    induction todo with
    | nil => intro done o2 h; exact ⟨o2, by simp [forD]⟩
    | cons r todo ih =>
      intro done o2 h
      simp only [List.flatten_cons, List.length_append] at h
      obtain ⟨o2', e⟩ := ih (done ++ r) (some (rowD r)) (by simp only [List.length_append]; omega)
      have l1 : dList [rowD r] = some (.lst (intsD r)) := if_pos (immL_ints r)
      have x1 : mExtend (.lst (intsD done)) [.lst (intsD r)] = some (.lst (intsD (done ++ r)), .non) := by
        show (if _ then some (D.lst (intsD done ++ intsD r), D.non) else none) = _
        rw [if_pos (big_ok (by simp; omega)), ← List.map_append]
      refine ⟨o2', ?_⟩
      simp [forD, l1, x1, -List.map_append]
      rw [e]
      simp
  have hl := W.len
  have hn := W.le
  obtain ⟨o2, e⟩ := key w [] none (by rw [hl]; show 0 + 2 * n ≤ 1000; omega)
  have f1 : frzD (webD w) = some (webD w) := frz_id _ (imm_rows w)
  have f2 : immL (w.map rowD) = true := imm_rows w
  unfold webD at f1 e
  simp [d_darts_in_rows, b_darts_in_rows, denOf, webD, f1, f2, frzL_id, big_ok, -List.map_flatten]
  have e' : forD (fgName 2) (fDrop (fMut isLst mExtend (fpVar 1) (fCons (fCall dList (fCons (fVar 2) fNil)) fNil))) (w.map rowD) [some (D.tup (w.map rowD)), some (D.lst []), none] = some (Fl.nx, [some (D.tup (w.map rowD)), some (D.lst (intsD w.flatten)), o2]) := e
  rw [e']
  simp [-List.map_flatten]
theorem ties_ok : d_ties_in [webD w] = some (.int n, [some (webD w)]) := by
  have h3 : (2 * (n : Int)).fdiv 2 = n := by rw [Int.fdiv_eq_ediv_of_nonneg _ (by decide)]; omega
  have hl := W.len
  have hd := darts_ok W
  simp [d_ties_in, b_ties_in, denOf, hd, imm_rows, hl, h3, -List.map_flatten, -List.length_flatten]
theorem place_ok {d : Int} (h : d ∈ w.flatten) : d_place_of [webD w, .int d] = some (.int (spotOf w d : Nat), [some (webD w), some (.int d)]) := by
  obtain ⟨p, r, hp, hd, e1, e2⟩ := W.at h
  have ht : true ∈ w.map fun r => decide (d ∈ r) := by
    obtain ⟨q, hq, hd⟩ := List.mem_flatten.mp h
    exact List.mem_map.mpr ⟨q, hq, decide_eq_true hd⟩
  have ix := index_true ht
  have ei : (w.map fun r => decide (d ∈ r)).idxOf true = spotOf w d := by
    unfold spotOf List.idxOf
    rw [List.findIdx_map]
    congr 1
    funext r
    simp
  have f2 : frzL (w.map rowD) = some (w.map rowD) := frzL_id _ (imm_rows w)
  have lc := lcD_all (vs := [2]) (fg := fgName 2) (fe := fOp dIn (fVar 1) (fVar 2)) (ρ0 := [some (webD w), some (.int d), none]) (emb := rowD) (z := fun r => D.bl (decide (d ∈ r))) (xs := w) fun r _ => ⟨_, by simp; rfl, _, _, _, by simp [in_row]; exact ⟨rfl, rfl⟩, rfl, by simp [wipeF]⟩
  rw [ei, List.map_map] at ix
  have rl := W.rows
  have hs : w.length ≤ sizeLine := big_ok (by omega)
  have ix' : dIndexL (D.lst (w.map fun r => D.bl (decide (d ∈ r)))) [D.bl true] = some (D.int (spotOf w d : Nat)) := ix
  simp [d_place_of, b_place_of, denOf, f2, imm_rows, wipeF, ap_index, ap_methR, lc, hs, ix']
theorem next_ok {d : Int} (h : d ∈ w.flatten) : d_next_around [webD w, .int d] = some (.int (nextOf w d), [some (webD w), some (.int d)]) := by
  obtain ⟨p, r, hp, hd, e1, e2⟩ := W.at h
  have pl := place_ok W h
  have s1 : dSubs (webD w) (.int (spotOf w d : Nat)) = some (rowD r) := dSubs_seq rfl (by omega) (by rw [Int.toNat_natCast, e1, List.getElem?_map, hp]; rfl) (immL_ints r)
  have hr : r.length ≠ 0 := by
    have := List.length_pos_iff.mpr (W.ne r (List.mem_of_getElem? hp))
    omega
  have ix := index_t hd
  have hm : (r.idxOf d + 1) % r.length < r.length := Nat.mod_lt _ (by omega)
  have fm : ((r.idxOf d : Int) + 1).fmod r.length = ((r.idxOf d + 1) % r.length : Nat) := by
    rw [Int.fmod_eq_emod_of_nonneg _ (by omega)]
    norm_cast
  have s2 : dSubs (rowD r) (.int ((r.idxOf d + 1) % r.length : Nat)) = some (.int (nextOf w d)) := dSubs_seq rfl (by omega) (by
    rw [Int.toNat_natCast, List.getElem?_map, List.getElem?_eq_getElem hm]
    unfold nextOf
    rw [e2, List.getElem?_eq_getElem hm]
    rfl) rfl
  have hr' : (r.length : Int) ≠ 0 := by omega
  have ir : immL (intsD r) = true := immL_ints r
  unfold rowD at s1 s2
  generalize (r.idxOf d + 1) % r.length = k at fm s2
  simp [d_next_around, b_next_around, denOf, pl, imm_rows, s1, ap_index, ap_methR, ix, hr, hr', fm, s2]
end
end RM
namespace RM
open PySem PySem.Spec L2 DL
theorem feed_ok (ns : List Int) : d__law_feed [.flst (ns.map .int)] = some (feedD (cut ns none (some 63)) 0 0 0, [some (.flst (ns.map .int))]) := by
  have e : cut (ns.map D.int) none (some 63) = (cut ns none (some 63)).map D.int := by simp [cut, List.map_take, List.map_drop]
  have n1 : ¬ Str.ofString "cells" = Str.ofString "at" := by decide
  have n2 : ¬ Str.ofString "cells" = Str.ofString "left" := by decide
  have n3 : ¬ Str.ofString "cells" = Str.ofString "turn" := by decide
  have n4 : ¬ Str.ofString "at" = Str.ofString "left" := by decide
  have n5 : ¬ Str.ofString "at" = Str.ofString "turn" := by decide
  have n6 : ¬ Str.ofString "left" = Str.ofString "turn" := by decide
  simp [d__law_feed, b__law_feed, denOf, e, feedD, pairUp, DL.keyOf, n1, n2, n3, n4, n5, n6]
end RM
/-! The fourth family's tape, draws. -/
namespace RD
open PySem PySem.Spec L2 DL WA
def tapeD (cs : List Int) (a l t : Int) : D := .lst [.flst (cs.map .int), .int a, .int l, .int t]
def IsTape (d : D) : Prop := ∃ cs a l t, d = tapeD cs a l t
@[simp] theorem tape_imm (cs : List Int) (a l t : Int) : imm (tapeD cs a l t) = false := rfl
@[simp] theorem tape_0 (cs : List Int) (a l t : Int) : dSubs (tapeD cs a l t) (.int 0) = some (.flst (cs.map .int)) := dSubs_seq (ds := [.flst (cs.map .int), .int a, .int l, .int t]) rfl (by decide) rfl (immL_ints _)
@[simp] theorem tape_1 (cs : List Int) (a l t : Int) : dSubs (tapeD cs a l t) (.int 1) = some (.int a) := rfl
@[simp] theorem tape_2 (cs : List Int) (a l t : Int) : dSubs (tapeD cs a l t) (.int 2) = some (.int l) := rfl
@[simp] theorem tape_3 (cs : List Int) (a l t : Int) : dSubs (tapeD cs a l t) (.int 3) = some (.int t) := rfl
@[simp] theorem tput_1 (cs : List Int) (a l t u : Int) : dStore (tapeD cs a l t) (.int 1) (.int u) = some (tapeD cs u l t) := rfl
@[simp] theorem tput_2 (cs : List Int) (a l t u : Int) : dStore (tapeD cs a l t) (.int 2) (.int u) = some (tapeD cs a u t) := rfl
@[simp] theorem tput_3 (cs : List Int) (a l t u : Int) : dStore (tapeD cs a l t) (.int 3) (.int u) = some (tapeD cs a l u) := rfl
theorem IsTape.imm {d : D} (h : IsTape d) : imm d = false := by obtain ⟨_, _, _, _, rfl⟩ := h; rfl
theorem mul_fm9 {x y : Int} : dMul (.int (x.fmod 2147483629)) (.int y) = some (.int (x.fmod 2147483629 * y)) := by
  have := fmod_in x (m := 2147483629) (by decide)
  exact mul_l (by omega) (by omega)
theorem draw_eq {d : D} {m : Int} (h : IsTape d) (h1 : 1 ≤ m) (h2 : m < 1073741824) :
    ∃ i d', d__law_draw [d, .int m] = some (.int i, [some d', some (.int m)]) ∧ 0 ≤ i ∧ i < m ∧ IsTape d' ∧ imm d' = false := by
  obtain ⟨cs, a, l, t, rfl⟩ := h
  have hm : m ≠ 0 := by omega
  have hm' : m.natAbs < 1073741824 := by omega
  suffices ∃ (x a' l' t' : Int), d__law_draw [tapeD cs a l t, .int m] = some (.int (x.fmod m), [some (tapeD cs a' l' t'), some (.int m)]) by
    obtain ⟨x, a', l', t', e⟩ := this
    exact ⟨_, _, e, Int.fmod_nonneg_of_pos x (by omega), Int.fmod_lt_of_pos x (by omega), ⟨_, _, _, _, rfl⟩, rfl⟩
  by_cases hl : 0 < l
  · exact ⟨l, a, l.fdiv m, t + 1, by simp [d__law_draw, b__law_draw, denOf, hm, hm', hl]⟩
  · by_cases hc : cs = []
    · subst hc
      exact ⟨_, a + 1, l, t + 1, by simp [d__law_draw, b__law_draw, denOf, hm, hm', hl, mul_fm9]; rfl⟩
    · obtain ⟨c, ec⟩ := cell_at a hc
      have hlen : (cs.length : Int) ≠ 0 := by have := List.length_pos_iff.mpr hc; omega
      by_cases h4 : 1000000000000000000 ≤ c
      · by_cases h3 : a + 1 ≤ cs.length
        · exact ⟨c, a + 1, c.fdiv m, t + 1, by simp [d__law_draw, b__law_draw, denOf, hm, hm', hl, hc, ec, h3, h4, hlen]⟩
        · exact ⟨_, a + 1, l, t + 1, by simp [d__law_draw, b__law_draw, denOf, hm, hm', hl, hc, ec, h3, h4, hlen, mul_fm9]; rfl⟩
      · exact ⟨_, a + 1, l, t + 1, by simp [d__law_draw, b__law_draw, denOf, hm, hm', hl, hc, ec, h4, hlen, mul_fm9]; rfl⟩
end RD
/-! Pieces of meanings that many laws share: a row begun with its least, names of darts in a dict, ties popped by draws. -/
namespace WB
open PySem PySem.Spec L2 DL WA RM
/-! ### names in a dict -/
theorem callBy_more {C E : List Int} {d : Int} (h0 : 0 ≤ d) (h : d < C.length) : callBy (C ++ E) d = callBy C d := by
  unfold callBy
  rw [List.getD_eq_getElem?_getD, List.getD_eq_getElem?_getD, List.getElem?_append_left (by omega)]
theorem callBy_new {C E : List Int} {x : Int} : callBy (C ++ x :: E) C.length = x := by
  unfold callBy
  simp
/-! ### ties called by draws -/
/-- names of the darts of the ties so far, of n in all; what is left of the ties -/
structure Named (n : Nat) (C left : List Int) : Prop where
  perm : (C ++ pairs left).Perm (up (2 * n))
  even : C.length = 2 * (n - left.length)
  less : left.length ≤ n
  tied : ∀ (t : Nat), 2 * t < C.length → callBy C (2 * t + 1 : Nat) = otherOf (callBy C (2 * t : Nat))
theorem named_begin (n : Nat) : Named n [] (up n) := ⟨by rw [List.nil_append, pairs_up], by rw [up_length]; simp, by rw [up_length]; exact Nat.le_refl _, fun t h => by simp at h⟩
theorem named_step {n : Nat} {C left : List Int} (N : Named n C left) {i : Nat} {c u : Int} (hc : left[i]? = some c) (hu : u = 0 ∨ u = 1) : Named n (C ++ [2 * c + u, 2 * c + 1 - u]) (left.eraseIdx i) := by
  have lt := (List.getElem?_eq_some_iff.mp hc).1
  have ln := List.length_eraseIdx_of_lt lt
  have hl := N.less
  have he := N.even
  have two : [2 * c + u, 2 * c + 1 - u].Perm [2 * c, 2 * c + 1] := by
    rcases hu with rfl | rfl
    · simp
    · have e1 : 2 * c + 1 - 1 = 2 * c := by omega
      rw [e1]
      exact List.Perm.swap _ _ _
  refine ⟨?_, by rw [List.length_append, ln, he]; simp; omega, by omega, fun t ht => ?_⟩
  · refine List.Perm.trans ?_ N.perm
    rw [List.append_assoc]
    refine List.Perm.append_left _ ((two.append_right _).trans ?_)
    exact (pairs_perm (erase_perm hc)).symm.symm
  · rw [List.length_append] at ht
    by_cases h : 2 * t < C.length
    · have h2 : 2 * t + 1 < C.length := by omega
      rw [callBy_more (by omega) (by omega), callBy_more (by omega) (by omega)]
      exact N.tied t h
    · have e : 2 * t = C.length := by simp at ht; omega
      have a1 : callBy (C ++ [2 * c + u, 2 * c + 1 - u]) (2 * t : Nat) = 2 * c + u := by rw [e]; exact callBy_new
      have a2 : callBy (C ++ [2 * c + u, 2 * c + 1 - u]) (2 * t + 1 : Nat) = 2 * c + 1 - u := by
        rw [e, show C ++ [2 * c + u, 2 * c + 1 - u] = (C ++ [2 * c + u]) ++ [2 * c + 1 - u] by simp, show C.length + 1 = (C ++ [2 * c + u]).length by simp]
        exact callBy_new
      rw [a1, a2]
      rcases hu with rfl | rfl
      · rw [show 2 * c + 0 = 2 * c by omega, otherOf_even]; omega
      · rw [otherOf_odd]; omega
theorem Named.whole {n : Nat} {C : List Int} (N : Named n C []) : C.Perm (up (2 * n)) ∧ C.length = 2 * n := by
  have := N.perm
  simp only [pairs, List.flatMap_nil, List.append_nil] at this
  exact ⟨this, by rw [this.length_eq, up_length]⟩
end WB
/-! The faces of a web, as the program walks them. -/
namespace RM
open PySem PySem.Spec L2 DL
/-- the next dart along the face -/
def along (w : List (List Int)) (d : Int) : Int := nextOf w (otherOf d)
/-- on from a, till one that was seen: what is seen then, the ring -/
def ringOn (w : List (List Int)) : Nat → List Int → List Int → Int → List Int × List Int
  | 0, seen, ring, _ => (seen, ring)
  | k + 1, seen, ring, a => if a ∈ seen then (seen, ring) else ringOn w k (seen ++ [a]) (ring ++ [a]) (along w a)
/-- the walk's step at a dart: what is seen, the rings so far -/
def faceStep (w : List (List Int)) (m : Nat) (st : List Int × List (List Int)) (d : Int) : List Int × List (List Int) :=
  if d ∈ st.1 then st else ((ringOn w (m - st.1.length + 1) st.1 [] d).1, st.2 ++ [(ringOn w (m - st.1.length + 1) st.1 [] d).2])
def facesTo (w : List (List Int)) (m p : Nat) : List Int × List (List Int) := (up p).foldl (faceStep w m) ([], [])
def facesOf (w : List (List Int)) (m : Nat) : List (List Int) := (facesTo w m m).2
theorem facesTo_succ (w : List (List Int)) (m p : Nat) : facesTo w m (p + 1) = faceStep w m (facesTo w m p) p := by
  simp [facesTo, up, List.range_succ]
/-- seen ones: unlike darts of so many -/
def Seen (m : Nat) (l : List Int) : Prop := l.Nodup ∧ ∀ d ∈ l, 0 ≤ d ∧ d < m
theorem Seen.len {m : Nat} {l : List Int} (h : Seen m l) : l.length ≤ m := by
  have sub : l ⊆ up m := fun d hd => up_mem.mpr (h.2 d hd)
  have := h.1.length_le_of_subset sub
  rwa [up_length] at this
theorem Seen.add {m : Nat} {l : List Int} {d : Int} (h : Seen m l) (hd : 0 ≤ d ∧ d < m) (n : d ∉ l) : Seen m (l ++ [d]) := by
  refine ⟨List.nodup_append.mpr ⟨h.1, by simp, fun a ha b hb => ?_⟩, fun a ha => ?_⟩
  · rw [List.mem_singleton.mp hb]
    exact fun z => n (z ▸ ha)
  · rcases List.mem_append.mp ha with q | q
    · exact h.2 a q
    · rw [List.mem_singleton.mp q]; exact hd
section
variable {w : List (List Int)} {n : Nat} (W : IsWeb w n)
include W
theorem other_in {d : Int} (h : 0 ≤ d ∧ d < 2 * n) : 0 ≤ otherOf d ∧ otherOf d < 2 * n := by
  have m2 := fmod_in d (m := 2) (by decide)
  have e := Int.fmod_add_mul_fdiv d 2
  unfold otherOf
  split <;> omega
theorem next_in {d : Int} (h : 0 ≤ d ∧ d < 2 * n) : 0 ≤ nextOf w d ∧ nextOf w d < 2 * n := by
  obtain ⟨p, r, hp, hd, _, _⟩ := W.at (W.mem.mpr h)
  obtain ⟨a, hlt, ha⟩ := List.mem_iff_getElem.mp hd
  obtain ⟨n1, n2⟩ := W.next hp (show r[a]? = some d by rw [List.getElem?_eq_getElem hlt, ha])
  have inr : nextOf w d ∈ r := (Decidable.em (a + 1 < r.length)).elim (fun c => List.mem_of_getElem? (n1 c)) fun c => List.mem_of_getElem? (n2 c)
  exact W.mem.mp (List.mem_flatten.mpr ⟨r, List.mem_of_getElem? hp, inr⟩)
theorem along_in {d : Int} (h : 0 ≤ d ∧ d < 2 * n) : 0 ≤ along w d ∧ along w d < 2 * n := next_in W (other_in W h)
theorem along_ok {d : Int} (h : 0 ≤ d ∧ d < 2 * n) : d_next_along [webD w, .int d] = some (.int (along w d), [some (webD w), some (.int d)]) := by
  have o := other_ok d
  have nx := next_ok W (W.mem.mpr (other_in W h))
  simp [d_next_along, b_next_along, denOf, o, nx, imm_rows, along]
end
end RM
namespace RM
open PySem PySem.Spec L2 DL
/-- a dict that marks what was seen -/
abbrev marks (l : List Int) : D := .dic (kvsOf (fun _ => .bl true) l)
theorem marked {f : Int → D} (a : Int) (l : List Int) : (kvGet (kvsOf f l) (.inl a)).isSome = decide (a ∈ l) := by
  by_cases h : a ∈ l
  · rw [kv_get h, decide_eq_true h]; rfl
  · have : kvGet (kvsOf f l) (.inl a) = none := by
      unfold kvGet
      rw [List.find?_eq_none.mpr]
      · rfl
      · intro x hx
        obtain ⟨b, hb, rfl⟩ := List.mem_map.mp hx
        simp only [decide_eq_true_eq]
        exact fun z => h (Sum.inl.inj z ▸ hb)
    rw [this, decide_eq_false h]; rfl
theorem unseen (a : Int) (l : List Int) : dNotIn (.int a) (marks l) = some (.bl (!decide (a ∈ l))) := by
  show some (D.bl (!(kvGet (kvsOf (fun _ => D.bl true) l) (.inl a)).isSome)) = _
  rw [marked]
section
variable {w : List (List Int)} {n : Nat}
def RingI (w : List (List Int)) (n : Nat) (f d : Option D) (goal : List Int × List Int) (k : Nat) (ρ : Fm) : Prop := ∃ seen ring a, ρ = [some (webD w), f, some (marks seen), d, some (.lst (intsD ring)), some (.int a)] ∧
  Seen (2 * n) seen ∧ (0 ≤ a ∧ a < 2 * n) ∧ ringOn w (k + 1) seen ring a = goal ∧ k = 2 * n - seen.length ∧ ring.length ≤ seen.length
def RingP (w : List (List Int)) (n : Nat) (f d : Option D) (goal : List Int × List Int) (x : Fl × Fm) : Prop := ∃ a, x = (.nx, [some (webD w), f, some (marks goal.1), d, some (.lst (intsD goal.2)), a]) ∧ Seen (2 * n) goal.1
def FaceI (w : List (List Int)) (n p : Nat) (ρ : Fm) : Prop := ∃ o3 o4 o5, ρ = [some (webD w), some (.lst ((facesTo w (2 * n) p).2.map rowD)), some (marks (facesTo w (2 * n) p).1), o3, o4, o5] ∧
  Seen (2 * n) (facesTo w (2 * n) p).1 ∧ (facesTo w (2 * n) p).2.length ≤ p
variable (W : IsWeb w n)
include W
theorem faces_ok : d_faces [webD w] = some (webD (facesOf w (2 * n)), [some (webD w)]) := by
  have hn := W.le
  have main : Ok (d_faces [webD w]) fun x => x = (webD (facesOf w (2 * n)), [some (webD w)]) := by
    have ti := ties_ok W
    have okm : okR (2 * (n : Int)) = true := okR_of' (by omega) (by omega)
    have tn : (2 * (n : Int)).toNat = 2 * n := by omega
    simp [d_faces, b_faces, denOf, ti, imm_rows, okm, tn, big_ok, ok_bind]
    refine ok_mono (ok_iota (P := fun x => x.1 = .nx ∧ FaceI w n (2 * n) x.2) (FaceI w n) ?_ (fun ρ h => ⟨rfl, h⟩) ⟨none, none, none, rfl, ⟨List.nodup_nil, fun _ h => by cases h⟩, Nat.le_refl _⟩) ?_
    · rintro p ρ hp ⟨o3, o4, o5, rfl, hs, hl⟩
      have st := facesTo_succ w (2 * n) p
      have un := unseen (p : Int) (facesTo w (2 * n) p).1
      generalize facesTo w (2 * n) p = cur at st un hs hl
      obtain ⟨seen, found⟩ := cur
      by_cases hm : (p : Int) ∈ seen
      · have e : facesTo w (2 * n) (p + 1) = (seen, found) := by rw [st]; exact if_pos hm
        simp [un, hm]
        exact ⟨_, _, _, by rw [e], by rw [e]; exact hs, by rw [e]; exact Nat.le_succ_of_le hl⟩
      · generalize hg : ringOn w (2 * n - seen.length + 1) seen [] p = goal
        have e : facesTo w (2 * n) (p + 1) = (goal.1, found ++ [goal.2]) := by rw [st, ← hg]; exact if_neg hm
        simp [un, hm, big_ok, ok_bind]
        refine ok_mono (ok_while (P := RingP w n (some (.lst (found.map rowD))) (some (.int p)) goal) (RingI w n (some (.lst (found.map rowD))) (some (.int p)) goal) ?_ (k := 2 * n - seen.length) (by unfold fuel; omega) ⟨seen, [], p, rfl, hs, by omega, hg, rfl, Nat.zero_le _⟩) ?_
        · rintro k ρ ⟨seen, ring, a, rfl, hs, ha, go, rfl, hr⟩
          have un := unseen a seen
          have full := hs.len
          by_cases hm : a ∈ seen
          · have : goal = (seen, ring) := by rw [← go]; exact if_pos hm
            subst this
            simp [un, hm]
            exact ⟨_, rfl, hs⟩
          · have more := (hs.add (d := a) (by omega) hm).len
            simp only [List.length_append, List.length_singleton] at more
            have put := put_new (f := fun _ => D.bl true) hm rfl (by omega)
            have ap := append_l (ds := intsD ring) (y := .int a) (big_lt (by simp; omega))
            have al := along_ok W ha
            have go' : ringOn w (2 * n - seen.length) (seen ++ [a]) (ring ++ [a]) (along w a) = goal := by rw [← go]; exact (if_neg hm).symm
            simp [un, hm, put, ap, al, imm_rows]
            refine ⟨2 * n - (seen.length + 1), by omega, seen ++ [a], ring ++ [a], along w a, by simp, hs.add (by omega) hm, along_in W ha, ?_, by simp, by simp; omega⟩
            rw [show 2 * n - (seen.length + 1) + 1 = 2 * n - seen.length by omega]
            exact go'
        · rintro x ⟨a, rfl, hs'⟩
          have tp := tuple_l (immL_ints goal.2)
          have ap := append_l (ds := found.map rowD) (y := .tup (intsD goal.2)) (big_lt (by simp; have : found.length ≤ p := hl; omega))
          simp [tp, ap]
          exact ⟨some (.int p), some (.lst (intsD goal.2)), a, by rw [e]; simp [rowD], by rw [e]; exact hs', by rw [e]; simp; exact hl⟩
    · rintro ⟨o, ρ⟩ ⟨h, o3, o4, o5, e, _, _⟩
      cases h
      simp at e
      subst e
      have tp := tuple_l (imm_rows (facesTo w (2 * n) (2 * n)).2)
      simp [tp, facesOf]
  obtain ⟨_, e, rfl⟩ := main
  exact e
end
end RM
/-! The walk along a face comes back to where it began. -/
namespace RM
open PySem PySem.Spec L2 DL
theorem other_twice {d : Int} : otherOf (otherOf d) = d := by
  have e := Int.fmod_add_mul_fdiv d 2
  have m := fmod_in d (m := 2) (by decide)
  by_cases h : d.fmod 2 = 0
  · have o : otherOf d = d + 1 := if_pos h
    have e1 : (d + 1).fmod 2 = 1 := by
      have q := Int.fmod_add_mul_fdiv (d + 1) 2
      have r := fmod_in (d + 1) (m := 2) (by decide)
      omega
    rw [o]
    unfold otherOf
    rw [e1, if_neg (by decide)]
    omega
  · have o : otherOf d = d - 1 := if_neg h
    have e1 : (d - 1).fmod 2 = 0 := by
      have q := Int.fmod_add_mul_fdiv (d - 1) 2
      have r := fmod_in (d - 1) (m := 2) (by decide)
      omega
    rw [o]
    unfold otherOf
    rw [e1, if_pos rfl]
    omega
theorem xor_other : ∀ d : Fin 24, Builtin.bitXor ((d : Nat) : Int) 1 = otherOf ((d : Nat) : Int) := by decide +kernel
theorem xor_one {d : Int} (h0 : 0 ≤ d) (h1 : d < 24) : Builtin.bitXor d 1 = otherOf d := by
  have := xor_other ⟨d.toNat, by omega⟩
  rwa [show ((d.toNat : Nat) : Int) = d from Int.toNat_of_nonneg h0] at this
section
variable {w : List (List Int)} {n : Nat} (W : IsWeb w n)
include W
theorem next_inj {c d : Int} (hc : 0 ≤ c ∧ c < 2 * n) (hd : 0 ≤ d ∧ d < 2 * n) (e : nextOf w c = nextOf w d) : c = d := by
  -- where they stand, and where the next ones stand
  have spot : ∀ {x : Int}, 0 ≤ x ∧ x < 2 * n → ∃ (p a : Nat) (r : List Int), w[p]? = some r ∧ r[a]? = some x ∧ r[(a + 1) % r.length]? = some (nextOf w x) := by
    intro x hx
    obtain ⟨p, r, hp, hm, _, _⟩ := W.at (W.mem.mpr hx)
    obtain ⟨a, lt, ha⟩ := List.mem_iff_getElem.mp hm
    have ha' : r[a]? = some x := by rw [List.getElem?_eq_getElem lt, ha]
    obtain ⟨n1, n2⟩ := W.next hp ha'
    refine ⟨p, a, r, hp, ha', ?_⟩
    by_cases z : a + 1 < r.length
    · rw [Nat.mod_eq_of_lt z]; exact n1 z
    · rw [show a + 1 = r.length by omega, Nat.mod_self]; exact n2 z
  obtain ⟨p, a, r, hp, ha, na⟩ := spot hc
  obtain ⟨q, b, t, hq, hb, nb⟩ := spot hd
  have s1 := W.spots hp na
  rw [e] at s1
  have s2 := W.spots hq nb
  have pq : p = q := s1.1.symm.trans s2.1
  subst pq
  have rt : r = t := Option.some.inj (hp.symm.trans hq)
  subst rt
  have ab := s1.2.2.symm.trans s2.2.2
  have la := (List.getElem?_eq_some_iff.mp ha).1
  have lb := (List.getElem?_eq_some_iff.mp hb).1
  have : a = b := by
    by_cases x : a + 1 < r.length <;> by_cases y : b + 1 < r.length
    · rw [Nat.mod_eq_of_lt x, Nat.mod_eq_of_lt y] at ab; omega
    · rw [Nat.mod_eq_of_lt x, show b + 1 = r.length by omega, Nat.mod_self] at ab; omega
    · rw [Nat.mod_eq_of_lt y, show a + 1 = r.length by omega, Nat.mod_self] at ab; omega
    · omega
  subst this
  exact Option.some.inj (ha.symm.trans hb)
theorem along_inj {c d : Int} (hc : 0 ≤ c ∧ c < 2 * n) (hd : 0 ≤ d ∧ d < 2 * n) (e : along w c = along w d) : c = d := by
  have := next_inj W (other_in W hc) (other_in W hd) e
  rw [← other_twice (d := c), this, other_twice]
end
end RM
/-! Rings: the walk from an unseen dart comes back to it; the faces by their least unseen darts. -/
namespace RM
open PySem PySem.Spec L2 DL
/-- k steps on -/
def it (f : Int → Int) (d : Int) : Nat → Int
  | 0 => d
  | k + 1 => f (it f d k)
/-- the first k darts of the walk -/
def chain (f : Int → Int) (d : Int) (k : Nat) : List Int := (List.range k).map (it f d)
theorem chain_succ (f : Int → Int) (d : Int) (k : Nat) : chain f d (k + 1) = chain f d k ++ [it f d k] := by simp [chain, List.range_succ]
theorem chain_len (f : Int → Int) (d : Int) (k : Nat) : (chain f d k).length = k := by simp [chain]
theorem chain_mem {f : Int → Int} {d x : Int} {k : Nat} : x ∈ chain f d k ↔ ∃ i, i < k ∧ it f d i = x := by simp [chain]
/-- what leads into l is of l -/
def Closed (w : List (List Int)) (n : Nat) (l : List Int) : Prop := ∀ x, 0 ≤ x ∧ x < 2 * (n : Int) → along w x ∈ l → x ∈ l
/-- a whole ring of d -/
structure Ring (w : List (List Int)) (n : Nat) (d : Int) (j : Nat) : Prop where
  pos : 1 ≤ j
  back : it (along w) d j = d
  once : (chain (along w) d j).Nodup
section
variable {w : List (List Int)} {n : Nat} (W : IsWeb w n)
include W
theorem it_in {d : Int} (h : 0 ≤ d ∧ d < 2 * n) : ∀ k, 0 ≤ it (along w) d k ∧ it (along w) d k < 2 * n
  | 0 => h
  | k + 1 => along_in W (it_in h k)
theorem ringOn_ends {seen : List Int} {d : Int} (hs : Seen (2 * n) seen) (cl : Closed w n seen) (hd : 0 ≤ d ∧ d < 2 * n) (hu : d ∉ seen) : ∀ (fuel k : Nat), Seen (2 * n) (seen ++ chain (along w) d k) → 2 * n < fuel + (seen.length + k) →
    (1 ≤ k → it (along w) d k ∉ seen) → ∃ j, Ring w n d j ∧ Seen (2 * n) (seen ++ chain (along w) d j) ∧ ringOn w fuel (seen ++ chain (along w) d k) (chain (along w) d k) (it (along w) d k) = (seen ++ chain (along w) d j, chain (along w) d j)
  | 0, k, hk, hf, _ => by
    have := hk.len
    rw [List.length_append, chain_len] at this
    omega
  | fuel + 1, k, hk, hf, hn => by
    have ink := it_in W hd k
    by_cases hm : it (along w) d k ∈ seen ++ chain (along w) d k
    · -- it was met: of the chain, and its beginning
      have new : it (along w) d k ∉ seen := by
        cases k with
        | zero => exact hu
        | succ k => exact hn (Nat.succ_pos k)
      have hc : it (along w) d k ∈ chain (along w) d k := (List.mem_append.mp hm).resolve_left new
      obtain ⟨i, hi, ei⟩ := chain_mem.mp hc
      have once : (chain (along w) d k).Nodup := (List.nodup_append.mp hk.1).2.1
      have first : i = 0 := by
        cases i with
        | zero => rfl
        | succ i =>
          exfalso
          obtain ⟨k', rfl⟩ : ∃ k', k = k' + 1 := ⟨k - 1, by omega⟩
          have e : it (along w) d i = it (along w) d k' := along_inj W (it_in W hd i) (it_in W hd k') ei
          have c2 := once
          rw [chain_succ] at c2
          exact (List.nodup_append.mp c2).2.2 (it (along w) d i) (chain_mem.mpr ⟨i, by omega, rfl⟩) (it (along w) d k') List.mem_cons_self e
      subst first
      exact ⟨k, ⟨by omega, ei.symm, once⟩, hk, if_pos hm⟩
    · have more := hk.add (d := it (along w) d k) (by omega) hm
      have next : it (along w) d (k + 1) ∉ seen := fun z => hm (List.mem_append_left _ (cl _ ink z))
      rw [List.append_assoc, ← chain_succ] at more
      obtain ⟨j, r1, r2, r3⟩ := ringOn_ends hs cl hd hu fuel (k + 1) more (by omega) (fun _ => next)
      refine ⟨j, r1, r2, ?_⟩
      rw [← r3]
      show (if _ then _ else _) = _
      rw [if_neg hm, List.append_assoc, ← chain_succ]
      rfl
theorem ring_closed {seen : List Int} {d : Int} {j : Nat} (cl : Closed w n seen) (hd : 0 ≤ d ∧ d < 2 * n) (r : Ring w n d j) : Closed w n (seen ++ chain (along w) d j) := by
  intro x hx h
  rcases List.mem_append.mp h with q | q
  · exact List.mem_append_left _ (cl x hx q)
  · obtain ⟨i, hi, ei⟩ := chain_mem.mp q
    refine List.mem_append_right _ (chain_mem.mpr ?_)
    cases i with
    | succ i => exact ⟨i, by omega, along_inj W (it_in W hd i) hx ei⟩
    | zero =>
      obtain ⟨j', rfl⟩ : ∃ j', j = j' + 1 := ⟨j - 1, by have := r.pos; omega⟩
      exact ⟨j', by omega, along_inj W (it_in W hd j') hx (r.back.trans ei)⟩
/-- the step at an unseen dart -/
theorem step_ring {seen : List Int} {found : List (List Int)} {d : Int} (hs : Seen (2 * n) seen) (cl : Closed w n seen) (hd : 0 ≤ d ∧ d < 2 * n) (hu : d ∉ seen) :
    ∃ j, Ring w n d j ∧ Seen (2 * n) (seen ++ chain (along w) d j) ∧ faceStep w (2 * n) (seen, found) d = (seen ++ chain (along w) d j, found ++ [chain (along w) d j]) := by
  have := hs.len
  obtain ⟨j, r1, r2, r3⟩ := ringOn_ends W hs cl hd hu (2 * n - seen.length + 1) 0 (by simpa [chain] using hs) (by omega) (fun z => absurd z (by decide))
  have e : ringOn w (2 * n - seen.length + 1) seen [] d = (seen ++ chain (along w) d j, chain (along w) d j) := by simpa [chain, it] using r3
  exact ⟨j, r1, r2, by unfold faceStep; rw [if_neg hu, e]⟩
end
/-! ### by the least unseen -/
theorem step_seen {w : List (List Int)} {m : Nat} {st : List Int × List (List Int)} {d : Int} (h : d ∈ st.1) : faceStep w m st d = st := if_pos h
end RM
/-! What the faces are: whole rings, all darts among them, each once. -/
namespace RM
open PySem PySem.Spec L2 DL
structure FaceOk (w : List (List Int)) (n : Nat) (st : List Int × List (List Int)) : Prop where
  seen : Seen (2 * n) st.1
  closed : Closed w n st.1
  flat : st.2.flatten = st.1
  rings : ∀ r ∈ st.2, ∃ d j, (0 ≤ d ∧ d < 2 * (n : Int)) ∧ Ring w n d j ∧ r = chain (along w) d j
section
variable {w : List (List Int)} {n : Nat} (W : IsWeb w n)
include W
theorem facesTo_ok : ∀ p, p ≤ 2 * n → FaceOk w n (facesTo w (2 * n) p) ∧ ∀ d ∈ up p, d ∈ (facesTo w (2 * n) p).1
  | 0, _ => ⟨⟨⟨List.nodup_nil, fun _ h => (nomatch h)⟩, fun _ _ h => (nomatch h), rfl, fun _ h => (nomatch h)⟩, fun _ h => (nomatch h)⟩
  | p + 1, hp => by
    obtain ⟨F, all⟩ := facesTo_ok p (by omega)
    rw [facesTo_succ]
    have step : up (p + 1) = up p ++ [(p : Int)] := by simp [up, List.range_succ]
    generalize facesTo w (2 * n) p = st at F all
    obtain ⟨seen, found⟩ := st
    by_cases hm : (p : Int) ∈ seen
    · rw [step_seen (st := (seen, found)) hm, step]
      exact ⟨F, fun d hd => (List.mem_append.mp hd).elim (all d) fun q => List.mem_singleton.mp q ▸ hm⟩
    · have hd : 0 ≤ (p : Int) ∧ (p : Int) < 2 * n := by omega
      obtain ⟨j, R, S2, e⟩ := step_ring W (found := found) F.seen F.closed hd hm
      rw [e, step]
      refine ⟨⟨S2, ring_closed W F.closed hd R, ?_, fun r hr => ?_⟩, fun d h => ?_⟩
      · have := F.flat
        simp only at this
        simp [this]
      · rcases List.mem_append.mp hr with q | q
        · exact F.rings r q
        · exact ⟨p, j, hd, R, List.mem_singleton.mp q⟩
      · rcases List.mem_append.mp h with q | q
        · exact List.mem_append_left _ (all d q)
        · exact List.mem_append_right _ (chain_mem.mpr ⟨0, R.pos, (List.mem_singleton.mp q).symm⟩)
theorem faces_are : FaceOk w n (facesTo w (2 * n) (2 * n)) := (facesTo_ok W (2 * n) (Nat.le_refl _)).1
theorem faces_ne : ∀ r ∈ facesOf w (2 * n), r ≠ [] := fun r hr => by
  obtain ⟨d, j, _, R, rfl⟩ := (faces_are W).rings r hr
  intro z
  have := congrArg List.length z
  rw [chain_len] at this
  have := R.pos
  simp at *
  omega
theorem faces_perm : (facesOf w (2 * n)).flatten.Perm (up (2 * n)) := by
  have F := faces_are W
  have all := (facesTo_ok W (2 * n) (Nat.le_refl _)).2
  show (facesTo w (2 * n) (2 * n)).2.flatten.Perm _
  rw [F.flat]
  refine (List.perm_ext_iff_of_nodup F.seen.1 (up_nodup _)).mpr fun d => ⟨fun h => up_mem.mpr (F.seen.2 d h), all d⟩
/-- inside out: the faces are the rows of a web -/
theorem faces_web : IsWeb (facesOf w (2 * n)) n := ⟨faces_ne W, faces_perm W, W.pos, W.le⟩
theorem face_of_ok {d : Int} (h : d ∈ w.flatten) : d_face_of [webD w, .int d] = some (.int (spotOf (facesOf w (2 * n)) d : Nat), [some (webD w), some (.int d)]) := by
  have V := faces_web W
  have hv : d ∈ (facesOf w (2 * n)).flatten := V.mem.mpr (W.mem.mp h)
  have fo := faces_ok W
  -- as place_ok, over the faces
  have ht : true ∈ (facesOf w (2 * n)).map fun r => decide (d ∈ r) := by
    obtain ⟨q, hq, hd⟩ := List.mem_flatten.mp hv
    exact List.mem_map.mpr ⟨q, hq, decide_eq_true hd⟩
  have ix := index_true ht
  have ei : ((facesOf w (2 * n)).map fun r => decide (d ∈ r)).idxOf true = spotOf (facesOf w (2 * n)) d := by
    unfold spotOf List.idxOf
    rw [List.findIdx_map]
    congr 1
    funext r
    simp
  rw [ei, List.map_map] at ix
  have ix' : dIndexL (D.lst ((facesOf w (2 * n)).map fun r => D.bl (decide (d ∈ r)))) [D.bl true] = some (D.int (spotOf (facesOf w (2 * n)) d : Nat)) := ix
  have hs : (facesOf w (2 * n)).length ≤ sizeLine := big_ok (by have := V.rows; omega)
  have f2 : frzL ((facesOf w (2 * n)).map rowD) = some ((facesOf w (2 * n)).map rowD) := frzL_id _ (imm_rows _)
  have i2 : immL ((facesOf w (2 * n)).map rowD) = true := imm_rows _
  have lc := lcD_all (vs := [2]) (fg := fgName 2) (fe := fOp dIn (fVar 1) (fVar 2)) (ρ0 := [some (webD w), some (.int d), none]) (emb := rowD) (z := fun r => D.bl (decide (d ∈ r))) (xs := facesOf w (2 * n)) fun r _ => ⟨_, by simp; rfl, _, _, _, by simp [in_row]; exact ⟨rfl, rfl⟩, rfl, by simp [wipeF]⟩
  simp [d_face_of, b_face_of, denOf, fo, f2, i2, imm_rows, wipeF, ap_index, ap_methR, lc, hs, ix']
end
end RM
/-! Webs that are grown or drawn in tie by tie; loops over whole numbers from some one on. -/
namespace WC
open PySem PySem.Spec L2 DL WA RM WB
/-- rows of so many ties, tie by tie grown or drawn in -/
inductive Grown : List (List Int) → Nat → Prop where
  | two : Grown [[0], [1]] 1
  | loop : Grown [[0, 1]] 1
  | grow {rows : List (List Int)} {n : Nat} {d : Int} (g : Grown rows n) (h0 : 0 ≤ d) (h1 : d < 2 * (n : Int)) : Grown (rows.map (putRow d ((2 * n : Nat) : Int)) ++ [[((2 * n + 1 : Nat) : Int)]]) (n + 1)
  | draw {rows : List (List Int)} {n : Nat} {d e : Int} (g : Grown rows n) (h0 : 0 ≤ d) (h1 : d < 2 * (n : Int)) (k : Nat) (he : e = it (along rows) d k) : Grown ((rows.map (putRow d ((2 * n : Nat) : Int))).map (putRow e ((2 * n + 1 : Nat) : Int))) (n + 1)
theorem rows_two : Rows [[0], [1]] 2 := ⟨by simp, by decide⟩
theorem rows_loop : Rows [[0, 1]] 2 := ⟨by simp, by decide⟩
theorem grown_rows : ∀ {rows : List (List Int)} {n : Nat}, Grown rows n → n ≤ 12 → Rows rows (2 * n) ∧ 1 ≤ n := by
  intro rows n g
  induction g with
  | two => exact fun _ => ⟨rows_two, by decide⟩
  | loop => exact fun _ => ⟨rows_loop, by decide⟩
  | grow g h0 h1 ih =>
    intro h
    obtain ⟨R, h2⟩ := ih (by omega)
    exact ⟨(R.put ⟨h0, by omega⟩).grow, by omega⟩
  | draw g h0 h1 k he ih =>
    rename_i rows n d e
    intro h
    obtain ⟨R, h2⟩ := ih (by omega)
    have W := R.web h2 (by omega)
    have := it_in W (d := d) ⟨h0, h1⟩ k
    rw [← he] at this
    exact ⟨(R.put ⟨h0, by omega⟩).put ⟨by omega, by omega⟩, by omega⟩
theorem Grown.web {rows : List (List Int)} {n : Nat} (g : Grown rows n) (h : n ≤ 12) : IsWeb rows n := let ⟨R, h1⟩ := grown_rows g h; R.web h1 h
/-! ### loops -/
end WC
/-! The fourth family's webs. -/
namespace RD
open PySem PySem.Spec L2 DL WA RM WB WC
/-- the item behind another one, around -/
theorem subs_behind {x : D} {r : List Int} {d : Int} (hs : seqOf x = some (intsD r)) (h : d ∈ r) : ∃ e, e ∈ r ∧ r[(r.idxOf d + 1) % r.length]? = some e ∧ dSubs x (.int (((r.idxOf d : Nat) + 1 : Int).fmod r.length)) = some (.int e) := by
  obtain ⟨e, h1, h2⟩ := next_mem h
  have h0 : 0 < r.length := List.length_pos_iff.mpr (List.ne_nil_of_mem h)
  have em : ((r.idxOf d : Nat) + 1 : Int).fmod r.length = ((r.idxOf d + 1) % r.length : Nat) := by
    rw [Int.fmod_eq_emod_of_nonneg _ (by omega), Int.natCast_emod]; rfl
  refine ⟨e, h2, h1, ?_⟩
  rw [em]
  exact dSubs_seq hs (by omega) (by rw [Int.toNat_natCast, List.getElem?_map, h1]; rfl) rfl
end RD
/-! The fourth family's rows settled: a web. -/
namespace RD
open PySem PySem.Spec L2 DL WA RM WB
/-- the web of rows whose darts are called so -/
def calledWeb (C : List Int) (rows : List (List Int)) : List (List Int) := sortRows ((rows.map fun r => r.map (callBy C)).map turnRow)
end RD
/-! The fourth family's webs: grown tie by tie, then settled. -/
namespace RD
open PySem PySem.Spec L2 DL WA RM WB WC
end RD
/-! What goes across a side: the program's counts. -/
namespace RP
open PySem PySem.Spec L2 DL WA RM WB WC
def pairD (a : Int × Int) : D := .tup [.int a.1, .int a.2]
abbrev asksD (as : List (Int × Int)) : D := .tup (as.map pairD)
/-- just one of both is in it -/
def parted (s : List Int) (a : Int × Int) : Bool := !decide (decide (a.1 ∈ s) = decide (a.2 ∈ s))
/-- the ends of a tie -/
def endsAt (w : List (List Int)) (t : Int) : Int × Int := (spotOf w (2 * t), spotOf w (2 * t + 1))
def itemAt (rs : List Int) (t : Int) : Int := rs.getD t.toNat 0
theorem pair_0 (a : Int × Int) : dSubs (pairD a) (.int 0) = some (.int a.1) := rfl
theorem pair_1 (a : Int × Int) : dSubs (pairD a) (.int 1) = some (.int a.2) := rfl
theorem imm_pair (a : Int × Int) : imm (pairD a) = true := rfl
theorem imm_row (r : List Int) : imm (rowD r) = true := immL_ints r
theorem tot_up_succ (g : Int → Int) (p : Nat) : tot g (up (p + 1)) = tot g (up p) + g p := by
  rw [up_succ, tot_append]
  simp [tot]
end RP
/-! The fourth family's ties, rooms, asks. -/
namespace RD
open PySem PySem.Spec L2 DL WA RM WB WC RP
theorem called_web {rows : List (List Int)} {n : Nat} {C : List Int} (R : Rows rows (2 * n)) (h1 : 1 ≤ n) (h2 : n ≤ 12) (N : Named n C []) : IsWeb (calledWeb C rows) n :=
  ((R.called N.whole.1).begun).web h1 h2
section
variable {w : List (List Int)} {n : Nat} (W : IsWeb w n)
include W
theorem ties_ok : d__law_ties [webD w] = some (.int n, [some (webD w)]) := by
  have f2 : frzL (w.map rowD) = some (w.map rowD) := frzL_id _ (imm_rows w)
  have lc := lcD_all (vs := [1]) (fg := fgName 1) (fe := fCall dLen (fCons (fVar 1) fNil)) (ρ0 := [some (webD w), none]) (emb := rowD) (z := fun r => D.int (r.length : Nat)) (xs := w) fun r _ => ⟨_, by simp; rfl, _, _, _, by simp [rowD]; exact ⟨rfl, rfl⟩, rfl, by simp [wipeF]⟩
  have rl := W.rows
  have hn := W.le
  have e : (w.map fun r => D.int (r.length : Nat)) = (w.map fun r => ((r.length : Nat) : Int)).map D.int := by simp
  have s : (w.map fun r => ((r.length : Nat) : Int)).sum = 2 * (n : Int) := by
    have := W.len
    rw [List.length_flatten] at this
    have c : ∀ l : List (List Int), (l.map fun r => ((r.length : Nat) : Int)).sum = ((l.map List.length).sum : Nat) := by
      intro l
      induction l with
      | nil => rfl
      | cons a l ih => simp [ih]
    rw [c, this]; simp
  rw [e] at lc
  have h3 : (2 * (n : Int)).fdiv 2 = n := by rw [Int.fdiv_eq_ediv_of_nonneg _ (by decide)]; omega
  simp [d__law_ties, b__law_ties, denOf, f2, imm_rows, lc, wipeF, big_ok (n := w.length) (by omega), s, h3, -List.map_map]
end
/-! ### asks -/
end RD
/-! The fourth family's own counts across a side. -/
namespace RD
open PySem PySem.Spec L2 DL WA RM WB WC RP
section
variable {w : List (List Int)} {n : Nat} (W : IsWeb w n)
def spotsD (w : List (List Int)) (l : List Int) : D := .dic (kvsOf (fun d => .int (spotOf w d : Nat)) l)
@[simp] theorem imm_spots (w : List (List Int)) (l : List Int) : imm (spotsD w l) = false := rfl
include W
end
end RD
/-! meanings that many laws share; printed by gen.py, then kept -/
namespace RF
open PySem L2 DL
def b__law_faces : FS := fSeq (fAsg (fLst (fNil)) (fgName 1)) (fSeq (fAsg (fLst (fNil)) (fgName 2)) (fSeq (fFor (fRng1 (fCons (fOp dMul (fC (.int 2)) (fCallD RD.d__law_ties (fCons (fVar 0) (fNil)))) (fNil))) (fgName 3) (fIfS (fTest (fOp dNotIn (fVar 3) (fVar 2))) (fSeq (fAsg (fLst (fCons (fVar 3) (fNil))) (fgName 4)) (fSeq (whileD (fTest (fOp dNe (fCallD RD.d__law_along (fCons (fVar 0) (fCons (fOp dSubs (fVar 4) (fNeg (fC (.int 1)))) (fNil)))) (fVar 3))) (fDrop (fMut isLst mAppend (fpVar 4) (fCons (fCallD RD.d__law_along (fCons (fVar 0) (fCons (fOp dSubs (fVar 4) (fNeg (fC (.int 1)))) (fNil)))) (fNil)))) fuel) (fSeq (fDrop (fExtV 2 4)) (fDrop (fMut isLst mAppend (fpVar 1) (fCons (fVar 4) (fNil))))))) (fSkip))) (fRet (fVar 1))))
def d__law_faces : Den := denOf 5 1 [1, 2, 3, 4] b__law_faces
end RF
/-! The fourth family's faces, by its own going along; its rims, and the program's. -/
namespace RF
open PySem PySem.Spec L2 DL WA RM WB WC RP RD
/-- a step along a face of a web of tuples -/
def AlT (w : List (List Int)) (d : Int) (x : Fl × Fm) : Prop := ∃ o2 o3, x = (.ret (.int (along w d)), [some (webD w), some (.int d), o2, o3])
theorem along_row {w : List (List Int)} {n : Nat} (W : IsWeb w n) {d : Int} (hd : 0 ≤ d ∧ d < 2 * (n : Int)) : RD.d__law_along [webD w, .int d] = some (.int (along w d), [some (webD w), some (.int d)]) := by
  have main : Ok (RD.d__law_along [webD w, .int d]) fun ro => ro = (.int (along w d), [some (webD w), some (.int d)]) := by
    have ho := RM.other_in W hd
    obtain ⟨P, r0, hP, hdP, e1, e2⟩ := W.at (W.mem.mpr ho)
    have ltP := (List.getElem?_eq_some_iff.mp hP).1
    simp [RD.d__law_along, RD.b__law_along, denOf, imm_rows, ok_bind]
    refine ok_mono (ok_at (P := AlT w d) (emb := rowD) w (fun k ρ => k ≤ P ∧ ∃ o2 o3, ρ = [some (webD w), some (.int d), o2, o3]) ?_ ?_ ⟨Nat.zero_le _, none, none, rfl⟩) ?_
    · rintro k r ρ hk ⟨hkP, o2, o3, rfl⟩
      have oth := RM.other_ok d
      have rin := in_row (otherOf d) r
      by_cases hm : otherOf d ∈ r
      · have eP : P = k := e1.symm.trans (W.place hk hm)
        have er : r0 = r := by rw [eP] at hP; rw [hP] at hk; exact Option.some.inj hk
        rw [er] at e2
        have ll : dList [rowD r] = some (lstR r) := if_pos (immL_ints r)
        have ix := index_l (x := lstR r) (.inl rfl) hm
        obtain ⟨e, h1, h3, h2⟩ := subs_behind (x := rowD r) rfl hm
        have hl0 : r ≠ [] := List.ne_nil_of_mem hm
        have ln : dLen [rowD r] = some (.int r.length) := by simp [rowD]
        have ee : e = along w d := by
          unfold along nextOf
          rw [e2, h3]; rfl
        subst ee
        simp [oth, rin, hm, ll, ap_index, ap_methR, ix, h2, ln, hl0]
        exact ⟨_, _, rfl⟩
      · have ne : k ≠ P := fun z => by subst z; rw [hP] at hk; cases hk; exact hm hdP
        simp [oth, rin, hm]
        omega
    · rintro ρ ⟨hkP, o2, o3, rfl⟩
      omega
    · rintro x ⟨o2, o3, rfl⟩
      simp
  obtain ⟨x, e, rfl⟩ := main
  exact e
theorem ext_ints {ρ : Fm} {i j : Nat} {a b : List Int} (hi : slot ρ i = some (lstR a)) (hj : slot ρ j = some (lstR b)) (h : a.length + b.length ≤ 100000) : fExtV i j ρ = some (.val .non, ρ.set i (some (lstR (a ++ b)))) := by
  unfold fExtV
  rw [hi, hj]
  show ((intsOf (intsD b)).bind fun ns => if (intsD a).length + ns.length ≤ sizeLine then some (R.val .non, ρ.set i (some (.lst (intsD a ++ ns.map .int)))) else none) = _
  rw [intsOf_ints]
  show (if _ then _ else _) = _
  rw [if_pos (by rw [List.length_map]; exact big_ok h), lstR, intsD, intsD, List.map_append]
theorem last_l (l : List Int) (d : Int) : dSubs (lstR (l ++ [d])) (.int (-1)) = some (.int d) := by
  have e : dIxQ (lstR (l ++ [d])) (.int (-1)) = some (.int d) := by
    show ((atI (intsD (l ++ [d])) (-1)).bind fun d => if imm d = true then some d else none) = _
    unfold atI
    rw [ixN_last (by simp)]
    simp
  simp [dSubs, dIx, dIxS, e]
section
variable {w : List (List Int)} {n : Nat} (W : IsWeb w n)
include W
/-! ### the faces -/
def FaI (w : List (List Int)) (n p : Nat) (ρ : Fm) : Prop := ∃ o3 o4, ρ = [some (webD w), some (.lst ((facesTo w (2 * n) p).2.map lstR)), some (.lst (intsD (facesTo w (2 * n) p).1)), o3, o4] ∧ (facesTo w (2 * n) p).2.length ≤ p
def RiI (w : List (List Int)) (n : Nat) (seen : List Int) (found : List (List Int)) (d : Int) (j : Nat) (k : Nat) (ρ : Fm) : Prop := ∃ i, i + 1 + k = j ∧ ρ = [some (webD w), some (.lst (found.map lstR)), some (.lst (intsD seen)), some (.int d), some (.lst (intsD (chain (along w) d (i + 1))))]
theorem faces_ok : d__law_faces [webD w] = some (.lst ((facesOf w (2 * n)).map lstR), [some (webD w)]) := by
  have hn := W.le
  have main : Ok (d__law_faces [webD w]) fun x => x = (.lst ((facesOf w (2 * n)).map lstR), [some (webD w)]) := by
    have ti := RD.ties_ok W
    have okm : okR (2 * (n : Int)) = true := okR_of' (by omega) (by omega)
    have tn : (2 * (n : Int)).toNat = 2 * n := by omega
    simp [d__law_faces, b__law_faces, denOf, ti, imm_rows, okm, tn, big_ok, ok_bind]
    refine ok_mono (ok_iota (P := fun x => x.1 = .nx ∧ FaI w n (2 * n) x.2) (FaI w n) ?_ (fun ρ h => ⟨rfl, h⟩) ⟨none, none, rfl, Nat.le_refl _⟩) ?_
    · rintro p ρ hp ⟨o3, o4, rfl, hl⟩
      have st := facesTo_succ w (2 * n) p
      obtain ⟨F, _⟩ := facesTo_ok W p (by omega)
      generalize facesTo w (2 * n) p = cur at st hl F
      obtain ⟨seen, found⟩ := cur
      have hl : found.length ≤ p := hl
      have un := notIn_l (x := lstR seen) (d := (p : Int)) (.inl rfl)
      by_cases hm : (p : Int) ∈ seen
      · have e : facesTo w (2 * n) (p + 1) = (seen, found) := by rw [st]; exact if_pos hm
        simp [un, hm]
        exact ⟨_, _, by rw [e], by rw [e]; exact Nat.le_succ_of_le hl⟩
      · have hd : 0 ≤ (p : Int) ∧ (p : Int) < 2 * n := by omega
        obtain ⟨j, R, S2, e⟩ := step_ring W (found := found) F.seen F.closed hd hm
        have jl := S2.len
        rw [List.length_append, chain_len] at jl
        have jl : seen.length + j ≤ 2 * n := jl
        have c1 : intsD (chain (along w) p (0 + 1)) = [.int p] := by simp [chain, it]
        simp [un, hm, big_ok, ok_bind]
        refine ok_mono (ok_while (P := fun x => x = (.nx, [some (webD w), some (.lst (found.map lstR)), some (.lst (intsD seen)), some (.int p), some (.lst (intsD (chain (along w) p j)))])) (RiI w n seen found p j) ?_ (k := j - 1) (by unfold fuel; omega) ⟨0, by have := R.pos; omega, by rw [c1]⟩) ?_
        · rintro k ρ ⟨i, hij, rfl⟩
          have ink := it_in W hd i
          have ls : dSubs (lstR (chain (along w) p (i + 1))) (.int (-1)) = some (.int (it (along w) p i)) := by
            rw [chain_succ]
            exact last_l _ _
          have al := along_row W ink
          have al' : RD.d__law_along [webD w, .int (it (along w) p i)] = some (.int (it (along w) p (i + 1)), [some (webD w), some (.int (it (along w) p i))]) := al
          by_cases hk : k = 0
          · have ej : it (along w) p (i + 1) = p := by rw [show i + 1 = j by omega]; exact R.back
            simp [ls, al', ej, imm_rows]
            rw [show i + 1 = j by omega]
          · have ej : it (along w) p (i + 1) ≠ p := fun z => by
              obtain ⟨j', rfl⟩ : ∃ j', j = j' + 1 := ⟨j - 1, by omega⟩
              have o := R.once
              unfold chain at o
              have := (List.nodup_iff_pairwise_ne.mp o)
              have := (List.pairwise_map.mp this)
              have := List.pairwise_iff_getElem.mp this 0 (i + 1) (by simp) (by simp; omega) (by omega)
              simp at this
              exact this z.symm
            have ap := append_l (ds := intsD (chain (along w) p (i + 1))) (y := .int (it (along w) p (i + 1))) (big_lt (by simp [chain_len]; omega))
            simp [ls, al', ej, imm_rows, ap]
            refine ⟨k - 1, by omega, i + 1, by omega, ?_⟩
            rw [chain_succ (along w) p (i + 1)]
            simp
        · rintro x rfl
          have ap := append_l (ds := found.map lstR) (y := lstR (chain (along w) p j)) (big_lt (by simp; omega))
          have ex := fun (o1 : Option D) (o0 : Option D) => ext_ints (ρ := [o0, o1, some (lstR seen), some (.int p), some (lstR (chain (along w) p j))]) (i := 2) (j := 4) rfl rfl (by rw [chain_len]; omega)
          simp [ex, ap]
          exact ⟨_, _, by rw [st, e]; simp; exact ⟨rfl, rfl⟩, by rw [st, e]; simp; omega⟩
    · rintro ⟨o, ρ⟩ ⟨h, o3, o4, e, _⟩
      cases h
      simp at e
      subst e
      simp [facesOf]
  obtain ⟨_, e, rfl⟩ := main
  exact e
/-! ### rims -/
end
end RF
/-! The second family's draws: their count goes into what is drawn, so it is bounded. -/
namespace RB
open PySem PySem.Spec L2 DL WA RM WB WC RD RF
/-- a tape from which at most k draws were made -/
def IsTk (k : Nat) (d : D) : Prop := ∃ cs a l t, d = tapeD cs a l t ∧ 0 ≤ t ∧ t ≤ (k : Int)
theorem IsTk.imm {k : Nat} {d : D} (h : IsTk k d) : imm d = false := by obtain ⟨_, _, _, _, rfl, _⟩ := h; rfl
theorem IsTk.mono {k k' : Nat} {d : D} (h : IsTk k d) (hk : k ≤ k') : IsTk k' d := by
  obtain ⟨cs, a, l, t, e, h0, h1⟩ := h
  exact ⟨cs, a, l, t, e, h0, by omega⟩
theorem draw_eq {k : Nat} {d : D} {m : Int} (h : IsTk k d) (hk : k ≤ 100000) (h1 : 1 ≤ m) (h2 : m < 1073741824) :
    ∃ i d', RB.d__law_draw [d, .int m] = some (.int i, [some d', some (.int m)]) ∧ 0 ≤ i ∧ i < m ∧ IsTk (k + 1) d' ∧ imm d' = false := by
  obtain ⟨cs, a, l, t, rfl, t0, t1⟩ := h
  have hm : m ≠ 0 := by omega
  have hm' : m.natAbs < 1073741824 := by omega
  suffices ∃ (x a' l' : Int), RB.d__law_draw [tapeD cs a l t, .int m] = some (.int (x.fmod m), [some (tapeD cs a' l' (t + 1)), some (.int m)]) by
    obtain ⟨x, a', l', e⟩ := this
    exact ⟨_, _, e, Int.fmod_nonneg_of_pos x (by omega), Int.fmod_lt_of_pos x (by omega), ⟨_, _, _, _, rfl, by omega, by omega⟩, rfl⟩
  have mixed : ∀ c : Int, dMul (.int (c.fmod 2147483647 + (t + 1))) (.int (2 * (t + 1) + 1)) = some (.int ((c.fmod 2147483647 + (t + 1)) * (2 * (t + 1) + 1))) := fun c => mul_r (by omega) (by omega)
  have mixed0 : dMul (.int (t + 1)) (.int (2 * (t + 1) + 1)) = some (.int ((t + 1) * (2 * (t + 1) + 1))) := mul_r (by omega) (by omega)
  have powed : ∀ c : Int, dPow (.int (c.fmod 2147483647 + 7919 * (t + 1))) (.int 5) = some (.int ((c.fmod 2147483647 + 7919 * (t + 1)) ^ 5)) := fun c => by
    have := fmod_in c (m := 2147483647) (by decide)
    exact pow_int ⟨by decide, by decide, by omega⟩
  by_cases hl : 0 < l
  · exact ⟨l, a, l.fdiv m, by simp [RB.d__law_draw, RB.b__law_draw, denOf, hm, hm', hl]⟩
  · by_cases hc : cs = []
    · subst hc
      exact ⟨_, a + 1, l, by simp [RB.d__law_draw, RB.b__law_draw, denOf, hm, hm', hl, mixed0, powed]; rfl⟩
    · obtain ⟨c, ec⟩ := cell_at a hc
      have hlen : (cs.length : Int) ≠ 0 := by have := List.length_pos_iff.mpr hc; omega
      by_cases h4 : 1000000000000000000 ≤ c
      · by_cases h3 : a + 1 ≤ cs.length
        · exact ⟨c, a + 1, c.fdiv m, by simp [RB.d__law_draw, RB.b__law_draw, denOf, hm, hm', hl, hc, ec, h3, h4, hlen]⟩
        · exact ⟨_, a + 1, l, by simp [RB.d__law_draw, RB.b__law_draw, denOf, hm, hm', hl, hc, ec, h3, h4, hlen, mixed, powed]; rfl⟩
      · exact ⟨_, a + 1, l, by simp [RB.d__law_draw, RB.b__law_draw, denOf, hm, hm', hl, hc, ec, h4, hlen, mixed, powed]; rfl⟩
end RB
/-! What is behind each dart, in a dict; rings by it; darts put ahead. -/
namespace RB
open PySem PySem.Spec L2 DL WA RM WB WC RD RF
/-- a row from its last dart on -/
def rot (r : List Int) : List Int := r.drop (r.length - 1) ++ r.take (r.length - 1)
theorem rot_perm (r : List Int) : (rot r).Perm r := by
  unfold rot
  have := List.perm_append_comm (l₁ := r.drop (r.length - 1)) (l₂ := r.take (r.length - 1))
  rwa [List.take_append_drop] at this
theorem rot_len (r : List Int) : (rot r).length = r.length := (rot_perm r).length_eq
section
variable {rows : List (List Int)} {n : Nat} (W : IsWeb rows n)
include W
theorem rot_web : IsWeb (rows.map rot) n := by
  refine ⟨fun r hr => ?_, ?_, W.pos, W.le⟩
  · obtain ⟨q, hq, rfl⟩ := List.mem_map.mp hr
    intro z
    have := congrArg List.length z
    rw [rot_len] at this
    exact W.ne q hq (List.eq_nil_of_length_eq_zero this)
  · refine List.Perm.trans ?_ W.perm
    clear W
    induction rows with
    | nil => exact .refl _
    | cons r rows ih => rw [List.map_cons, List.flatten_cons, List.flatten_cons]; exact (rot_perm r).append ih
def behindD (rows : List (List Int)) (keys : List Int) : D := .dic (kvsOf (fun d => .int (nextOf rows d)) keys)
/-! ### rings -/
theorem behind_get {d : Int} (h : 0 ≤ d ∧ d < 2 * (n : Int)) : dSubs (behindD rows (rows.map rot).flatten) (.int d) = some (.int (nextOf rows d)) := subs_dic ((rot_web W).mem.mpr h) rfl
theorem ring_of {d : Int} (h : 0 ≤ d ∧ d < 2 * (n : Int)) : ∃ j, Ring rows n d j ∧ j ≤ 2 * n := by
  obtain ⟨j, R, S, _⟩ := step_ring W (seen := []) (found := []) ⟨List.nodup_nil, fun _ h => (nomatch h)⟩ (fun _ _ h => (nomatch h)) h (by simp)
  have := S.len
  rw [List.length_append, chain_len] at this
  exact ⟨j, R, by simp at this; omega⟩
omit W in
theorem ring_new {d : Int} {j i : Nat} (R : Ring rows n d j) (h : i + 1 < j) : it (along rows) d (i + 1) ≠ d := fun z => by
  have o := R.once
  unfold chain at o
  have := List.pairwise_iff_getElem.mp (List.pairwise_map.mp (List.nodup_iff_pairwise_ne.mp o)) 0 (i + 1) (by simp; omega) (by simp; omega) (by omega)
  simp at this
  exact this z.symm
def RiB (rows : List (List Int)) (x : D) (d : Int) (j : Nat) (k : Nat) (ρ : Fm) : Prop := ∃ i, i + 1 + k = j ∧ ρ = [some x, some (.int d), some (.lst (intsD (chain (along rows) d (i + 1)))), some (.int (it (along rows) d (i + 1)))]
theorem ring_ok {d : Int} (h : 0 ≤ d ∧ d < 2 * (n : Int)) : ∃ j, Ring rows n d j ∧ j ≤ 2 * n ∧ RB.d__law_ring [behindD rows (rows.map rot).flatten, .int d] =
    some (.lst (intsD (chain (along rows) d j)), [some (behindD rows (rows.map rot).flatten), some (.int d)]) := by
  obtain ⟨j, R, hj⟩ := ring_of W h
  have hn := W.le
  refine ⟨j, R, hj, ?_⟩
  have main : Ok (RB.d__law_ring [behindD rows (rows.map rot).flatten, .int d]) fun z => z = (.lst (intsD (chain (along rows) d j)), [some (behindD rows (rows.map rot).flatten), some (.int d)]) := by
    have oth := RM.other_ok d
    have g0 := behind_get W (RM.other_in W h)
    generalize hB : behindD rows (rows.map rot).flatten = B at g0
    have e1 : nextOf rows (otherOf d) = it (along rows) d 1 := rfl
    have c1 : intsD (chain (along rows) d (0 + 1)) = [.int d] := by simp [chain, it]
    rw [e1] at g0
    simp [RB.d__law_ring, RB.b__law_ring, denOf, oth, g0, big_ok, ok_bind]
    refine ok_mono (ok_while (P := fun z => ∃ a, z = (.nx, [some B, some (.int d), some (.lst (intsD (chain (along rows) d j))), a])) (RiB rows B d j) ?_ (k := j - 1) (by unfold fuel; omega) ⟨0, by have := R.pos; omega, by rw [c1]⟩) ?_
    · rintro k ρ ⟨i, hij, rfl⟩
      by_cases hk : k = 0
      · have ej : it (along rows) d (i + 1) = d := by rw [show i + 1 = j by omega]; exact R.back
        simp [ej]
        rw [show i + 1 = j by omega]
      · have ej := ring_new R (i := i) (by omega)
        have ink := it_in W h (i + 1)
        have oth := RM.other_ok (it (along rows) d (i + 1))
        have g := behind_get W (RM.other_in W ink)
        rw [hB] at g
        have e2 : nextOf rows (otherOf (it (along rows) d (i + 1))) = it (along rows) d (i + 2) := rfl
        rw [e2] at g
        have ap := append_l (ds := intsD (chain (along rows) d (i + 1))) (y := .int (it (along rows) d (i + 1))) (big_lt (by simp [chain_len]; omega))
        simp [ej, ap, oth, g]
        refine ⟨k - 1, by omega, i + 1, by omega, ?_⟩
        rw [chain_succ (along rows) d (i + 1)]
        simp
    · rintro z ⟨a, rfl⟩
      simp
  obtain ⟨z, e, rfl⟩ := main
  exact e
end
/-! ### a dart put ahead of another one -/
def PuI (rows : List (List Int)) (f d : Int) (p : Nat) (ρ : Fm) : Prop := ∃ o4 o5, ρ = [some (.flst (rows.map flR)), some (.int f), some (.int d), some (.lst (((rows.take p).map (putRow d f)).map flR)), o4, o5]
theorem put_ok {x : D} {rows : List (List Int)} {f d : Int} (hx : frzD x = some (.flst (rows.map flR))) (hl : rows.length ≤ 1000) (hr : ∀ r ∈ rows, r.length ≤ 1000) :
    RB.d__law_put [x, .int f, .int d] = some (.lst ((rows.map (putRow d f)).map flR), [some (.flst (rows.map flR)), some (.int f), some (.int d)]) := by
  have main : Ok (RB.d__law_put [x, .int f, .int d]) fun z => z = (.lst ((rows.map (putRow d f)).map flR), [some (.flst (rows.map flR)), some (.int f), some (.int d)]) := by
    have im := immL_flR rows
    simp [RB.d__law_put, RB.b__law_put, denOf, hx, im, big_ok, ok_bind]
    refine ok_mono (ok_at (P := fun z => z.1 = .nx ∧ PuI rows f d rows.length z.2) (emb := flR) rows (PuI rows f d) ?_ (fun ρ h => ⟨rfl, h⟩) ⟨none, none, rfl⟩) ?_
    · rintro p r ρ hp ⟨o4, o5, rfl⟩
      have rl := hr r (List.mem_of_getElem? hp)
      have lt := (List.getElem?_eq_some_iff.mp hp).1
      have tk : rows.take (p + 1) = rows.take p ++ [r] := by rw [List.take_add_one, hp]; rfl
      have rin := in_l (x := flR r) (d := d) (.inr rfl)
      have ap := append_l (ds := ((rows.take p).map (putRow d f)).map flR) (y := flR (putRow d f r)) (big_lt (by simp; omega))
      by_cases hm : d ∈ r
      · have ix := index_l (x := flR r) (.inr rfl) hm
        have le := List.idxOf_le_length (l := r) (a := d)
        have c1 := cut_to (intsD r) (r.idxOf d) (by simpa using le)
        have c2 := cut_from (intsD r) (r.idxOf d) (by simpa using le)
        have m1 : dMul (.lst [.int f]) (.int 1) = some (.lst [.int f]) := rfl
        rw [← List.map_take] at c1
        rw [← List.map_drop] at c2
        have k1 := cat_l (a := intsD (r.take (r.idxOf d))) (b := [.int f]) (immL_ints _) rfl (big_ok (by simp; omega))
        have k2 := cat_l (a := intsD (r.take (r.idxOf d)) ++ [.int f]) (b := intsD (r.drop (r.idxOf d))) (by rw [immL_append', immL_ints]; rfl) (immL_ints _) (big_ok (by simp; omega))
        have pr : intsD (r.take (r.idxOf d)) ++ [.int f] ++ intsD (r.drop (r.idxOf d)) = intsD (putRow d f r) := by
          unfold putRow
          rw [if_pos hm]
          simp
        rw [pr] at k2
        simp [rin, hm, ap_index, ap_methR, ix, c1, c2, m1, k1, k2, ap, big_ok, -List.map_take, -List.map_drop, -List.map_append, -List.map_map]
        exact ⟨_, _, by rw [tk]; simp; exact ⟨rfl, rfl⟩⟩
      · have c1 := cut_to (intsD r) r.length (by simp)
        have c2 := cut_from (intsD r) r.length (by simp)
        have m0 : dMul (.lst [.int f]) (.int 0) = some (.lst []) := rfl
        rw [List.take_of_length_le (by simp)] at c1
        rw [List.drop_eq_nil_of_le (by simp)] at c2
        have k1 := cat_l (a := intsD r) (b := []) (immL_ints _) rfl (big_ok (by simp; omega))
        have pr : putRow d f r = r := by unfold putRow; rw [if_neg hm]
        rw [List.append_nil] at k1
        rw [pr] at ap
        simp [rin, hm, c1, c2, m0, k1, ap, big_ok, -List.map_take, -List.map_drop, -List.map_append, -List.map_map]
        exact ⟨_, _, by rw [tk]; simp [pr]; exact ⟨rfl, rfl⟩⟩
    · rintro ⟨o, ρ⟩ ⟨ho, o4, o5, e⟩
      have ho : o = .nx := ho
      subst ho
      have e : ρ = _ := e
      subst e
      simp
  obtain ⟨z, e, rfl⟩ := main
  exact e
end RB
/-! The second family's webs: rows grown tie by tie. -/
namespace RB
open PySem PySem.Spec L2 DL WA RM WB WC RD RF
theorem frz_fl (rows : List (List Int)) : frzL (rows.map flR) = some (rows.map flR) := frzL_id _ (immL_flR rows)
/-- rows as they stand: those of the beginning, those put together later -/
def RowsD (x : D) (rows : List (List Int)) : Prop := x = .lst (rows.map lstR) ∨ x = .lst (rows.map flR) ∨ x = .flst (rows.map flR)
theorem RowsD.frz {x : D} {rows : List (List Int)} (h : RowsD x rows) : frzD x = some (.flst (rows.map flR)) := by
  rcases h with rfl | rfl | rfl
  · simp [frzL_rows]
  · simp [frz_fl]
  · simp [frz_fl]
theorem RowsD.len {x : D} {rows : List (List Int)} (h : RowsD x rows) : dLen [x] = some (.int rows.length) := by
  rcases h with rfl | rfl | rfl <;> simp
theorem cat_rows {a b : List (List Int)} (h : a.length + b.length ≤ 1000) : dAdd (.lst (a.map flR)) (.lst (b.map flR)) = some (.lst ((a ++ b).map flR)) := by
  rw [cat_l (immL_flR a) (immL_flR b) (big_ok (by simp; omega)), List.map_append]
end RB
/-! The second family's webs: darts called by a list of even darts' names; then as webs. -/
namespace RB
open PySem PySem.Spec L2 DL WA RM WB WC RP RD RF
/-- the names of all darts, by those of the even ones -/
def namesOf (T : List Int) : List Int := T.flatMap fun e => [e, otherOf e]
theorem names_len (T : List Int) : (namesOf T).length = 2 * T.length := by
  induction T with
  | nil => rfl
  | cons e T ih => unfold namesOf at ih ⊢; rw [List.flatMap_cons, List.length_append, ih]; simp; omega
theorem names_add (T : List Int) (e : Int) : namesOf (T ++ [e]) = namesOf T ++ [e, otherOf e] := by simp [namesOf]
/-- so the names of ties turn out as pairs -/
theorem pair_names {c u : Int} (hu : u = 0 ∨ u = 1) : [2 * c + u, 2 * c + 1 - u] = [2 * c + u, otherOf (2 * c + u)] := by
  rcases hu with rfl | rfl
  · rw [show 2 * c + 0 = 2 * c by omega, otherOf_even]; simp
  · rw [otherOf_odd]; congr 2; omega
/-! ### as a web -/
/-! ### a web -/
/-- popped ties, twice each and a draw of two: names of even darts -/
def TuI (n k : Nat) (A : Option D → Option D → Fm) (p : Nat) (acc : List D) (ρ : Fm) : Prop := ∃ (f : D) (left T : List Int), acc = intsD T ∧ ρ = A (some f) (some (.lst (intsD left))) ∧ IsTk (k + 2 * p) f ∧ Named n (namesOf T) left ∧ left.length = n - p ∧ T.length = p
theorem turn_step {n : Nat} {T left : List Int} (N : Named n (namesOf T) left) {i : Nat} {c u : Int} (hc : left[i]? = some c) (hu : u = 0 ∨ u = 1) : Named n (namesOf (T ++ [2 * c + u])) (left.eraseIdx i) := by
  have := named_step N hc hu
  rwa [pair_names hu, ← names_add] at this
end RB
/-! Small facts of data: cuts of lists, texts of rows, pairs. -/
namespace WD
open PySem PySem.Spec L2 DL WA RM WB WC RP
theorem nice_row {r : List Int} {k : Nat} (hl : r.length ≤ k) (h : ∀ d ∈ r, d.natAbs < 10 ^ 12) : Nice 1 (k * 41) (rowD r) := by
  refine (nice_tup (k := 0) (w := 40) (ds := intsD r) fun e he => ?_).mono (by decide) ?_
  · obtain ⟨i, hi, rfl⟩ := List.mem_map.mp he
    exact nice_int (h i hi)
  · rw [List.length_map]
    exact Nat.mul_le_mul hl (Nat.le_refl _)
theorem spot_lt {w : List (List Int)} {n : Nat} (W : IsWeb w n) {d : Int} (h : 0 ≤ d ∧ d < 2 * (n : Int)) : spotOf w d < w.length := by
  obtain ⟨p, r, hp, _, e, _⟩ := W.at (W.mem.mpr h)
  rw [e]
  exact (List.getElem?_eq_some_iff.mp hp).1
end WD
/-! Sums over a web's darts place by place; lists of numbers by their places; odd and even. -/
namespace WE
open PySem PySem.Spec L2 DL WA RM WB WC WD RP
/-! ### lists by a function of their places -/
def lstF (L : Nat) (σ : Int → Int) : D := .lst (intsD ((up L).map σ))
@[simp] theorem imm_lstF (L : Nat) (σ : Int → Int) : imm (lstF L σ) = false := rfl
/-! ### odd and even -/
/-! ### a place's darts -/
theorem tot_pick {L : Nat} {q v : Int} (g : Int → Int) (h0 : 0 ≤ q) (h1 : q < L) : tot (fun x => g x * if q = x then v else 0) (up L) = g q * v := by
  induction L with
  | zero => omega
  | succ L ih =>
    rw [tot_up_succ]
    by_cases h : q = (L : Int)
    · subst h
      have : tot (fun x => g x * if (L : Int) = x then v else 0) (up L) = 0 := by
        have := tot_congr (g := fun x => g x * if (L : Int) = x then v else 0) (k := fun _ => 0) (a := up L) fun x hx => by
          have := up_mem.mp hx
          show g x * (if (L : Int) = x then v else 0) = 0
          rw [if_neg (by omega), Int.mul_zero]
        rw [this, tot_zero]
      rw [this, if_pos rfl]; omega
    · rw [ih (by omega), if_neg h]; omega
end WE
/-! The places where rooms and asks come to an odd number: the program's count. -/
namespace RP
open PySem PySem.Spec L2 DL WA RM WB WC WD WE
end RP
/-! The second family's lengths; ends of ties, the program's and the laws'. -/
namespace RB
open PySem PySem.Spec L2 DL WA RM WB WC RP RD RF WE
/-! ### ends -/
abbrev endsL (w : List (List Int)) (n : Nat) : D := .lst (((up n).map (endsAt w)).map pairD)
end RB
/-! How far places are, tie by tie till nothing turns: in plain Lean. -/
namespace RB
open PySem PySem.Spec L2 DL WA RM WB WC RP RD RF WE
abbrev Far := Int → Option Int
def oD : Option Int → D
  | none => .non
  | some v => .int v
def lstO (L : Nat) (σ : Far) : D := .lst ((up L).map fun x => oD (σ x))
@[simp] theorem lstO_imm (L : Nat) (σ : Far) : imm (lstO L σ) = false := rfl
def setAt (σ : Far) (q : Int) (v : Int) : Far := fun x => if x = q then some v else σ x
/-! ### compared -/
/-! ### steps, sweeps -/
abbrev St := Far × Far × Bool
def hereAt (w : List (List Int)) (p : Nat) : Int := if p % 2 = 0 then (endsAt w (p / 2 : Nat)).1 else (endsAt w (p / 2 : Nat)).2
def thereAt (w : List (List Int)) (p : Nat) : Int := if p % 2 = 0 then (endsAt w (p / 2 : Nat)).2 else (endsAt w (p / 2 : Nat)).1
def stepBy (w : List (List Int)) (rs : List Int) (s : St) (p : Nat) : St := match s.1 (hereAt w p) with
  | none => s
  | some f => if (match s.1 (thereAt w p) with | none => true | some g => decide (f + itemAt rs (p / 2 : Nat) < g)) = true then (setAt s.1 (thereAt w p) (f + itemAt rs (p / 2 : Nat)), setAt s.2.1 (thereAt w p) p, true) else s
/-! ### what falls -/
def pot (L : Nat) (σ : Far) : Int := tot (fun x => match σ x with | none => 1000 | some v => v) (up L)
def cnt (L : Nat) (σ : Far) : Int := tot (fun x => if (σ x).isSome = true then 1 else 0) (up L)
theorem tot_upd {L : Nat} {q v : Int} (g : Int → Int) (h0 : 0 ≤ q) (h1 : q < L) : tot (fun x => if x = q then v else g x) (up L) = tot g (up L) + (v - g q) := by
  have e : tot (fun x => if x = q then v else g x) (up L) = tot (fun x => g x + 1 * (if q = x then v - g q else 0)) (up L) := tot_congr fun x _ => by
    by_cases h : x = q
    · subst h; simp; omega
    · have h' : ¬ q = x := fun z => h z.symm
      simp [h, h']
  rw [e, tot_add, tot_pick (fun _ => 1) h0 h1]
  omega
def valOf : Option Int → Int
  | none => 1000
  | some v => v
theorem pot_set {L : Nat} {σ : Far} {q v : Int} (h0 : 0 ≤ q) (h1 : q < L) : pot L (setAt σ q v) = pot L σ + (v - valOf (σ q)) := by
  have e1 : pot L (setAt σ q v) = tot (fun x => if x = q then v else valOf (σ x)) (up L) := tot_congr fun x _ => by
    unfold setAt
    by_cases h : x = q <;> simp [h]
    cases σ x <;> rfl
  have e2 : pot L σ = tot (fun x => valOf (σ x)) (up L) := tot_congr fun x _ => by cases σ x <;> rfl
  rw [e1, e2]
  exact tot_upd (fun x => valOf (σ x)) h0 h1
theorem cnt_set {L : Nat} {σ : Far} {q v : Int} (h0 : 0 ≤ q) (h1 : q < L) : cnt L (setAt σ q v) = cnt L σ + (1 - if (σ q).isSome = true then 1 else 0) := by
  have e1 : cnt L (setAt σ q v) = tot (fun x => if x = q then 1 else (if (σ x).isSome = true then 1 else 0)) (up L) := tot_congr fun x _ => by
    unfold setAt
    by_cases h : x = q <;> simp [h]
  rw [e1]
  exact tot_upd (fun x => if (σ x).isSome = true then 1 else 0) h0 h1
theorem tot_le {g k : Int → Int} {l : List Int} (h : ∀ x ∈ l, g x ≤ k x) : tot g l ≤ tot k l := by
  induction l with
  | nil => exact Int.le_refl _
  | cons x l ih =>
    have := h x List.mem_cons_self
    have := ih fun y hy => h y (List.mem_cons_of_mem _ hy)
    simp only [tot]
    omega
theorem cnt_le (L : Nat) (σ : Far) : cnt L σ ≤ L := by
  have := tot_le (g := fun x => if (σ x).isSome = true then 1 else 0) (k := fun _ => 1) (l := up L) fun x _ => by
    show (if _ then (1 : Int) else 0) ≤ 1
    split <;> omega
  rw [tot_one, up_length] at this
  exact this
structure Good (L : Nat) (σ : Far) : Prop where
  some1 : 1 ≤ cnt L σ
  small : ∀ x v, σ x = some v → 0 ≤ v ∧ v ≤ 6 * (cnt L σ - 1)
theorem Good.low {L : Nat} {σ : Far} (h : Good L σ) (hL : L ≤ 24) {x v : Int} (e : σ x = some v) : 0 ≤ v ∧ v ≤ 138 := by
  have := h.small x v e
  have := cnt_le L σ
  omega
theorem Good.step {w : List (List Int)} {rs : List Int} {L : Nat} {s : St} {p : Nat} (h : Good L s.1) (hL : L ≤ 24) (hr : 0 ≤ itemAt rs (p / 2 : Nat) ∧ itemAt rs (p / 2 : Nat) ≤ 6) (ht : 0 ≤ thereAt w p ∧ thereAt w p < L) :
    Good L (stepBy w rs s p).1 ∧ (stepBy w rs s p = s ∨ (stepBy w rs s p).2.2 = true ∧ pot L (stepBy w rs s p).1 < pot L s.1) := by
  unfold stepBy
  generalize itemAt rs ((p / 2 : Nat) : Int) = l at hr ⊢
  cases e : s.1 (hereAt w p) with
  | none => exact ⟨h, .inl rfl⟩
  | some f =>
    have hf := h.small _ _ e
    have lf := h.low hL e
    simp only
    cases e2 : s.1 (thereAt w p) with
    | none =>
      simp only [if_true]
      have hp := pot_set (σ := s.1) (v := f + l) ht.1 ht.2
      have hc := cnt_set (σ := s.1) (v := f + l) ht.1 ht.2
      rw [e2] at hp hc
      simp [valOf] at hp hc
      have s1 := h.some1
      refine ⟨⟨by omega, fun x v hx => ?_⟩, .inr ⟨trivial, by omega⟩⟩
      unfold setAt at hx
      split at hx
      · cases hx; omega
      · have := h.small x v hx; omega
    | some g =>
      by_cases c : f + l < g
      · simp only [c, decide_true, if_true]
        have hp := pot_set (σ := s.1) (v := f + l) ht.1 ht.2
        have hc := cnt_set (σ := s.1) (v := f + l) ht.1 ht.2
        rw [e2] at hp hc
        simp [valOf] at hp hc
        have s1 := h.some1
        have sg := h.small _ _ e2
        refine ⟨⟨by omega, fun x v hx => ?_⟩, .inr ⟨trivial, by omega⟩⟩
        unfold setAt at hx
        split at hx
        · cases hx; omega
        · have := h.small x v hx; omega
      · simp only [c, decide_false]
        exact ⟨h, .inl rfl⟩
end RB
/-! How far places are: the program's walk, the laws'. -/
namespace RB
open PySem PySem.Spec L2 DL WA RM WB WC RP RD RF WE
@[simp] theorem isNotN_oD (o : Option Int) : dIsNotN (oD o) .non = some (.bl o.isSome) := by cases o <;> rfl
@[simp] theorem isN_oD (o : Option Int) : dIsN (oD o) .non = some (.bl (!o.isSome)) := by cases o <;> rfl
@[simp] theorem isNotN_int (i : Int) : dIsNotN (.int i) .non = some (.bl true) := rfl
@[simp] theorem isN_int (i : Int) : dIsN (.int i) .non = some (.bl false) := rfl
@[simp] theorem isNotN_non : dIsNotN .non .non = some (.bl false) := rfl
@[simp] theorem isN_non : dIsN .non .non = some (.bl true) := rfl
section
variable {w : List (List Int)} {n : Nat} (W : IsWeb w n)
include W
/-! ### the program's -/
def PfI (w : List (List Int)) (n : Nat) (rs : List Int) (one : Int) (s : St) (ρ : Fm) : Prop := ∃ o7 o8 o9 o10, ρ = [some (.int (w.length : Nat)), some (endsL w n), some (rowD rs), some (.int one), some (lstO w.length s.1), some (lstO w.length s.2.1), some (.bl s.2.2), o7, o8, o9, o10]
/-! ### the laws' own -/
end
end RB
/-! Distances told; the chain of places. -/
namespace RB
open PySem PySem.Spec L2 DL WA RM WB WC RP RD RF WE WD
/-! ### a chain of places -/
end RB
/-! Webs that are grown hang together. -/
namespace WF
open PySem PySem.Spec L2 DL WA RM WB WC RD
/-- who goes around rows and across ties comes everywhere -/
def Hangs (rows : List (List Int)) (n : Nat) : Prop := ∀ P : Int → Prop, (∀ r ∈ rows, ∀ x ∈ r, ∀ y ∈ r, P x → P y) → (∀ d, 0 ≤ d ∧ d < 2 * (n : Int) → P d → P (otherOf d)) → ∀ a b, 0 ≤ a ∧ a < 2 * (n : Int) → 0 ≤ b ∧ b < 2 * (n : Int) → P a → P b
theorem putRow_sub {d f : Int} {r : List Int} {x : Int} (h : x ∈ r) : x ∈ putRow d f r := by
  unfold putRow
  split
  · have e := List.take_append_drop (r.idxOf d) r
    rw [← e] at h
    rcases List.mem_append.mp h with z | z
    · exact List.mem_append_left _ z
    · exact List.mem_append_right _ (List.mem_cons_of_mem _ z)
  · exact h
theorem putRow_new {d f : Int} {r : List Int} (h : d ∈ r) : f ∈ putRow d f r := by
  unfold putRow
  rw [if_pos h]
  exact List.mem_append_right _ List.mem_cons_self
/-- a tie more, its first dart at a place that there was; both ways of it -/
theorem hangs_more {rows rows' : List (List Int)} {n : Nat} {d : Int} (h : Hangs rows n) (h0 : 0 ≤ d ∧ d < 2 * (n : Int)) (sub : ∀ r ∈ rows, ∃ r' ∈ rows', ∀ x ∈ r, x ∈ r') (new : ∃ r' ∈ rows', d ∈ r' ∧ ((2 * n : Nat) : Int) ∈ r') : Hangs rows' (n + 1) := by
  intro P around across
  have oe : otherOf ((2 * n : Nat) : Int) = ((2 * n + 1 : Nat) : Int) := by
    have := otherOf_even (n : Int)
    push_cast
    exact this
  have oo : otherOf ((2 * n + 1 : Nat) : Int) = ((2 * n : Nat) : Int) := by
    have := otherOf_odd (n : Int)
    push_cast
    exact this
  obtain ⟨r1, m1, d1, f1⟩ := new
  have old := h P (fun r hr x hx y hy hp => by
    obtain ⟨r', hr', s⟩ := sub r hr
    exact around r' hr' x (s x hx) y (s y hy) hp) (fun e he hp => across e (by omega) hp)
  have toD : ∀ a, 0 ≤ a ∧ a < 2 * ((n + 1 : Nat) : Int) → P a → P d := fun a ha hp => by
    by_cases c : a < 2 * (n : Int)
    · exact old a d ⟨ha.1, c⟩ h0 hp
    · have : a = ((2 * n : Nat) : Int) ∨ a = ((2 * n + 1 : Nat) : Int) := by omega
      rcases this with rfl | rfl
      · exact around r1 m1 _ f1 _ d1 hp
      · have := across _ (by omega) hp
        rw [oo] at this
        exact around r1 m1 _ f1 _ d1 this
  intro a b ha hb hp
  have hd := toD a ha hp
  by_cases c : b < 2 * (n : Int)
  · exact old d b h0 ⟨hb.1, c⟩ hd
  · have p1 : P ((2 * n : Nat) : Int) := around r1 m1 _ d1 _ f1 hd
    have : b = ((2 * n : Nat) : Int) ∨ b = ((2 * n + 1 : Nat) : Int) := by omega
    rcases this with rfl | rfl
    · exact p1
    · have := across _ (by omega) p1
      rwa [oe] at this
theorem grown_hangs : ∀ {rows : List (List Int)} {n : Nat}, Grown rows n → n ≤ 12 → Hangs rows n := by
  intro rows n g
  have one : ∀ rows : List (List Int), Hangs rows 1 := fun rows P around across a b ha hb hp => by
    have o0 : otherOf 0 = 1 := by decide
    have o1 : otherOf 1 = 0 := by decide
    have : a = 0 ∨ a = 1 := by omega
    have q : b = 0 ∨ b = 1 := by omega
    rcases this with rfl | rfl <;> rcases q with rfl | rfl
    · exact hp
    · have := across 0 (by decide) hp; rwa [o0] at this
    · have := across 1 (by decide) hp; rwa [o1] at this
    · exact hp
  induction g with
  | two => exact fun _ => one _
  | loop => exact fun _ => one _
  | grow g h0 h1 ih =>
    rename_i rows n d
    intro h
    obtain ⟨r, hr, hd⟩ := (grown_rows g (by omega)).1.at ⟨h0, by omega⟩
    exact hangs_more (ih (by omega)) ⟨h0, h1⟩ (fun r hr => ⟨_, List.mem_append_left _ (List.mem_map_of_mem hr), fun x hx => putRow_sub hx⟩) ⟨_, List.mem_append_left _ (List.mem_map_of_mem hr), putRow_sub hd, putRow_new hd⟩
  | draw g h0 h1 k he ih =>
    rename_i rows n d e
    intro h
    obtain ⟨r, hr, hd⟩ := (grown_rows g (by omega)).1.at ⟨h0, by omega⟩
    exact hangs_more (ih (by omega)) ⟨h0, h1⟩ (fun r hr => ⟨_, List.mem_map_of_mem (List.mem_map_of_mem hr), fun x hx => putRow_sub (putRow_sub hx)⟩) ⟨_, List.mem_map_of_mem (List.mem_map_of_mem hr), putRow_sub (putRow_sub hd), putRow_sub (putRow_new hd)⟩
/-- called otherwise it hangs together still -/
theorem called_hangs {rows : List (List Int)} {n : Nat} {C : List Int} (h : Hangs rows n) (R : Rows rows (2 * n)) (N : Named n C []) : Hangs (calledWeb C rows) n := by
  intro P around across
  obtain ⟨hp, hl⟩ := N.whole
  have rowOf : ∀ r ∈ rows, ∃ r' ∈ calledWeb C rows, ∀ x, x ∈ r' ↔ x ∈ r.map (callBy C) := fun r hr => by
    refine ⟨turnRow (r.map (callBy C)), ?_, fun x => (turnRow_perm _).mem_iff⟩
    unfold calledWeb
    exact (sortRows_perm _).mem_iff.mpr (List.mem_map_of_mem (List.mem_map_of_mem hr))
  have named : ∀ d, 0 ≤ d ∧ d < 2 * (n : Int) → callBy C (otherOf d) = otherOf (callBy C d) ∧ 0 ≤ callBy C d ∧ callBy C d < 2 * (n : Int) := fun d hd => by
    have inr : callBy C d ∈ C := by
      have m : callBy C d ∈ (up C.length).map (callBy C) := List.mem_map_of_mem (up_mem.mpr (show 0 ≤ d ∧ d < ((C.length : Nat) : Int) by omega))
      rwa [map_callBy] at m
    have b := up_mem.mp (hp.mem_iff.mp inr)
    refine ⟨?_, b.1, by omega⟩
    obtain ⟨t, ht⟩ : ∃ t : Nat, (t : Int) = d / 2 := ⟨(d / 2).toNat, by omega⟩
    have tied := N.tied t (by omega)
    have : d = 2 * (t : Int) ∨ d = 2 * (t : Int) + 1 := by omega
    rcases this with rfl | rfl
    · rw [otherOf_even]
      have := tied
      push_cast at this
      exact this
    · rw [otherOf_odd]
      have := tied
      push_cast at this
      rw [this, RM.other_twice]
  have all := h (fun d => P (callBy C d)) (fun r hr x hx y hy hpx => by
    obtain ⟨r', hr', s⟩ := rowOf r hr
    exact around r' hr' _ ((s _).mpr (List.mem_map_of_mem hx)) _ ((s _).mpr (List.mem_map_of_mem hy)) hpx) (fun d hd hpd => by
    obtain ⟨e, b1, b2⟩ := named d hd
    show P (callBy C (otherOf d))
    rw [e]
    exact across _ ⟨b1, b2⟩ hpd)
  have back : ∀ a, 0 ≤ a ∧ a < 2 * (n : Int) → ∃ d, (0 ≤ d ∧ d < 2 * (n : Int)) ∧ callBy C d = a := fun a ha => by
    have m := hp.mem_iff.mpr (up_mem.mpr (show 0 ≤ a ∧ a < ((2 * n : Nat) : Int) by omega))
    have e := map_callBy C
    rw [← e] at m
    obtain ⟨d, hd, rfl⟩ := List.mem_map.mp m
    have := up_mem.mp hd
    exact ⟨d, by omega, rfl⟩
  intro a b ha hb hpa
  obtain ⟨x, hx, rfl⟩ := back a ha
  obtain ⟨y, hy, rfl⟩ := back b hb
  exact all x y hx hy hpa
end WF
/-! How places are come to: back by the darts they were come to by last, at the end. -/
namespace RB
open PySem PySem.Spec L2 DL WA RM WB WC RP RD RF WE
abbrev lenAt (rs : List Int) (p : Nat) : Int := itemAt rs (p / 2 : Nat)
/-- o: the places that were come to, the last ones first -/
structure Came (w : List (List Int)) (n : Nat) (rs : List Int) (one : Int) (σ τ : Far) (o : List Int) : Prop where
  once : o.Nodup
  mem : ∀ x, x ∈ o ↔ (σ x).isSome = true
  base : σ one = some 0
  back : ∀ x ∈ o, x ≠ one → ∃ (p : Nat) (v u : Int), p < 2 * n ∧ τ x = some (p : Int) ∧ thereAt w p = x ∧ σ x = some v ∧ σ (hereAt w p) = some u ∧ u + lenAt rs p ≤ v ∧ (u + lenAt rs p = v → [x, hereAt w p].Sublist o)
theorem sub_erase {x y t : Int} {o : List Int} (h : [x, y].Sublist o) (hx : x ≠ t) (hy : y ≠ t) : [x, y].Sublist (t :: o.erase t) := by
  have := h.erase t
  rw [List.erase_of_not_mem (by simp; exact ⟨fun z => hx z.symm, fun z => hy z.symm⟩)] at this
  exact this.cons t
theorem Came.set {w : List (List Int)} {n : Nat} {rs : List Int} {one : Int} {σ τ : Far} {o : List Int} (c : Came w n rs one σ τ o) (nn : ∀ x v, σ x = some v → 0 ≤ v) {p : Nat} (hp : p < 2 * n) (hl : 0 ≤ lenAt rs p) {f : Int} (hf : σ (hereAt w p) = some f)
    (less : ∀ g, σ (thereAt w p) = some g → f + lenAt rs p < g) : Came w n rs one (setAt σ (thereAt w p) (f + lenAt rs p)) (setAt τ (thereAt w p) p) (thereAt w p :: o.erase (thereAt w p)) := by
  have f0 := nn _ _ hf
  have notOne : thereAt w p ≠ one := fun z => by
    have := less 0 (by rw [z]; exact c.base)
    omega
  have apart : hereAt w p ≠ thereAt w p := fun z => by
    rw [z] at hf
    have := less f hf
    omega
  have hIn : hereAt w p ∈ o := (c.mem _).mpr (by rw [hf]; rfl)
  refine ⟨?_, fun x => ?_, ?_, fun x hx h1 => ?_⟩
  · exact List.nodup_cons.mpr ⟨fun z => (c.once.mem_erase_iff.mp z).1 rfl, c.once.erase _⟩
  · rw [List.mem_cons]
    unfold setAt
    by_cases e : x = thereAt w p
    · simp [e]
    · rw [if_neg e, ← c.mem x, c.once.mem_erase_iff]
      simp [e]
  · unfold setAt
    rw [if_neg fun z => notOne z.symm]
    exact c.base
  · by_cases e : x = thereAt w p
    · subst e
      refine ⟨p, f + lenAt rs p, f, hp, if_pos rfl, rfl, if_pos rfl, ?_, Int.le_refl _, fun _ => ?_⟩
      · unfold setAt; rw [if_neg apart]; exact hf
      · exact List.Sublist.cons_cons _ (List.singleton_sublist.mpr (c.once.mem_erase_iff.mpr ⟨apart, hIn⟩))
    · have hx' : x ∈ o := by
        rcases List.mem_cons.mp hx with z | z
        · exact absurd z e
        · exact (c.once.mem_erase_iff.mp z).2
      obtain ⟨q, v, u, b1, b2, b3, b4, b5, b6, b7⟩ := c.back x hx' h1
      by_cases ey : hereAt w q = thereAt w p
      · have := less u (by rw [← ey]; exact b5)
        refine ⟨q, v, f + lenAt rs p, b1, ?_, b3, ?_, ?_, by omega, fun z => by omega⟩
        · unfold setAt; rw [if_neg e]; exact b2
        · unfold setAt; rw [if_neg e]; exact b4
        · unfold setAt; rw [if_pos ey]
      · refine ⟨q, v, u, b1, ?_, b3, ?_, ?_, b6, fun z => sub_erase (b7 z) e ey⟩
        · unfold setAt; rw [if_neg e]; exact b2
        · unfold setAt; rw [if_neg e]; exact b4
        · unfold setAt; rw [if_neg ey]; exact b5
theorem Came.step {w : List (List Int)} {n : Nat} {rs : List Int} {one : Int} {s : St} {o : List Int} (c : Came w n rs one s.1 s.2.1 o) (nn : ∀ x v, s.1 x = some v → 0 ≤ v) {p : Nat} (hp : p < 2 * n) (hl : 0 ≤ lenAt rs p) :
    ∃ o', Came w n rs one (stepBy w rs s p).1 (stepBy w rs s p).2.1 o' := by
  unfold stepBy
  cases e : s.1 (hereAt w p) with
  | none => exact ⟨o, c⟩
  | some f =>
    simp only
    cases e2 : s.1 (thereAt w p) with
    | none => exact ⟨_, c.set nn hp hl e fun g hg => by rw [e2] at hg; cases hg⟩
    | some g =>
      by_cases d : f + itemAt rs (p / 2 : Nat) < g
      · simp only [d, decide_true, if_true]
        exact ⟨_, c.set nn hp hl e fun g' hg => by rw [e2] at hg; cases hg; exact d⟩
      · simp only [d, decide_false]
        exact ⟨o, c⟩
end RB
/-! A least way, back from its end. -/
namespace RB
open PySem PySem.Spec L2 DL WA RM WB WC RP RD RF WE WF
end RB
/-! The second family's webs hang together; a chain's two ends. -/
namespace RB
open PySem PySem.Spec L2 DL WA RM WB WC RP RD RF WE WF
end RB
/-! The third family's draws: the count of cells goes into what is drawn. -/
namespace RC
open PySem PySem.Spec L2 DL WA RM WB WC
def feed3 (cs : List Int) (a l : Int) : D := .lst [.flst (cs.map .int), .int a, .int l]
/-- a feed of which at most k cells were taken -/
def IsF (k : Nat) (d : D) : Prop := ∃ cs a l, d = feed3 cs a l ∧ 0 ≤ a ∧ a ≤ (k : Int)
@[simp] theorem feed3_imm (cs : List Int) (a l : Int) : imm (feed3 cs a l) = false := rfl
@[simp] theorem feed3_0 (cs : List Int) (a l : Int) : dSubs (feed3 cs a l) (.int 0) = some (.flst (cs.map .int)) := dSubs_seq (ds := [.flst (cs.map .int), .int a, .int l]) rfl (by decide) rfl (immL_ints _)
@[simp] theorem feed3_1 (cs : List Int) (a l : Int) : dSubs (feed3 cs a l) (.int 1) = some (.int a) := rfl
@[simp] theorem feed3_2 (cs : List Int) (a l : Int) : dSubs (feed3 cs a l) (.int 2) = some (.int l) := rfl
@[simp] theorem feed3_p1 (cs : List Int) (a l u : Int) : dStore (feed3 cs a l) (.int 1) (.int u) = some (feed3 cs u l) := rfl
@[simp] theorem feed3_p2 (cs : List Int) (a l u : Int) : dStore (feed3 cs a l) (.int 2) (.int u) = some (feed3 cs a u) := rfl
theorem IsF.imm {k : Nat} {d : D} (h : IsF k d) : imm d = false := by obtain ⟨_, _, _, rfl, _⟩ := h; rfl
theorem IsF.mono {k k' : Nat} {d : D} (h : IsF k d) (hk : k ≤ k') : IsF k' d := by
  obtain ⟨cs, a, l, e, h0, h1⟩ := h
  exact ⟨cs, a, l, e, h0, by omega⟩
theorem feed_ok (ns : List Int) : ∃ d, RC.d__law_feed [.flst (ns.map .int)] = some (d, [some (.flst (ns.map .int))]) ∧ IsF 0 d := by
  have e : cut (ns.map D.int) none (some 63) = (cut ns none (some 63)).map .int := by unfold cut; simp
  have l1 : dList [.flst ((cut ns none (some 63)).map .int)] = some (.lst ((cut ns none (some 63)).map .int)) := if_pos (immL_ints _)
  refine ⟨feed3 (cut ns none (some 63)) 0 0, ?_, ⟨_, _, _, rfl, Int.le_refl _, Int.le_refl _⟩⟩
  simp [RC.d__law_feed, RC.b__law_feed, denOf, e, l1, big_ok, feed3]
theorem draw_eq {k : Nat} {d : D} {m : Int} (h : IsF k d) (hk : k ≤ 100000) (h1 : 1 ≤ m) (h2 : m < 1073741824) :
    ∃ i d', RC.d__law_draw [d, .int m] = some (.int i, [some d', some (.int m)]) ∧ 0 ≤ i ∧ i < m ∧ IsF (k + 1) d' ∧ imm d' = false := by
  obtain ⟨cs, a, l, rfl, a0, a1⟩ := h
  have hm : m ≠ 0 := by omega
  have hm' : m.natAbs < 1073741824 := by omega
  suffices ∃ (x a' l' : Int), (a' = a ∨ a' = a + 1) ∧ RC.d__law_draw [feed3 cs a l, .int m] = some (.int (x.fmod m), [some (feed3 cs a' l'), some (.int m)]) by
    obtain ⟨x, a', l', ha, e⟩ := this
    exact ⟨_, _, e, Int.fmod_nonneg_of_pos x (by omega), Int.fmod_lt_of_pos x (by omega), ⟨_, _, _, rfl, by omega, by omega⟩, rfl⟩
  have m1 : dMul (.int 15485863) (.int a) = some (.int (15485863 * a)) := mul_l (by decide) (by decide)
  have p1 : ∀ c : Int, dPow (.int (c.fmod 1000003 + 15485863 * a + 101)) (.int 5) = some (.int ((c.fmod 1000003 + 15485863 * a + 101) ^ 5)) := fun c => by
    have := fmod_in c (m := 1000003) (by decide)
    exact pow_int ⟨by decide, by decide, by omega⟩
  have p10 : dPow (.int (15485863 * a + 101)) (.int 5) = some (.int ((15485863 * a + 101) ^ 5)) := pow_int ⟨by decide, by decide, by omega⟩
  have ha := fmod_in a (m := 97) (by decide)
  have m2 : ∀ y : Int, dMul (.int (y.fmod 2147483647)) (.int (a.fmod 97 + 48271)) = some (.int (y.fmod 2147483647 * (a.fmod 97 + 48271))) := fun y => mul_r (by omega) (by omega)
  have p2 : ∀ y : Int, dPow (.int (y.fmod 2147483647 * (a.fmod 97 + 48271) + a)) (.int 3) = some (.int ((y.fmod 2147483647 * (a.fmod 97 + 48271) + a) ^ 3)) := fun y => by
    have hy := fmod_in y (m := 2147483647) (by decide)
    have b : y.fmod 2147483647 * (a.fmod 97 + 48271) ≤ 2147483647 * 48368 := Int.mul_le_mul (by omega) (by omega) (by omega) (by decide)
    have b0 : 0 ≤ y.fmod 2147483647 * (a.fmod 97 + 48271) := Int.mul_nonneg (by omega) (by omega)
    exact pow_int ⟨by decide, by decide, by omega⟩
  by_cases hl : 0 < l
  · exact ⟨l, a, l.fdiv m, .inl rfl, by simp [RC.d__law_draw, RC.b__law_draw, denOf, hm, hm', hl]⟩
  · by_cases hc : cs = []
    · subst hc
      exact ⟨_, a + 1, l, .inr rfl, by simp [RC.d__law_draw, RC.b__law_draw, denOf, hm, hm', hl, m1, p10, m2, p2]; rfl⟩
    · obtain ⟨c, ec⟩ := cell_at a hc
      have hlen : (cs.length : Int) ≠ 0 := by have := List.length_pos_iff.mpr hc; omega
      have hpos : 0 < cs.length := List.length_pos_iff.mpr hc
      by_cases h4 : 1000000000000000000 ≤ c
      · by_cases h3 : a < cs.length
        · exact ⟨c, a + 1, c.fdiv m, .inr rfl, by simp [RC.d__law_draw, RC.b__law_draw, denOf, hm, hm', hl, hc, ec, h3, h4, hlen, hpos]⟩
        · exact ⟨_, a + 1, l, .inr rfl, by simp [RC.d__law_draw, RC.b__law_draw, denOf, hm, hm', hl, hc, ec, h3, h4, hlen, hpos, m1, p1, m2, p2]; rfl⟩
      · exact ⟨_, a + 1, l, .inr rfl, by simp [RC.d__law_draw, RC.b__law_draw, denOf, hm, hm', hl, hc, ec, h4, hlen, hpos, m1, p1, m2, p2]; rfl⟩
end RC
/-! The third family: what is behind a dart; rings; darts laid ahead. -/
namespace RC
open PySem PySem.Spec L2 DL WA RM WB WC RD RB
/-- rows that are only read: as a list's lists, or as a web -/
def Reads (x y : D) (emb : List Int → D) (rows : List (List Int)) : Prop := frzD x = some y ∧ ((emb = flR ∧ y = .flst (rows.map flR)) ∨ (emb = rowD ∧ y = webD rows))
theorem Reads.frz {x y : D} {emb : List Int → D} {rows : List (List Int)} (h : Reads x y emb rows) : frzD x = some y := h.1
theorem Reads.again {x y : D} {emb : List Int → D} {rows : List (List Int)} (h : Reads x y emb rows) : Reads y y emb rows := by
  refine ⟨?_, h.2⟩
  rcases h.2 with ⟨_, rfl⟩ | ⟨_, rfl⟩
  · simp [frz_fl]
  · have := frzL_id _ (imm_rows rows); simp [this]
theorem Reads.imm {x y : D} {emb : List Int → D} {rows : List (List Int)} (h : Reads x y emb rows) : imm y = true := by
  rcases h.2 with ⟨_, rfl⟩ | ⟨_, rfl⟩
  · exact immL_flR rows
  · exact imm_rows rows
theorem reads_web (w : List (List Int)) : Reads (webD w) (webD w) rowD w := by
  refine ⟨?_, .inr ⟨rfl, rfl⟩⟩
  have := frzL_id _ (imm_rows w); simp [this]
theorem rowsD_reads {x : D} {rows : List (List Int)} (h : RowsD x rows) : Reads x (.flst (rows.map flR)) flR rows := ⟨h.frz, .inl ⟨rfl, rfl⟩⟩
theorem filter_row {rows : List (List Int)} {n : Nat} (W : IsWeb rows n) {d : Int} (hd : d ∈ rows.flatten) : (rows.filter fun r => decide (d ∈ r))[0]? = some (rowOf rows d) := by
  obtain ⟨p, r, hp, hr, e1, e2⟩ := W.at hd
  have hm : rowOf rows d ∈ rows.filter fun r => decide (d ∈ r) := by rw [e2]; exact List.mem_filter.mpr ⟨List.mem_of_getElem? hp, by simpa using hr⟩
  obtain ⟨q, hq⟩ : ∃ q, (rows.filter fun r => decide (d ∈ r))[0]? = some q := ⟨_, List.getElem?_eq_getElem (List.length_pos_iff.mpr (List.ne_nil_of_mem hm))⟩
  rw [hq]
  obtain ⟨h1, h2⟩ := List.mem_filter.mp (List.mem_of_getElem? hq)
  obtain ⟨i, hi⟩ := List.mem_iff_getElem?.mp h1
  have := W.place hi (by simpa using h2)
  rw [e1] at this
  rw [← this, hp] at hi
  rw [e2]; exact hi.symm
section
variable {rows : List (List Int)} {n : Nat} (W : IsWeb rows n) {x y : D} {emb : List Int → D} (hx : Reads x y emb rows)
include W hx
theorem next_ok {d : Int} (h : d ∈ rows.flatten) : RC.d__law_next [x, .int d] = some (.int (nextOf rows d), [some y, some (.int d)]) := by
  have main : Ok (RC.d__law_next [x, .int d]) fun z => z = (.int (nextOf rows d), [some y, some (.int d)]) := by
    have fl := filter_row W h
    obtain ⟨p, r, hp, hr, e1, e2⟩ := W.at h
    rw [e2] at fl
    obtain ⟨hz, hc⟩ := hx
    have few := W.rows
    have lt := List.length_filter_le (fun r => decide (d ∈ r)) rows
    have nx : ∀ (q : D), seqOf q = some (intsD r) → dSubs q (.int (((r.idxOf d : Nat) + 1 : Int).fmod r.length)) = some (.int (nextOf rows d)) := fun q hq => by
      obtain ⟨e, _, h3, h2⟩ := subs_behind hq hr
      have ee : e = nextOf rows d := by unfold nextOf; rw [e2, h3]; rfl
      rw [h2, ee]
    have hl0 : r ≠ [] := List.ne_nil_of_mem hr
    have hf : dSubs (.lst ((rows.filter fun r => decide (d ∈ r)).map emb)) (.int 0) = some (emb r) := dSubs_seq rfl (by decide) (by rw [List.getElem?_map]; exact congrArg (Option.map emb) fl) (by rcases hc with ⟨rfl, _⟩ | ⟨rfl, _⟩ <;> exact immL_ints r)
    rcases hc with ⟨rfl, rfl⟩ | ⟨rfl, rfl⟩
    · have im := immL_flR rows
      have ix := index_l (x := flR r) (.inr rfl) hr
      have nx' := nx (flR r) rfl
      simp [RC.d__law_next, RC.b__law_next, denOf, hz, im, wipeF, ok_bind]
      refine ok_lcFil (emb := flR) flR (fun r => decide (d ∈ r)) (fun q hq => ?_) ?_
      · have rin := in_l (x := flR q) (d := d) (.inr rfl)
        exact ⟨_, by simp; rfl, _, by simp [rin]; rfl, fun _ => by simp [wipeF], fun _ => ⟨.var 2, _, _, by simp; rfl, by simp; rfl, by simp [wipeF]⟩⟩
      · simp [big_ok (n := (rows.filter fun r => decide (d ∈ r)).length) (by omega), hf, ap_index, ap_methR, ix, nx', hl0]
    · have im := imm_rows rows
      have ix := index_t hr
      have nx' := nx (rowD r) rfl
      simp [RC.d__law_next, RC.b__law_next, denOf, hz, im, wipeF, ok_bind]
      refine ok_lcFil (emb := rowD) rowD (fun r => decide (d ∈ r)) (fun q hq => ?_) ?_
      · have rin := in_row d q
        exact ⟨_, by simp; rfl, _, by simp [rin]; rfl, fun _ => by simp [wipeF], fun _ => ⟨.var 2, _, _, by simp; rfl, by simp [rowD]; rfl, by simp [wipeF]⟩⟩
      · simp only [rowD] at hf nx'
        simp [rowD, big_ok (n := (rows.filter fun r => decide (d ∈ r)).length) (by omega), hf, ap_index, ap_methR, ix, nx', hl0]
  obtain ⟨z, e, rfl⟩ := main
  exact e
def Ri3 (rows : List (List Int)) (y : D) (d : Int) (j : Nat) (k : Nat) (ρ : Fm) : Prop := ∃ i, i + 1 + k = j ∧ ρ = [some y, some (.int d), some (.lst (intsD (chain (along rows) d (i + 1)))), some (.int (it (along rows) d (i + 1)))]
theorem ring_ok {d : Int} (h : 0 ≤ d ∧ d < 2 * (n : Int)) : ∃ j, Ring rows n d j ∧ j ≤ 2 * n ∧ RC.d__law_ring [x, .int d] = some (.lst (intsD (chain (along rows) d j)), [some y, some (.int d)]) := by
  obtain ⟨j, R, hj⟩ := ring_of W h
  have hn := W.le
  refine ⟨j, R, hj, ?_⟩
  have main : Ok (RC.d__law_ring [x, .int d]) fun z => z = (.lst (intsD (chain (along rows) d j)), [some y, some (.int d)]) := by
    have oth := RM.other_ok d
    have g0 := next_ok W hx (W.mem.mpr (RM.other_in W h))
    have e1 : nextOf rows (otherOf d) = it (along rows) d 1 := rfl
    have c1 : intsD (chain (along rows) d (0 + 1)) = [.int d] := by simp [chain, it]
    rw [e1] at g0
    have imy := hx.imm
    have hxa := hx.again
    have first : ∀ a b c : Option D, (if imm x = true then if imm x = true then [some x, a, b, c] else [none, a, b, c] else List.set (if imm x = true then [some x, a, b, c] else [none, a, b, c]) 0 (some y)) = [some y, a, b, c] := fun a b c => by
      by_cases hi : imm x = true
      · have := frz_id x hi
        rw [hx.frz] at this
        cases this
        simp [hi]
      · simp [hi]
    simp [RC.d__law_ring, RC.b__law_ring, denOf, oth, g0, big_ok, ok_bind, first]
    refine ok_mono (ok_while (P := fun z => ∃ a, z = (.nx, [some y, some (.int d), some (.lst (intsD (chain (along rows) d j))), a])) (Ri3 rows y d j) ?_ (k := j - 1) (by unfold fuel; omega) ⟨0, by have := R.pos; omega, by rw [c1]⟩) ?_
    · rintro k ρ ⟨i, hij, rfl⟩
      by_cases hk : k = 0
      · have ej : it (along rows) d (i + 1) = d := by rw [show i + 1 = j by omega]; exact R.back
        simp [ej]
        rw [show i + 1 = j by omega]
      · have ej := ring_new R (i := i) (by omega)
        have ink := it_in W h (i + 1)
        have oth := RM.other_ok (it (along rows) d (i + 1))
        have g := next_ok W hxa (W.mem.mpr (RM.other_in W ink))
        have e2 : nextOf rows (otherOf (it (along rows) d (i + 1))) = it (along rows) d (i + 2) := rfl
        rw [e2] at g
        have ap := append_l (ds := intsD (chain (along rows) d (i + 1))) (y := .int (it (along rows) d (i + 1))) (big_lt (by simp [chain_len]; omega))
        simp [ej, ap, oth, g, imy]
        refine ⟨k - 1, by omega, i + 1, by omega, ?_⟩
        rw [chain_succ (along rows) d (i + 1)]
        simp
    · rintro z ⟨a, rfl⟩
      simp
  obtain ⟨z, e, rfl⟩ := main
  exact e
end
/-! ### a dart laid ahead of another one -/
end RC
/-! The third family: turns, webs called by them. -/
namespace RC
open PySem PySem.Spec L2 DL WA RM WB WC RP RD RB
/-! ### a row begun with its least -/
/-- a turn as it stands -/
def TurnD (t : D) (T : List Int) : Prop := t = .lst (intsD T) ∨ t = rowD T
theorem TurnD.seq {t : D} {T : List Int} (h : TurnD t T) : seqOf t = some (intsD T) := by rcases h with rfl | rfl <;> rfl
end RC
/-! The third family: drawn turns, drawn webs. -/
namespace RC
open PySem PySem.Spec L2 DL WA RM WB WC RP RD RB WF
def Tu3 (n k : Nat) (p : Nat) (ρ : Fm) : Prop := ∃ (f : D) (left T : List Int) (o4 o5 : Option D), ρ = [some f, some (.int n), some (.lst (intsD left)), some (.lst (intsD T)), o4, o5] ∧ IsF (k + 2 * p) f ∧ Named n (namesOf T) left ∧ left.length = n - p ∧ T.length = p
theorem turn_ok {d : D} {n k : Nat} (h : IsF k d) (hk : k ≤ 90000) (hn : n ≤ 12) : ∃ (T : List Int) (f : D), RC.d__law_turn [d, .int n] = some (rowD T, [some f, some (.int n)]) ∧ Named n (namesOf T) [] ∧ T.length = n ∧ IsF (k + 24) f := by
  have main : Ok (RC.d__law_turn [d, .int n]) fun z => ∃ (T : List Int) (f : D), z = (rowD T, [some f, some (.int n)]) ∧ Named n (namesOf T) [] ∧ T.length = n ∧ IsF (k + 24) f := by
    have im := h.imm
    have ok1 : okR (n : Int) = true := okR_of' (by omega) (by omega)
    have le1 : (n : Int) ≤ 16777216 := by omega
    simp [RC.d__law_turn, RC.b__law_turn, denOf, ok1, le1, ok_bind]
    refine ok_mono (ok_iota (n := n) (P := fun z => z.1 = .nx ∧ Tu3 n k n z.2) (Tu3 n k) ?_ (fun ρ h => ⟨rfl, h⟩) ⟨d, up n, [], none, none, by rw [iota_up]; rfl, h, named_begin n, by simp [up_length], rfl⟩) ?_
    · rintro p ρ hp ⟨f, left, T, o4, o5, rfl, hf, N, hl, hT⟩
      have imf := hf.imm
      obtain ⟨i5, f5, e5, p5, q5, hf5, im5⟩ := RC.draw_eq hf (m := (left.length : Int)) (by omega) (by omega) (by omega)
      obtain ⟨c5, g5, m5⟩ := pop_ints (ns := left) (i := i5) p5 (by omega) (by omega)
      obtain ⟨u, f6, e6, p6, q6, hf6, im6⟩ := RC.draw_eq hf5 (m := 2) (by omega) (by decide) (by decide)
      have := List.length_eraseIdx_of_lt (l := left) (i := i5.toNat) (by omega)
      have ap := append_l (ds := intsD T) (y := .int (2 * c5 + u)) (big_lt (by simp; omega))
      have m2 : dMul (.int 2) (.int c5) = some (.int (2 * c5)) := mul_l (by decide) (by decide)
      simp [e5, imf, im5, m5, e6, im6, ap, m2]
      exact ⟨f6, left.eraseIdx i5.toNat, T ++ [2 * c5 + u], _, _, by simp; exact ⟨rfl, rfl⟩, hf6.mono (by omega), turn_step N g5 (by omega), by omega, by simp [hT]⟩
    · rintro ⟨o, ρ⟩ ⟨ho, f, left, T, o4, o5, e, hf, N, hl, hT⟩
      have ho : o = .nx := ho
      subst ho
      have e : ρ = _ := e
      subst e
      have ln : left = [] := List.eq_nil_of_length_eq_zero (by omega)
      subst ln
      have imf := hf.imm
      simp [tuple_l, immL_ints]
      exact ⟨T, f, ⟨rfl, rfl⟩, N, hT, hf.mono (by omega)⟩
  obtain ⟨z, e, T, f, rfl, r⟩ := main
  exact ⟨T, f, e, r⟩
end RC
/-! Webs numbered from a dart: places entered one behind the other. -/
namespace RC
open PySem PySem.Spec L2 DL WA RM WB WC RP RD RB WF
/-- a row begun with a dart -/
def ringFrom (r : List Int) (d : Int) : List Int := r.drop (r.idxOf d) ++ r.take (r.idxOf d)
theorem ringFrom_perm (r : List Int) (d : Int) : (ringFrom r d).Perm r := by
  have := List.perm_append_comm (l₁ := r.drop (r.idxOf d)) (l₂ := r.take (r.idxOf d))
  rwa [List.take_append_drop] at this
theorem mem_names {x : Int} : ∀ {e : List Int}, x ∈ namesOf e ↔ x ∈ e ∨ otherOf x ∈ e
  | [] => by simp [namesOf]
  | a :: e => by
    have ih := mem_names (x := x) (e := e)
    have q : namesOf (a :: e) = a :: otherOf a :: namesOf e := rfl
    have t : x = otherOf a ↔ otherOf x = a := ⟨fun h => by rw [h, other_twice], fun h => by rw [← h, other_twice]⟩
    rw [q, List.mem_cons, List.mem_cons, ih, List.mem_cons, List.mem_cons, t]
    constructor
    · rintro (h | h | h | h)
      · exact .inl (.inl h)
      · exact .inr (.inl h)
      · exact .inl (.inr h)
      · exact .inr (.inr h)
    · rintro ((h | h) | (h | h))
      · exact .inl h
      · exact .inr (.inr (.inl h))
      · exact .inr (.inl h)
      · exact .inr (.inr (.inr h))
/-- a dart more, where its tie is not there -/
def addE (e : List Int) (x : Int) : List Int := if x ∈ e ∨ otherOf x ∈ e then e else e ++ [x]
def addAll (e l : List Int) : List Int := l.foldl addE e
/-! ### one place behind the other -/
structure St where
  ev : List Int
  en : List (List Int)
def wait (d0 : Int) (s : St) : List Int := d0 :: s.ev.map otherOf
def nextSt (rows : List (List Int)) (d0 : Int) (s : St) (i : Nat) : St := match (wait d0 s)[i]? with
  | none => s
  | some d => if rowOf rows d ∈ s.en then s else ⟨addAll s.ev (ringFrom (rowOf rows d) d), s.en ++ [rowOf rows d]⟩
def stAt (rows : List (List Int)) (d0 : Int) : Nat → St
  | 0 => ⟨[], []⟩
  | i + 1 => nextSt rows d0 (stAt rows d0 i) i
structure Good (rows : List (List Int)) (n : Nat) (d0 : Int) (s : St) (i : Nat) : Prop where
  rng : ∀ e ∈ s.ev, 0 ≤ e ∧ e < 2 * (n : Int)
  nd : (namesOf s.ev).Nodup
  row : ∀ e ∈ s.ev, rowOf rows e ∈ s.en
  web : ∀ r ∈ s.en, r ∈ rows
  all : ∀ d, 0 ≤ d ∧ d < 2 * (n : Int) → rowOf rows d ∈ s.en → d ∈ namesOf s.ev
  done : ∀ (j : Nat) (d : Int), j < i → (wait d0 s)[j]? = some d → rowOf rows d ∈ s.en
  le : i ≤ s.ev.length + 1
section
variable {rows : List (List Int)} {n : Nat} (W : IsWeb rows n) {d0 : Int} (h0 : 0 ≤ d0 ∧ d0 < 2 * (n : Int))
include W
theorem row_at {d : Int} {r : List Int} (hr : r ∈ rows) (hd : d ∈ r) : rowOf rows d = r := by
  obtain ⟨i, hi⟩ := List.mem_iff_getElem?.mp hr
  have := W.place hi hd
  unfold rowOf
  rw [this, hi]; rfl
theorem row_in {d : Int} (h : 0 ≤ d ∧ d < 2 * (n : Int)) : rowOf rows d ∈ rows ∧ d ∈ rowOf rows d := by
  obtain ⟨p, r, hp, hr, e1, e2⟩ := W.at (W.mem.mpr h)
  rw [e2]
  exact ⟨List.mem_of_getElem? hp, hr⟩
include h0
/-- so many places are come to -/
structure Ends (rows : List (List Int)) (n : Nat) (d0 : Int) (K : Nat) : Prop where
  fin : K = (stAt rows d0 K).ev.length + 1
  on : ∀ i, i < K → i < (stAt rows d0 i).ev.length + 1
  good : ∀ i, i ≤ K → Good rows n d0 (stAt rows d0 i) i
end
end RC
/-! The first ask off a rim: the program's, the law's own. -/
namespace RF
open PySem PySem.Spec L2 DL WA RM WB WC RP RD
def offR (ps : List Int) (a : Int × Int) : Bool := decide (a.1 ∉ ps) || decide (a.2 ∉ ps)
def firstOff (ps : List Int) (as : List (Int × Int)) : D := match as.findIdx? (offR ps) with
  | some k => .int (k : Nat)
  | none => .non
theorem off_first {ps : List Int} {as : List (Int × Int)} {k : Nat} {a : Int × Int} (h : as[k]? = some a) (ha : offR ps a = true) (hn : ∀ x ∈ as.take k, offR ps x = false) : firstOff ps as = .int (k : Nat) := by
  obtain ⟨lt, e⟩ := List.getElem?_eq_some_iff.mp h
  have : as.findIdx? (offR ps) = some k := by
    rw [List.findIdx?_eq_some_iff_getElem]
    refine ⟨lt, by rw [e]; exact ha, fun j hj => ?_⟩
    have := hn as[j] (List.mem_take_iff_getElem.mpr ⟨j, by omega, rfl⟩)
    simp [this]
  unfold firstOff
  rw [this]
theorem off_none {ps : List Int} {as : List (Int × Int)} (hn : ∀ x ∈ as, offR ps x = false) : firstOff ps as = .non := by
  have : as.findIdx? (offR ps) = none := by
    rw [List.findIdx?_eq_none_iff]
    exact fun x hx => hn x hx
  unfold firstOff
  rw [this]
theorem notIn_row (d : Int) (r : List Int) : dNotIn (.int d) (rowD r) = some (.bl (!decide (d ∈ r))) := by
  show ((((toV (.int d)).bind fun _ => inS (.int d) (intsD r)).orElse _)).map _ = _
  show ((inS (.int d) (intsD r)).orElse _).map _ = _
  rw [inS_ints]
  rfl
theorem take_next {α : Type} {l : List α} {k : Nat} {a : α} {P : α → Prop} (h : l[k]? = some a) (hp : ∀ x ∈ l.take k, P x) (ha : P a) : ∀ x ∈ l.take (k + 1), P x := by
  rw [List.take_add_one, h]
  intro x hx
  rcases List.mem_append.mp hx with z | z
  · exact hp x z
  · simp at z; exact z ▸ ha
def bDue : FS := fSeq (fFor (fRng1 (fCons (fCall dLen (fCons (fVar 1) (fNil))) (fNil))) (fgName 2) (fIfS (fOr (fTest (fOp dNotIn (fOp dSubs (fOp dSubs (fVar 1) (fVar 2)) (fC (.int 0))) (fVar 0))) (fTest (fOp dNotIn (fOp dSubs (fOp dSubs (fVar 1) (fVar 2)) (fC (.int 1))) (fVar 0)))) (fRet (fVar 2)) (fSkip))) (fRet (fC .non))
def DuI (y : D) (ps : List Int) (as : List (Int × Int)) (k : Nat) (ρ : Fm) : Prop := ∃ o2, ρ = [some y, some (asksD as), o2] ∧ ∀ x ∈ as.take k, offR ps x = false
def DuP (y : D) (ps : List Int) (as : List (Int × Int)) (x : Fl × Fm) : Prop := ∃ o2, x.2 = [some y, some (asksD as), o2] ∧ ((x.1 = .nx ∧ firstOff ps as = .non) ∨ x.1 = .ret (firstOff ps as))
theorem subs_ask {as : List (Int × Int)} {k : Nat} {a : Int × Int} (h : as[k]? = some a) : dSubs (asksD as) (.int k) = some (pairD a) := dSubs_seq rfl (by omega) (by rw [Int.toNat_natCast, List.getElem?_map, h]; rfl) (imm_pair a)
theorem due_ok {y : D} {ps : List Int} (hy : isInts y ps) {as : List (Int × Int)} (hl : as.length ≤ 1000) {due : Den} (hb : due = denOf 3 2 [2] bDue) : due [y, asksD as] = some (firstOff ps as, [some y, some (asksD as)]) := by
  subst hb
  have main : Ok (denOf 3 2 [2] bDue [y, asksD as]) fun x => x = (firstOff ps as, [some y, some (asksD as)]) := by
    have ok1 : okR (as.length : Int) = true := okR_of' (by omega) (by omega)
    simp [bDue, denOf, ok1, ok_bind]
    refine ok_mono (ok_iota (n := as.length) (P := DuP y ps as) (DuI y ps as) ?_ ?_ ⟨none, rfl, fun x h => by simp at h⟩) ?_
    · rintro p ρ hp ⟨o2, rfl, hn⟩
      have ha : as[p]? = some as[p] := List.getElem?_eq_getElem hp
      generalize as[p] = a at ha
      have s := subs_ask ha
      have n1 : dNotIn (.int a.1) y = some (.bl (!decide (a.1 ∈ ps))) := notIn_l hy
      have n2 : dNotIn (.int a.2) y = some (.bl (!decide (a.2 ∈ ps))) := notIn_l hy
      by_cases c1 : a.1 ∈ ps
      · by_cases c2 : a.2 ∈ ps
        · simp [s, pair_0, pair_1, n1, n2, c1, c2]
          exact ⟨_, rfl, take_next ha hn (by simp [offR, c1, c2])⟩
        · have := off_first ha (by simp [offR, c2]) hn
          simp [s, pair_0, pair_1, n1, n2, c1, c2]
          exact ⟨_, rfl, .inr (by rw [this])⟩
      · have := off_first ha (by simp [offR, c1]) hn
        simp [s, pair_0, pair_1, n1, c1]
        exact ⟨_, rfl, .inr (by rw [this])⟩
    · rintro ρ ⟨o2, rfl, hn⟩
      rw [List.take_length] at hn
      exact ⟨_, rfl, .inl ⟨rfl, off_none hn⟩⟩
    · rintro ⟨o, ρ⟩ ⟨o2, e, h⟩
      have e : ρ = _ := e
      subst e
      rcases h with ⟨ho, e1⟩ | ho
      · have ho : o = .nx := ho
        subst ho
        simp [e1]
      · have ho : o = _ := ho
        subst ho
        simp
  obtain ⟨x, e, rfl⟩ := main
  exact e
end RF
/-! Webs numbered from a dart by the program; likeness of rows. -/
namespace RC
open PySem PySem.Spec L2 DL WA RM WB WC RP RD RB WF
theorem least_perm {a b : List Int} (h : a.Perm b) (hb : b ≠ []) : least a = least b := by
  have ha : a ≠ [] := fun z => hb (by subst z; exact h.symm.eq_nil)
  have h1 := least_le (h.mem_iff.mpr (least_mem hb))
  have h2 := least_le (h.mem_iff.mp (least_mem ha))
  omega
end RC
/-! The turn by which darts are the even ones; numbered from a dart by the laws. -/
namespace RC
open PySem PySem.Spec L2 DL WA RM WB WC RP RD RB WF
theorem names_take (T : List Int) (p : Nat) (x : Int) (h : T[p]? = some x) : namesOf (T.take (p + 1)) = namesOf (T.take p) ++ [x, otherOf x] := by
  rw [List.take_add_one, h]
  exact names_add _ _
theorem idx_of {l : List Int} (nd : l.Nodup) {i : Nat} {x : Int} (h : l[i]? = some x) : l.idxOf x = i := by
  obtain ⟨lt, e⟩ := List.getElem?_eq_some_iff.mp h
  have := nd.idxOf_getElem i lt
  rwa [e] at this
end RC
/-! Numbered from a dart by the laws. -/
namespace RC
open PySem PySem.Spec L2 DL WA RM WB WC RP RD RB WF
theorem nice_row {r : List Int} (h : ∀ d ∈ r, d.natAbs < 10 ^ 12) : Nice 1 (r.length * 41) (rowD r) := by
  have := nice_tup (k := 0) (w := 40) (ds := intsD r) fun d hd => by
    obtain ⟨i, hi, rfl⟩ := List.mem_map.1 hd
    exact nice_int (h i hi)
  rwa [List.length_map] at this
end RC
/-! Rows begun otherwise; rows in order; webs whose darts are called otherwise. -/
namespace RC
open PySem PySem.Spec L2 DL WA RM WB WC RP RD RB WF
theorem nodup_on {α β : Type} {f : α → β} {l : List α} (inj : ∀ a ∈ l, ∀ b ∈ l, f a = f b → a = b) (nd : l.Nodup) : (l.map f).Nodup :=
  List.pairwise_map.mpr (List.Pairwise.imp_of_mem (fun ha hb ne e => ne (inj _ ha _ hb e)) nd)
/-- so many unlike numbers below so many are all of them -/
theorem seen_all {m : Nat} {l : List Int} (S : Seen m l) (h : l.length = m) : l.Perm (up m) := by
  refine (List.perm_ext_iff_of_nodup S.1 (up_nodup _)).mpr fun d => ⟨fun hd => up_mem.mpr (S.2 d hd), fun hd => ?_⟩
  refine Decidable.byContradiction fun n => ?_
  have := (S.add (up_mem.mp hd) n).len
  rw [List.length_append, h, List.length_singleton] at this
  omega
/-! ### begun otherwise -/
theorem ringFrom_at {p q : List Int} {x : Int} (h : x ∉ p) : ringFrom (p ++ x :: q) x = x :: q ++ p := by
  have i : (p ++ x :: q).idxOf x = p.length := by rw [List.idxOf_append, if_neg h]; simp
  unfold ringFrom
  rw [i, List.drop_left, List.take_left]
theorem ringFrom_head {r : List Int} {x : Int} (h : x ∈ r) : ∃ t, ringFrom r x = x :: t := by
  obtain ⟨p, q, rfl, n⟩ := List.eq_append_cons_of_mem h
  exact ⟨q ++ p, ringFrom_at n⟩
theorem ringFrom_turned {u v : List Int} {x : Int} (nd : (u ++ v).Nodup) (h : x ∈ u ++ v) : ringFrom (v ++ u) x = ringFrom (u ++ v) x := by
  obtain ⟨_, _, apart⟩ := List.nodup_append.mp nd
  by_cases c : x ∈ u
  · obtain ⟨p, q, rfl, n⟩ := List.eq_append_cons_of_mem c
    have nv : x ∉ v := fun z => apart x c x z rfl
    have e1 : v ++ (p ++ x :: q) = (v ++ p) ++ x :: q := by simp
    have e2 : (p ++ x :: q) ++ v = p ++ x :: (q ++ v) := by simp
    rw [e1, e2, ringFrom_at (by simp [nv, n]), ringFrom_at n]
    simp
  · have cv : x ∈ v := (List.mem_append.1 h).resolve_left c
    obtain ⟨p, q, rfl, n⟩ := List.eq_append_cons_of_mem cv
    have e1 : (p ++ x :: q) ++ u = p ++ x :: (q ++ u) := by simp
    have e2 : u ++ (p ++ x :: q) = (u ++ p) ++ x :: q := by simp
    rw [e1, e2, ringFrom_at n, ringFrom_at (by simp [c, n])]
    simp
theorem ringFrom_ring {r : List Int} {x y : Int} (nd : r.Nodup) (h : x ∈ r) : ringFrom (ringFrom r y) x = ringFrom r x := by
  have e : r.take (r.idxOf y) ++ r.drop (r.idxOf y) = r := List.take_append_drop _ _
  have := ringFrom_turned (u := r.take (r.idxOf y)) (v := r.drop (r.idxOf y)) (x := x) (by rw [e]; exact nd) (by rw [e]; exact h)
  rw [e] at this
  exact this
theorem turnRow_ring (r : List Int) : turnRow r = ringFrom r (least r) := rfl
theorem turn_of_ring {r : List Int} {y : Int} (nd : r.Nodup) (h : r ≠ []) : turnRow (ringFrom r y) = turnRow r := by
  rw [turnRow_ring, turnRow_ring, least_perm (ringFrom_perm r y) h, ringFrom_ring nd (least_mem h)]
theorem turn_turn {r : List Int} (nd : r.Nodup) (h : r ≠ []) : turnRow (turnRow r) = turnRow r := turn_of_ring nd h
theorem ringFrom_map {f : Int → Int} {r : List Int} {x : Int} (inj : ∀ a ∈ r, ∀ b ∈ r, f a = f b → a = b) (h : x ∈ r) : ringFrom (r.map f) (f x) = (ringFrom r x).map f := by
  obtain ⟨p, q, rfl, n⟩ := List.eq_append_cons_of_mem h
  have nf : f x ∉ p.map f := fun z => by
    obtain ⟨a, ha, e⟩ := List.mem_map.1 z
    have := inj a (List.mem_append_left _ ha) x (List.mem_append_right _ List.mem_cons_self) e
    exact n (this ▸ ha)
  rw [ringFrom_at n, List.map_append, List.map_cons, ringFrom_at nf]
  simp
/-! ### rows in order -/
theorem rowLe_le (a b : List Int) : rowLe a b = decide (a ≤ b) := by
  have t : ∀ r : List Int, toP (rowD r) = .tuple (r.map .int) := fun r => by
    show PyData.tuple (toPL (intsD r)) = _
    rw [toPL_map, List.map_map]; rfl
  have lt : PySem.W.dataLt (toP (rowD b)) (toP (rowD a)) = decide (b < a) := by
    rw [t, t, PySem.W.dataLt_tuple, ← PySem.W.dataLt_list]
    exact PySem.W.dataLt_ints b a
  show (!PySem.W.dataLt (toP (rowD b)) (toP (rowD a))) = _
  rw [lt]
  by_cases c : b < a
  · have : ¬ a ≤ b := fun z => List.not_lt.mpr z c
    simp [c, this]
  · have : a ≤ b := List.not_lt.mp c
    simp [c, this]
theorem sortRows_sorted (l : List (List Int)) : (sortRows l).Pairwise (fun a b => a ≤ b) := by
  have := List.pairwise_mergeSort (le := rowLe) (fun a b c h1 h2 => by
    rw [rowLe_le] at *
    simp only [decide_eq_true_iff] at *
    exact List.le_trans h1 h2) (fun a b => by
    rw [rowLe_le, rowLe_le, Bool.or_eq_true, decide_eq_true_eq, decide_eq_true_eq]
    exact List.le_total a b) l
  exact this.imp fun h => by rw [rowLe_le] at h; exact of_decide_eq_true h
/-! ### called otherwise -/
/-- a web whose darts are called otherwise -/
def calledF (f : Int → Int) (w : List (List Int)) : List (List Int) := sortRows ((w.map fun r => r.map f).map turnRow)
theorem called_F (C : List Int) (w : List (List Int)) : calledWeb C w = calledF (callBy C) w := rfl
/-- what may call darts: one for each, ties kept -/
structure Calls (n : Nat) (f : Int → Int) : Prop where
  rng : ∀ d, 0 ≤ d ∧ d < 2 * (n : Int) → 0 ≤ f d ∧ f d < 2 * (n : Int)
  inj : ∀ d e, (0 ≤ d ∧ d < 2 * (n : Int)) → (0 ≤ e ∧ e < 2 * (n : Int)) → f d = f e → d = e
  oth : ∀ d, 0 ≤ d ∧ d < 2 * (n : Int) → f (otherOf d) = otherOf (f d)
theorem named_calls {n : Nat} {C : List Int} (N : Named n C []) : Calls n (callBy C) := by
  obtain ⟨pm, len⟩ := N.whole
  have nd : C.Nodup := pm.nodup_iff.mpr (up_nodup _)
  have at_ : ∀ d, 0 ≤ d ∧ d < 2 * (n : Int) → C[d.toNat]? = some (callBy C d) := fun d hd => by
    have lt : d.toNat < C.length := by omega
    unfold callBy
    rw [List.getD_eq_getElem?_getD, List.getElem?_eq_getElem lt]; rfl
  have ev : ∀ t : Int, 0 ≤ t ∧ t < n → callBy C (2 * t + 1) = otherOf (callBy C (2 * t)) := fun t ht => by
    have := N.tied t.toNat (by omega)
    have e1 : ((2 * t.toNat + 1 : Nat) : Int) = 2 * t + 1 := by omega
    have e2 : ((2 * t.toNat : Nat) : Int) = 2 * t := by omega
    rwa [e1, e2] at this
  refine ⟨fun d hd => ?_, fun d e hd he h => ?_, fun d hd => ?_⟩
  · have := pm.mem_iff.mp (List.mem_of_getElem? (at_ d hd))
    have := up_mem.mp this
    omega
  · have a := at_ d hd
    have b := at_ e he
    rw [h] at a
    have i1 := idx_of nd a
    have i2 := idx_of nd b
    omega
  · by_cases c : d % 2 = 0
    · obtain ⟨t, rfl⟩ : ∃ t : Int, d = 2 * t := ⟨d / 2, by omega⟩
      rw [otherOf_even, ev t (by omega)]
    · obtain ⟨t, rfl⟩ : ∃ t : Int, d = 2 * t + 1 := ⟨d / 2, by omega⟩
      rw [otherOf_odd, ev t (by omega), other_twice]
theorem Calls.comp {n : Nat} {f g : Int → Int} (F : Calls n f) (G : Calls n g) : Calls n fun d => g (f d) :=
  ⟨fun d hd => G.rng _ (F.rng d hd), fun d e hd he h => F.inj d e hd he (G.inj _ _ (F.rng d hd) (F.rng e he) h), fun d hd => by rw [F.oth d hd, G.oth _ (F.rng d hd)]⟩
section
variable {w : List (List Int)} {n : Nat} (W : IsWeb w n) {f : Int → Int} (F : Calls n f)
include W
theorem in_rng {r : List Int} (hr : r ∈ w) {d : Int} (hd : d ∈ r) : 0 ≤ d ∧ d < 2 * (n : Int) := W.mem.mp (List.mem_flatten.mpr ⟨r, hr, hd⟩)
include F
theorem inj_on {r : List Int} (hr : r ∈ w) : ∀ a ∈ r, ∀ b ∈ r, f a = f b → a = b := fun a ha b hb => F.inj a b (in_rng W hr ha) (in_rng W hr hb)
theorem map_nodup {r : List Int} (hr : r ∈ w) : (r.map f).Nodup := by
  exact nodup_on (inj_on W F hr) (W.row_nodup hr)
theorem calledF_mem {q : List Int} : q ∈ calledF f w ↔ ∃ r ∈ w, turnRow (r.map f) = q := by
  unfold calledF
  rw [(sortRows_perm _).mem_iff]
  simp
theorem calledF_web : IsWeb (calledF f w) n := by
  refine ⟨fun q hq => ?_, ?_, W.pos, W.le⟩
  · obtain ⟨r, hr, rfl⟩ := (calledF_mem W F).mp hq
    exact turn_ne fun z => W.ne r hr (List.map_eq_nil_iff.mp z)
  · refine ((sortRows_perm _).flatten.trans (turn_flat _)).trans ?_
    have e : (w.map fun r => r.map f).flatten = w.flatten.map f := by rw [List.map_flatten]
    rw [e]
    have p1 : (w.flatten.map f).Perm ((up (2 * n)).map f) := W.perm.map f
    refine p1.trans (seen_all ⟨nodup_on (fun a ha b hb h => ?_) (up_nodup _), fun d hd => ?_⟩ (by simp [up_length]))
    · have := up_mem.mp ha
      have := up_mem.mp hb
      exact F.inj a b (by omega) (by omega) h
    · obtain ⟨a, ha, rfl⟩ := List.mem_map.1 hd
      have := up_mem.mp ha
      have := F.rng a (by omega)
      omega
end
end RC
/-! Numbering goes along with other names. -/
namespace RC
open PySem PySem.Spec L2 DL WA RM WB WC RP RD RB WF
section
variable {w : List (List Int)} {n : Nat} (W : IsWeb w n) {f : Int → Int} (F : Calls n f)
include W F
theorem called_row {d : Int} (hd : 0 ≤ d ∧ d < 2 * (n : Int)) : rowOf (calledF f w) (f d) = turnRow ((rowOf w d).map f) := by
  obtain ⟨r1, r2⟩ := row_in W hd
  refine row_at (calledF_web W F) ((calledF_mem W F).mpr ⟨_, r1, rfl⟩) ((turnRow_perm _).mem_iff.mpr (List.mem_map.2 ⟨d, r2, rfl⟩))
theorem called_ring {d : Int} (hd : 0 ≤ d ∧ d < 2 * (n : Int)) : ringFrom (rowOf (calledF f w) (f d)) (f d) = (ringFrom (rowOf w d) d).map f := by
  obtain ⟨r1, r2⟩ := row_in W hd
  rw [called_row W F hd, turnRow_ring, ringFrom_ring (map_nodup W F r1) (List.mem_map.2 ⟨d, r2, rfl⟩), ringFrom_map (inj_on W F r1) r2]
variable {d0 : Int} (h0 : 0 ≤ d0 ∧ d0 < 2 * (n : Int))
include h0
theorem called_hang (H : Hangs w n) : Hangs (calledF f w) n := by
  intro P rows oth a b ha hb pa
  have W' := calledF_web W F
  -- back along f
  have on : ∀ x, 0 ≤ x ∧ x < 2 * (n : Int) → ∃ y, (0 ≤ y ∧ y < 2 * (n : Int)) ∧ f y = x := fun x hx => by
    obtain ⟨q, hq, hxq⟩ := List.mem_flatten.mp (W'.mem.mpr hx)
    obtain ⟨r, hr, rfl⟩ := (calledF_mem W F).mp hq
    obtain ⟨y, hy, e⟩ := List.mem_map.1 ((turnRow_perm _).mem_iff.mp hxq)
    exact ⟨y, in_rng W hr hy, e⟩
  obtain ⟨a', ar, rfl⟩ := on a ha
  obtain ⟨b', br, rfl⟩ := on b hb
  refine H (fun d => P (f d)) (fun r hr x hx y hy h => ?_) (fun d hd h => ?_) a' b' ar br pa
  · exact rows _ ((calledF_mem W F).mpr ⟨r, hr, rfl⟩) (f x) ((turnRow_perm _).mem_iff.mpr (List.mem_map.2 ⟨x, hx, rfl⟩)) (f y) ((turnRow_perm _).mem_iff.mpr (List.mem_map.2 ⟨y, hy, rfl⟩)) h
  · show P (f (otherOf d))
    rw [F.oth d hd]
    exact oth _ (F.rng d hd) h
end
/-! ### the numbering itself -/
/-- what darts are called by numbering -/
def numF (E : List Int) (d : Int) : Int := (namesOf E).idxOf d
end RC
/-! What comes of a web by numbering; mirrored webs; likeness of webs; sorted numbers. -/
namespace RC
open PySem PySem.Spec L2 DL WA RM WB WC RP RD RB WF
/-! ### numbered -/
/-! ### mirrored -/
def mirr (w : List (List Int)) : List (List Int) := sortRows ((w.map List.reverse).map turnRow)
/-! ### likeness -/
/-! ### sorted numbers -/
end RC
/-! Webs renumbered, mirrored, numbered from all darts: the program. -/
namespace RC
open PySem PySem.Spec L2 DL WA RM WB WC RP RD RB WF
theorem frzL_tups (rows : List (List Int)) : frzL (rows.map rowD) = some (rows.map rowD) := frzL_id _ (imm_rows rows)
end RC
/-! Webs in order; what comes by numbering from all darts; mirrored twice. -/
namespace RC
open PySem PySem.Spec L2 DL WA RM WB WC RP RD RB WF
/-! ### webs in order -/
def wlt (a b : List (List Int)) : Bool := PySem.W.dataLt (toP (webD a)) (toP (webD b))
/-- the least -/
def lessW (a y : List (List Int)) : List (List Int) := if wlt y a = true then y else a
def lw (a : List (List Int)) (l : List (List (List Int))) : List (List Int) := l.foldl lessW a
/-! ### turned rows -/
section
variable {w : List (List Int)} {n : Nat}
/-- rows begun with their least, rising -/
def Norm (w : List (List Int)) : Prop := (∀ r ∈ w, turnRow r = r) ∧ w.Pairwise fun a b => a ≤ b
theorem sort_id {w : List (List Int)} (h : w.Pairwise fun a b => a ≤ b) : sortRows w = w :=
  (sortRows_perm w).eq_of_pairwise (fun a b _ _ h1 h2 => List.le_antisymm h1 h2) (sortRows_sorted w) h
theorem norm_begun {l : List (List Int)} (h : ∀ r ∈ l, r.Nodup ∧ r ≠ []) : Norm (sortRows (l.map turnRow)) := by
  refine ⟨fun r hr => ?_, sortRows_sorted _⟩
  obtain ⟨q, hq, rfl⟩ := List.mem_map.1 ((sortRows_perm _).mem_iff.mp hr)
  exact turn_turn (h q hq).1 (h q hq).2
theorem norm_called (W : IsWeb w n) {f : Int → Int} (F : Calls n f) : Norm (calledF f w) := norm_begun fun r hr => by
  obtain ⟨q, hq, rfl⟩ := List.mem_map.1 hr
  exact ⟨map_nodup W F hq, fun z => W.ne q hq (List.map_eq_nil_iff.mp z)⟩
/-! ### numbered from a dart -/
def Num (w : List (List Int)) (n : Nat) (d : Int) (v : List (List Int)) : Prop := ∃ K, Ends w n d K ∧ v = calledF (numF (stAt w d K).ev) w
open Classical in
noncomputable def numW (w : List (List Int)) (n : Nat) (d : Int) : List (List Int) := if h : ∃ v, Num w n d v then Classical.choose h else []
/-- every dart is called so -/
theorem calls_onto {f : Int → Int} (F : Calls n f) {e : Int} (he : 0 ≤ e ∧ e < 2 * (n : Int)) : ∃ d, (0 ≤ d ∧ d < 2 * (n : Int)) ∧ f d = e := by
  have rg : ∀ x, x ∈ up (2 * n) → 0 ≤ x ∧ x < 2 * (n : Int) := fun x hx => by
    have := up_mem.mp hx
    omega
  have S : Seen (2 * n) ((up (2 * n)).map f) := ⟨nodup_on (fun a ha b hb e => F.inj a b (rg a ha) (rg b hb) e) (up_nodup _), fun x hx => by
    obtain ⟨y, hy, rfl⟩ := List.mem_map.1 hx
    have := F.rng y (rg y hy)
    omega⟩
  have p := seen_all S (by rw [List.length_map, up_length])
  have m : e ∈ up (2 * n) := up_mem.mpr (by omega)
  obtain ⟨d, hd, e⟩ := List.mem_map.1 (p.mem_iff.mpr m)
  exact ⟨d, rg d hd, e⟩
noncomputable def nums (w : List (List Int)) (n : Nat) : List (List (List Int)) := (up (2 * n)).map (numW w n)
theorem called_hangF (W : IsWeb w n) {f : Int → Int} (F : Calls n f) (H : Hangs w n) : Hangs (calledF f w) n := called_hang W F (d0 := 0) (by have := W.pos; omega) H
/-! ### codes -/
noncomputable def codes (w : List (List Int)) (n : Nat) : List (List (List Int)) := nums w n ++ nums (mirr w) n
noncomputable def code (w : List (List Int)) (n : Nat) : List (List Int) := match codes w n with
  | [] => []
  | a :: l => lw a l
end
end RC
/-! Renumbered, numbered from all darts: the program. -/
namespace RC
open PySem PySem.Spec L2 DL WA RM WB WC RP RD RB WF
section
variable {w : List (List Int)} {n : Nat}
theorem ext_two (l : List Int) (a b : Int) (h : l.length ≤ 1000) : mExtend (.lst (intsD l)) [.lst [.int a, .int b]] = some (.lst (intsD (l ++ [a, b])), .non) := by
  show (if (intsD l).length + [D.int a, .int b].length ≤ sizeLine then some (D.lst (intsD l ++ [.int a, .int b]), D.non) else none) = _
  rw [if_pos (big_ok (by simp; omega))]
  simp
end
end RC
/-! What goes along with the next around leads from web to web. -/
namespace RC
open PySem PySem.Spec L2 DL WA RM WB WC RP RD RB WF
def nx (r : List Int) (x : Int) : Int := ((ringFrom r x)[1]?).getD x
theorem nx_ring {r : List Int} {x y : Int} (nd : r.Nodup) (h : x ∈ r) : nx (ringFrom r y) x = nx r x := by
  unfold nx
  rw [ringFrom_ring nd h]
theorem nx_at {r : List Int} {i : Nat} {x : Int} (nd : r.Nodup) (h : r[i]? = some x) : (i + 1 < r.length → r[i + 1]? = some (nx r x)) ∧ (¬ i + 1 < r.length → r[0]? = some (nx r x)) := by
  have lt := (List.getElem?_eq_some_iff.mp h).1
  have e : r = r.take i ++ x :: r.drop (i + 1) := by
    have := List.getElem?_eq_some_iff.mp h
    obtain ⟨_, g⟩ := this
    rw [← g, List.getElem_cons_drop, List.take_append_drop]
  have off : x ∉ r.take i := fun m => by
    rw [e] at nd
    exact (List.nodup_append.mp nd).2.2 x m x (by simp) rfl
  have rg : ringFrom r x = x :: r.drop (i + 1) ++ r.take i := by
    conv => lhs; rw [e]
    exact ringFrom_at off
  unfold nx
  rw [rg]
  constructor
  · intro l
    rw [List.cons_append, List.getElem?_cons_succ, List.getElem?_append_left (by rw [List.length_drop]; omega), List.getElem?_drop, Nat.add_zero, List.getElem?_eq_getElem l]
    rfl
  · intro l
    have d0 : r.drop (i + 1) = [] := List.drop_eq_nil_of_le (by omega)
    rw [d0, List.cons_append, List.nil_append, List.getElem?_cons_succ]
    by_cases c : i = 0
    · subst c
      rw [List.take_zero]
      exact h
    · rw [List.getElem?_take_of_lt (by omega), List.getElem?_eq_getElem (show 0 < r.length by omega)]
      rfl
/-- two rings with one head, gone along by one rule, are one -/
theorem cyc_one {f : Int → Int} {a b : List Int} (ha : a.Nodup) (hb : b.Nodup) (h0 : a[0]? = b[0]?) (na : a ≠ []) (nb : b ≠ [])
    (ca : ∀ i x, a[i]? = some x → (i + 1 < a.length → a[i + 1]? = some (f x)) ∧ (¬ i + 1 < a.length → a[0]? = some (f x)))
    (cb : ∀ i x, b[i]? = some x → (i + 1 < b.length → b[i + 1]? = some (f x)) ∧ (¬ i + 1 < b.length → b[0]? = some (f x))) : a = b := by
  have la := List.length_pos_iff.mpr na
  have lb := List.length_pos_iff.mpr nb
  have same : ∀ i, i < a.length → i < b.length → a[i]? = b[i]? := by
    intro i
    induction i with
    | zero => intro _ _; exact h0
    | succ i ih =>
      intro ia ib
      have e := ih (by omega) (by omega)
      have ga : a[i]? = some a[i] := List.getElem?_eq_getElem (by omega)
      rw [(ca i _ ga).1 ia, (cb i a[i] (by rw [← e]; exact ga)).1 ib]
  have len : ∀ {a b : List Int}, b.Nodup → a ≠ [] → a[0]? = b[0]? → (∀ i, i < a.length → i < b.length → a[i]? = b[i]?) → (∀ i x, a[i]? = some x → (i + 1 < a.length → a[i + 1]? = some (f x)) ∧ (¬ i + 1 < a.length → a[0]? = some (f x))) →
      (∀ i x, b[i]? = some x → (i + 1 < b.length → b[i + 1]? = some (f x)) ∧ (¬ i + 1 < b.length → b[0]? = some (f x))) → ¬ a.length < b.length := by
    intro a b hb na h0 same ca cb lt
    have la := List.length_pos_iff.mpr na
    have ga : a[a.length - 1]? = some a[a.length - 1] := List.getElem?_eq_getElem (by omega)
    have e := same (a.length - 1) (by omega) (by omega)
    have x := (ca _ _ ga).2 (by omega)
    have y := (cb (a.length - 1) a[a.length - 1] (by rw [← e]; exact ga)).1 (by omega)
    rw [show a.length - 1 + 1 = a.length by omega] at y
    rw [h0] at x
    have i0 := List.getElem?_eq_some_iff.mp x
    have i1 := List.getElem?_eq_some_iff.mp y
    obtain ⟨l0, g0⟩ := i0
    obtain ⟨l1, g1⟩ := i1
    have := List.pairwise_iff_getElem.mp (List.nodup_iff_pairwise_ne.mp hb) 0 a.length l0 l1 la
    exact this (g0.trans g1.symm)
  have l1 := len hb na h0 same ca cb
  have l2 := len ha nb h0.symm (fun i x y => (same i y x).symm) cb ca
  refine List.ext_getElem? fun i => ?_
  by_cases c : i < a.length
  · exact same i c (by omega)
  · rw [List.getElem?_eq_none (by omega), List.getElem?_eq_none (by omega)]
section
variable {w o : List (List Int)} {n : Nat}
theorem next_nx (W : IsWeb w n) {r : List Int} (hr : r ∈ w) {x : Int} (hx : x ∈ r) : nextOf w x = nx r x := by
  obtain ⟨p, hp⟩ := List.getElem?_of_mem hr
  obtain ⟨a, ha⟩ := List.getElem?_of_mem hx
  have n1 := W.next hp ha
  have n2 := nx_at (W.row_nodup hr) ha
  by_cases c : a + 1 < r.length
  · exact Option.some.inj ((n1.1 c).symm.trans (n2.1 c))
  · exact Option.some.inj ((n1.2 c).symm.trans (n2.2 c))
theorem next_called (W : IsWeb w n) {f : Int → Int} (F : Calls n f) {x : Int} (hx : 0 ≤ x ∧ x < 2 * (n : Int)) : nextOf (calledF f w) (f x) = f (nextOf w x) := by
  obtain ⟨r1, r2⟩ := row_in W hx
  obtain ⟨q1, q2⟩ := row_in (calledF_web W F) (F.rng x hx)
  rw [next_nx W r1 r2, next_nx (calledF_web W F) q1 q2]
  unfold nx
  rw [called_ring W F hx, List.getElem?_map]
  cases (ringFrom (rowOf w x) x)[1]? <;> rfl
theorem rows_nd (W : IsWeb w n) : w.Nodup := by
  refine List.nodup_iff_pairwise_ne.mpr ?_
  have p := (List.pairwise_flatten.mp W.nodup).2
  refine p.imp_of_mem fun {a b} ha hb h e => ?_
  obtain ⟨x, hx⟩ : ∃ x, x ∈ a := List.exists_mem_of_ne_nil _ (W.ne a ha)
  exact h x hx x (by rw [← e]; exact hx) rfl
/-- what goes along with the next around leads -/
theorem leads_of (W : IsWeb w n) (V : IsWeb o n) (N : Norm o) {g : Int → Int} (G : Calls n g) (along : ∀ x, 0 ≤ x ∧ x < 2 * (n : Int) → g (nextOf w x) = nextOf o (g x)) : calledF g w = o := by
  have row : ∀ x, 0 ≤ x ∧ x < 2 * (n : Int) → turnRow ((rowOf w x).map g) = rowOf o (g x) := fun x hx => by
    obtain ⟨r1, r2⟩ := row_in W hx
    obtain ⟨q1, q2⟩ := row_in V (G.rng x hx)
    have nr := W.row_nodup r1
    have nq := V.row_nodup q1
    have ndm := map_nodup W G r1
    have pr := ringFrom_perm (rowOf w x) x
    have pq := ringFrom_perm (rowOf o (g x)) (g x)
    have same : (ringFrom (rowOf w x) x).map g = ringFrom (rowOf o (g x)) (g x) := by
      obtain ⟨t, ht⟩ := ringFrom_head r2
      obtain ⟨t', ht'⟩ := ringFrom_head q2
      refine cyc_one (f := nextOf o) ?_ (pq.nodup_iff.mpr nq) ?_ ?_ ?_ ?_ ?_
      · exact (pr.map g).nodup_iff.mpr ndm
      · rw [ht, ht']; rfl
      · rw [ht]; simp
      · rw [ht']; simp
      · intro i y hy
        rw [List.getElem?_map] at hy
        obtain ⟨z, hz, rfl⟩ := Option.map_eq_some_iff.mp hy
        have mz := pr.mem_iff.mp (List.mem_of_getElem? hz)
        have rz := in_rng W r1 mz
        have st := nx_at (pr.nodup_iff.mpr nr) hz
        rw [nx_ring nr mz, ← next_nx W r1 mz] at st
        rw [List.length_map, List.getElem?_map, List.getElem?_map, ← along z rz]
        exact ⟨fun c => by rw [st.1 c]; rfl, fun c => by rw [st.2 c]; rfl⟩
      · intro i y hy
        have my := pq.mem_iff.mp (List.mem_of_getElem? hy)
        have st := nx_at (pq.nodup_iff.mpr nq) hy
        rwa [nx_ring nq my, ← next_nx V q1 my] at st
    have inj := inj_on W G r1
    have a : turnRow ((rowOf w x).map g) = turnRow ((ringFrom (rowOf w x) x).map g) := by
      rw [← ringFrom_map inj r2]
      exact (turn_of_ring ndm (fun z => W.ne _ r1 (List.map_eq_nil_iff.mp z))).symm
    rw [a, same, turn_of_ring nq (V.ne _ q1)]
    exact N.1 _ q1
  have mem : ∀ q, q ∈ calledF g w ↔ q ∈ o := fun q => by
    rw [calledF_mem W G]
    constructor
    · rintro ⟨r, hr, rfl⟩
      obtain ⟨x, hx⟩ : ∃ x, x ∈ r := List.exists_mem_of_ne_nil _ (W.ne r hr)
      have rx := in_rng W hr hx
      rw [← row_at W hr hx, row x rx]
      exact (row_in V (G.rng x rx)).1
    · intro hq
      obtain ⟨e, he⟩ : ∃ e, e ∈ q := List.exists_mem_of_ne_nil _ (V.ne q hq)
      obtain ⟨x, hx, rfl⟩ := calls_onto G (in_rng V hq he)
      exact ⟨rowOf w x, (row_in W hx).1, by rw [row x hx, row_at V hq he]⟩
  have pm : (calledF g w).Perm o := (List.perm_ext_iff_of_nodup (rows_nd (calledF_web W G)) (rows_nd V)).mpr mem
  have Nc := norm_called W G
  exact pm.eq_of_pairwise (fun a b _ _ h1 h2 => List.le_antisymm h1 h2) Nc.2 N.2
/-- a set of darts that next and other keep is all -/
theorem reach_all (W : IsWeb w n) (H : Hangs w n) {P : Int → Prop} (hn : ∀ x, 0 ≤ x ∧ x < 2 * (n : Int) → P x → P (nextOf w x)) (ho : ∀ x, 0 ≤ x ∧ x < 2 * (n : Int) → P x → P (otherOf x)) {a : Int} (ha : 0 ≤ a ∧ a < 2 * (n : Int)) (pa : P a) : ∀ b, 0 ≤ b ∧ b < 2 * (n : Int) → P b := by
  intro b hb
  refine H P (fun r hr x hx y hy px => ?_) ho a b ha hb pa
  obtain ⟨i, hi⟩ := List.getElem?_of_mem hx
  obtain ⟨j, hj⟩ := List.getElem?_of_mem hy
  have nr := W.row_nodup hr
  have step : ∀ i z, r[i]? = some z → P z → (i + 1 < r.length → ∃ u, r[i + 1]? = some u ∧ P u) ∧ (¬ i + 1 < r.length → ∃ u, r[0]? = some u ∧ P u) := fun i z hz pz => by
    have mz := List.mem_of_getElem? hz
    have s := nx_at nr hz
    rw [← next_nx W hr mz] at s
    have pn := hn z (in_rng W hr mz) pz
    exact ⟨fun c => ⟨_, s.1 c, pn⟩, fun c => ⟨_, s.2 c, pn⟩⟩
  have climb : ∀ k i z, r[i]? = some z → P z → i + k < r.length → ∃ u, r[i + k]? = some u ∧ P u := by
    intro k
    induction k with
    | zero => intro i z hz pz _; exact ⟨z, hz, pz⟩
    | succ k ih =>
      intro i z hz pz lt
      obtain ⟨u, hu, pu⟩ := ih i z hz pz (by omega)
      exact (step (i + k) u hu pu).1 (by omega)
  have li := (List.getElem?_eq_some_iff.mp hi).1
  have lj := (List.getElem?_eq_some_iff.mp hj).1
  obtain ⟨u, hu, pu⟩ := climb (r.length - 1 - i) i x hi px (by omega)
  rw [show i + (r.length - 1 - i) = r.length - 1 by omega] at hu
  obtain ⟨z, hz, pz⟩ := (step _ u hu pu).2 (by omega)
  obtain ⟨v, hv, pv⟩ := climb j 0 z hz pz (by omega)
  rw [Nat.zero_add, hj] at hv
  cases hv
  exact pv
end
end RC
/-! Codes know webs: callings undone, one code for two webs. -/
namespace RC
open PySem PySem.Spec L2 DL WA RM WB WC RP RD RB WF
/-- a web that hangs together, its rows begun with their least and rising -/
structure Wb (w : List (List Int)) (n : Nat) : Prop where
  web : IsWeb w n
  hangs : Hangs w n
  norm : Norm w
section
variable {w o : List (List Int)} {n m : Nat}
theorem calls_id (n : Nat) : Calls n fun d => d := ⟨fun _ h => h, fun _ _ _ _ e => e, fun _ _ => rfl⟩
theorem called_id (w : List (List Int)) : calledF (fun d => d) w = sortRows (w.map turnRow) := by
  have e : (w.map fun r => r.map fun d : Int => d) = w := by
    have : (fun r : List Int => r.map fun d : Int => d) = id := funext fun r => List.map_id r
    rw [this, List.map_id]
  unfold calledF
  rw [e]
theorem called_same (N : Norm w) : calledF (fun d => d) w = w := by
  rw [called_id]
  have e : w.map turnRow = w := by
    conv => rhs; rw [← List.map_id w]
    exact List.map_congr_left fun r hr => N.1 r hr
  rw [e, sort_id N.2]
theorem Wb.called (h : Wb w n) {f : Int → Int} (F : Calls n f) : Wb (calledF f w) n := ⟨calledF_web h.web F, called_hangF h.web F h.hangs, norm_called h.web F⟩
end
end RC
/-! Inside out: the faces as rows. -/
namespace RI
open PySem PySem.Spec L2 DL WA RM WB WC RP RD RB WF RC
abbrev io (w : List (List Int)) (n : Nat) : List (List Int) := facesOf w (2 * n)
section
variable {w o : List (List Int)} {n : Nat}
theorem chain_get {f : Int → Int} {d : Int} {k i : Nat} (h : i < k) : (chain f d k)[i]? = some (it f d i) := by
  unfold chain
  rw [List.getElem?_map, List.getElem?_range h]; rfl
/-- the next around inside out is the next along here -/
theorem io_next (W : IsWeb w n) {x : Int} (hx : 0 ≤ x ∧ x < 2 * (n : Int)) : nextOf (io w n) x = nextOf w (otherOf x) := by
  have V := faces_web W
  obtain ⟨r1, r2⟩ := row_in V hx
  obtain ⟨p, hp⟩ := List.getElem?_of_mem r1
  obtain ⟨a, ha⟩ := List.getElem?_of_mem r2
  have nx := V.next hp ha
  obtain ⟨d, j, hd, R, e⟩ := (faces_are W).rings _ r1
  rw [e] at ha nx
  have la := (List.getElem?_eq_some_iff.mp ha).1
  rw [chain_len] at la nx
  rw [chain_get la] at ha
  have ha := Option.some.inj ha
  show nextOf (io w n) x = along w x
  by_cases c : a + 1 < j
  · have := nx.1 c
    rw [chain_get c] at this
    have := Option.some.inj this
    rw [← this, ← ha]; rfl
  · have := nx.2 c
    rw [chain_get R.pos] at this
    have := Option.some.inj this
    have b := R.back
    rw [show j = a + 1 by omega] at b
    rw [← this, ← ha]
    exact b.symm
/-- rows with a least head, heads rising -/
def Hd (l : List (List Int)) (p : Nat) : Prop := (∀ r ∈ l, ∃ h t, r = h :: t ∧ h < (p : Int) ∧ ∀ x ∈ t, h ≤ x) ∧ l.Pairwise fun a b => ∃ x s y t, a = x :: s ∧ b = y :: t ∧ x < y
theorem faces_hd (W : IsWeb w n) : ∀ p, p ≤ 2 * n → Hd (facesTo w (2 * n) p).2 p
  | 0, _ => ⟨fun r h => absurd h List.not_mem_nil, List.Pairwise.nil⟩
  | p + 1, hp => by
    obtain ⟨h1, h2⟩ := faces_hd W p (by omega)
    obtain ⟨F, all⟩ := facesTo_ok W p (by omega)
    rw [facesTo_succ]
    generalize facesTo w (2 * n) p = st at F all h1 h2
    obtain ⟨seen, found⟩ := st
    have up1 : ∀ r ∈ found, ∃ h t, r = h :: t ∧ h < ((p + 1 : Nat) : Int) ∧ ∀ x ∈ t, h ≤ x := fun r hr => by
      obtain ⟨h, t, e, lt, le⟩ := h1 r hr
      exact ⟨h, t, e, by omega, le⟩
    by_cases hm : (p : Int) ∈ seen
    · rw [step_seen (st := (seen, found)) hm]
      exact ⟨up1, h2⟩
    · have hd : 0 ≤ (p : Int) ∧ (p : Int) < 2 * n := by omega
      obtain ⟨j, R, S2, e⟩ := step_ring W (found := found) F.seen F.closed hd hm
      rw [e]
      obtain ⟨i, rfl⟩ : ∃ i, j = i + 1 := ⟨j - 1, by have := R.pos; omega⟩
      have hc : chain (along w) p (i + 1) = (p : Int) :: (chain (along w) p (i + 1)).tail := by
        have g : (chain (along w) p (i + 1))[0]? = some (p : Int) := chain_get (by omega)
        cases e : chain (along w) p (i + 1) with
        | nil => rw [e] at g; cases g
        | cons a t => rw [e] at g; cases g; rfl
      have big : ∀ x ∈ chain (along w) p (i + 1), (p : Int) ≤ x := fun x hx => by
        obtain ⟨k, _, rfl⟩ := chain_mem.mp hx
        have rg := it_in W hd k
        refine Classical.byContradiction fun lt => ?_
        have s := all (it (along w) p k) (up_mem.mpr (by omega))
        exact (List.nodup_append.mp S2.1).2.2 _ s _ hx rfl
      refine ⟨fun r hr => ?_, ?_⟩
      · rcases List.mem_append.1 hr with z | z
        · exact up1 r z
        · rw [List.mem_singleton.1 z]
          exact ⟨p, _, hc, by omega, fun x hx => big x (List.mem_of_mem_tail hx)⟩
      · refine List.pairwise_append.mpr ⟨h2, List.pairwise_singleton _ _, fun a ha b hb => ?_⟩
        rw [List.mem_singleton.1 hb]
        obtain ⟨h, t, e, lt, _⟩ := h1 a ha
        exact ⟨h, t, p, _, e, hc, lt⟩
theorem least_head {h : Int} {t : List Int} (le : ∀ x ∈ t, h ≤ x) : least (h :: t) = h := by
  have a := least_le (ns := h :: t) (m := h) List.mem_cons_self
  rcases List.mem_cons.1 (least_mem (ns := h :: t) (by simp)) with z | z
  · exact z
  · have := le _ z
    omega
theorem io_norm (W : IsWeb w n) : Norm (io w n) := by
  obtain ⟨h1, h2⟩ := faces_hd W (2 * n) (Nat.le_refl _)
  refine ⟨fun r hr => ?_, h2.imp fun {a b} ⟨x, s, y, t, ea, eb, lt⟩ => ?_⟩
  · obtain ⟨h, t, rfl, _, le⟩ := h1 r hr
    unfold turnRow
    rw [least_head le, List.idxOf_cons_self]
    simp
  · rw [ea, eb]
    exact List.le_of_lt (List.cons_lt_cons_iff.mpr (.inl lt))
/-- webs whose darts go on alike are one -/
theorem web_one (a : IsWeb w n) (na : Norm w) (b : IsWeb o n) (nb : Norm o) (e : ∀ x, 0 ≤ x ∧ x < 2 * (n : Int) → nextOf w x = nextOf o x) : w = o := by
  have := leads_of a b nb (calls_id n) e
  rwa [called_same na] at this
theorem io_hangs (W : IsWeb w n) (H : Hangs w n) : Hangs (io w n) n := by
  intro P row oth a b ha hb pa
  refine reach_all W H (P := P) (fun x hx px => ?_) oth ha pa b hb
  have rx := other_in hx
  obtain ⟨r1, r2⟩ := row_in (faces_web W) rx
  have e := io_next W rx
  rw [other_twice] at e
  have mem : nextOf (io w n) (otherOf x) ∈ rowOf (io w n) (otherOf x) := by
    obtain ⟨p, hp⟩ := List.getElem?_of_mem r1
    obtain ⟨i, hi⟩ := List.getElem?_of_mem r2
    have nx := (faces_web W).next hp hi
    by_cases c : i + 1 < (rowOf (io w n) (otherOf x)).length
    · exact List.mem_of_getElem? (nx.1 c)
    · exact List.mem_of_getElem? (nx.2 c)
  rw [e] at mem
  exact row _ r1 _ r2 _ mem (oth x hx px)
theorem io_io (W : IsWeb w n) (N : Norm w) : io (io w n) n = w := by
  refine web_one (faces_web (faces_web W)) (io_norm (faces_web W)) W N fun x hx => ?_
  rw [io_next (faces_web W) hx, io_next W (other_in hx), other_twice]
theorem io_called (W : IsWeb w n) {f : Int → Int} (F : Calls n f) : calledF f (io w n) = io (calledF f w) n := by
  have V := calledF_web W F
  refine web_one (calledF_web (faces_web W) F) (norm_called (faces_web W) F) (faces_web V) (io_norm V) fun y hy => ?_
  obtain ⟨x, hx, rfl⟩ := calls_onto F hy
  rw [next_called (faces_web W) F hx, io_next W hx, io_next V hy, ← F.oth x hx, next_called W F (other_in hx)]
/-! ### mirrored -/
theorem nx_turn {r : List Int} (nd : r.Nodup) {x : Int} (hx : x ∈ r) : nx (turnRow r) x = nx r x := nx_ring nd hx
theorem next_row (W : IsWeb w n) {r : List Int} (hr : r ∈ w) {x : Int} (hx : x ∈ r) : nx r x ∈ r := by
  obtain ⟨i, hi⟩ := List.getElem?_of_mem hx
  have a := nx_at (W.row_nodup hr) hi
  by_cases c : i + 1 < r.length
  · exact List.mem_of_getElem? (a.1 c)
  · exact List.mem_of_getElem? (a.2 c)
end
end RI
/-! meanings that many laws share; printed by gen.py, then kept -/
namespace RE
open PySem L2 DL
end RE
/-! Ends of ties, ties across a side, darts of ties at places. -/
namespace RE
open PySem PySem.Spec L2 DL WA RM WB WC RP RD RB WE WF
theorem up_get' {n p : Nat} (h : p < n) : (up n)[p]? = some (p : Int) := by
  unfold up
  rw [List.getElem?_map, List.getElem?_range h]; rfl
theorem filter_up_len (q : Int → Bool) (p : Nat) : ((up p).filter q).length ≤ p := by
  have := List.length_filter_le q (up p)
  rwa [up_length] at this
section
variable {w : List (List Int)} {n : Nat}
/-! ### across -/
def EndsD (x : D) (w : List (List Int)) (n : Nat) : Prop := (x = endsL w n ∨ x = .flst (((up n).map (endsAt w)).map pairD))
theorem EndsD.get {x : D} (h : EndsD x w n) {t : Nat} (ht : t < n) : dSubs x (.int t) = some (pairD (endsAt w t)) := by
  rcases h with rfl | rfl <;> exact dSubs_seq rfl (by omega) (by rw [Int.toNat_natCast, List.getElem?_map, List.getElem?_map, up_get' ht]; rfl) rfl
theorem EndsD.len {x : D} (h : EndsD x w n) : dLen [x] = some (.int n) := by
  rcases h with rfl | rfl <;> simp [up_length]
/-! ### even -/
end
end RE
/-! Labels of places: alike just where ties join them. -/
namespace RE
open PySem PySem.Spec L2 DL WA RM WB WC RP RD RB WE WF
/-! ### sorted numbers -/
def leB (a b : Int) : Bool := decide (a ≤ b)
def srt (l : List Int) : List Int := l.mergeSort leB
theorem srt_perm (l : List Int) : (srt l).Perm l := List.mergeSort_perm l leB
theorem srt_rises (l : List Int) : (srt l).Pairwise (· ≤ ·) := by
  have := List.pairwise_mergeSort (le := leB) (fun a b c h1 h2 => by
    unfold leB at *
    simp only [decide_eq_true_iff] at *
    omega) (fun a b => by
    unfold leB
    rw [Bool.or_eq_true, decide_eq_true_iff, decide_eq_true_iff]
    omega) l
  exact this.imp fun h => of_decide_eq_true h
theorem sorted_ints (l : List Int) : dSorted [.lst (intsD l)] = some (.lst (intsD (srt l))) := by
  have each : ∀ d ∈ (intsD l).map toP, ∃ i : Int, d = .int i := fun d hd => by
    simp at hd
    obtain ⟨i, _, rfl⟩ := hd
    exact ⟨i, rfl⟩
  have s1 : sortable ((intsD l).map toP) = true := by
    unfold sortable
    rw [Bool.or_eq_true]
    refine .inr (List.all_eq_true.mpr fun d hd => ?_)
    obtain ⟨i, rfl⟩ := each d hd
    rfl
  have s2 : allAlike ((intsD l).map toP) = true := List.all_eq_true.mpr fun d hd => List.all_eq_true.mpr fun e he => by
    obtain ⟨i, rfl⟩ := each d hd
    obtain ⟨j, rfl⟩ := each e he
    rfl
  have s3 : ∀ d ∈ intsD l, (toP d).depth ≤ 32 := fun d hd => by
    obtain ⟨i, _, rfl⟩ := List.mem_map.1 hd
    exact Nat.zero_le _
  have s4 : (intsD l).mergeSort (PySem.W.dataLe false toP) = intsD (srt l) := by
    have le := PySem.W.dataLe_int (fun i : Int => i)
    exact (List.map_mergeSort (f := D.int) fun a _ b _ => (congrFun (congrFun le a) b).symm).symm
  show (if noDicL (intsD l) = true ∧ immL (intsD l) = true ∧ sortable ((intsD l).map toP) = true ∧ allAlike ((intsD l).map toP) = true ∧ (∀ d ∈ intsD l, (toP d).depth ≤ 32) then some (D.lst ((intsD l).mergeSort (PySem.W.dataLe false toP))) else none) = _
  rw [if_pos ⟨noDic_ints l, immL_ints l, s1, s2, s3⟩, s4]
/-! ### joined by ties -/
inductive Jn (E : Int → Int × Int) (ts : List Int) : Int → Int → Prop
  | refl (a : Int) : Jn E ts a a
  | symm {a b : Int} : Jn E ts a b → Jn E ts b a
  | trans {a b c : Int} : Jn E ts a b → Jn E ts b c → Jn E ts a c
  | tie {t : Int} : t ∈ ts → Jn E ts (E t).1 (E t).2
theorem Jn.mono {E : Int → Int × Int} {ts us : List Int} (h : ∀ t ∈ ts, t ∈ us) {a b : Int} (j : Jn E ts a b) : Jn E us a b := by
  induction j with
  | refl a => exact .refl a
  | symm _ ih => exact .symm ih
  | trans _ _ i1 i2 => exact .trans i1 i2
  | tie m => exact .tie (h _ m)
/-- what ties keep, joining keeps -/
theorem Jn.keeps {E : Int → Int × Int} {ts : List Int} {P : Int → Prop} (h : ∀ t ∈ ts, P (E t).1 ↔ P (E t).2) {a b : Int} (j : Jn E ts a b) : P a ↔ P b := by
  induction j with
  | refl a => exact Iff.rfl
  | symm _ ih => exact ih.symm
  | trans _ _ i1 i2 => exact i1.trans i2
  | tie m => exact h _ m
/-! ### the law's labels -/
section
variable {w : List (List Int)} {n : Nat}
/-- ties as a list or a tuple, how they come and how they are left -/
def TiesD (x y : D) (ts : List Int) : Prop := frzD x = some y ∧ (y = .flst (intsD ts) ∨ y = rowD ts)
theorem TiesD.seq {x y : D} {ts : List Int} (h : TiesD x y ts) : ∀ ρ : Fm, ∀ i, slot ρ i = some x → fSeqI (fFrz (fVar i)) ρ = some (intsD ts, ρ.set i (some y)) := by
  intro ρ i e
  rcases h with ⟨h, rfl | rfl⟩
  · simp [e, h]
  · simp [e, h, rowD]
theorem take_next {ts : List Int} {p : Nat} {t : Int} (h : ts[p]? = some t) : ts.take (p + 1) = ts.take p ++ [t] := by
  rw [List.take_add_one, h]; rfl
/-! ### the program's labels -/
end
end RE
/-! The side across which just some ties go: the program's search. -/
namespace RE
open PySem PySem.Spec L2 DL WA RM WB WC RP RD RB WE WF
def spI (w : List (List Int)) (d : Int) : Int := spotOf w d
theorem dart_tie {d : Int} (h : 0 ≤ d) : (d = 2 * d.fdiv 2 ∧ otherOf d = 2 * d.fdiv 2 + 1) ∨ (d = 2 * d.fdiv 2 + 1 ∧ otherOf d = 2 * d.fdiv 2) := by
  have e1 : d.fdiv 2 = d / 2 := Int.fdiv_eq_ediv_of_nonneg _ (by decide)
  rw [e1]
  have hd : d = 2 * (d / 2) ∨ d = 2 * (d / 2) + 1 := by omega
  rcases hd with z | z
  · left
    exact ⟨z, (congrArg otherOf z).trans (otherOf_even _)⟩
  · right
    exact ⟨z, (congrArg otherOf z).trans (otherOf_odd _)⟩
theorem tie_in {n : Nat} {d : Int} (h : 0 ≤ d ∧ d < 2 * (n : Int)) : 0 ≤ d.fdiv 2 ∧ d.fdiv 2 < n := by
  rw [Int.fdiv_eq_ediv_of_nonneg _ (by decide)]
  omega
theorem parted_dart {w : List (List Int)} {S : List Int} {d : Int} (h : 0 ≤ d) : parted S (endsAt w (d.fdiv 2)) = (decide (spI w d ∈ S) != decide (spI w (otherOf d) ∈ S)) := by
  have pe : parted S (endsAt w (d.fdiv 2)) = (decide (spI w (2 * d.fdiv 2) ∈ S) != decide (spI w (2 * d.fdiv 2 + 1) ∈ S)) := by
    unfold parted endsAt spI
    generalize decide (((spotOf w (2 * d.fdiv 2) : Nat) : Int) ∈ S) = a
    generalize decide (((spotOf w (2 * d.fdiv 2 + 1) : Nat) : Int) ∈ S) = b
    cases a <;> cases b <;> rfl
  rw [pe]
  rcases dart_tie h with ⟨a, b⟩ | ⟨a, b⟩
  · rw [b, ← a]
  · rw [b, ← a]
    generalize decide (spI w d ∈ S) = x
    generalize decide (spI w (2 * d.fdiv 2) ∈ S) = y
    cases x <;> cases y <;> rfl
def xb (a b : Bool) : Bool := a != b
/-- just these ties part it -/
def Parts (w : List (List Int)) (n : Nat) (ts S : List Int) : Prop := 0 ∉ S ∧ ∀ t, 0 ≤ t ∧ t < (n : Int) → parted S (endsAt w t) = decide (t ∈ ts)
theorem Parts.dart {w : List (List Int)} {n : Nat} {ts S : List Int} (h : Parts w n ts S) {d : Int} (hd : 0 ≤ d ∧ d < 2 * (n : Int)) : decide (spI w (otherOf d) ∈ S) = xb (decide (spI w d ∈ S)) (decide (d.fdiv 2 ∈ ts)) := by
  have a := parted_dart (w := w) (S := S) hd.1
  rw [h.2 _ (tie_in hd)] at a
  rw [a]
  generalize decide (spI w d ∈ S) = x
  generalize decide (spI w (otherOf d) ∈ S) = y
  cases x <;> cases y <;> rfl
def DoneS (w : List (List Int)) (ts wt : List Int) (c : Int → Bool) (d : Int) : Prop := spI w d ∈ wt ∧ spI w (otherOf d) ∈ wt ∧ c (spI w (otherOf d)) = (xb (c (spI w d)) (decide (d.fdiv 2 ∈ ts)))
structure Sd (w : List (List Int)) (n : Nat) (ts wt : List Int) (c : Int → Bool) : Prop where
  seen : Seen w.length wt
  zero : wt[0]? = some 0
  c0 : c 0 = false
  sound : ∀ S, Parts w n ts S → ∀ p ∈ wt, c p = decide (p ∈ S)
def updB (c : Int → Bool) (q : Int) (b : Bool) : Int → Bool := fun p => if p = q then b else c p
section
variable {w : List (List Int)} {n : Nat} {ts wt : List Int} {c : Int → Bool}
theorem sp_in (W : IsWeb w n) {d : Int} (h : 0 ≤ d ∧ d < 2 * (n : Int)) : 0 ≤ spI w d ∧ spI w d < w.length := by
  have := WD.spot_lt W h
  unfold spI
  omega
theorem Sd.add (W : IsWeb w n) (h : Sd w n ts wt c) {d : Int} (hd : 0 ≤ d ∧ d < 2 * (n : Int)) (hp : spI w d ∈ wt) (hq : spI w (otherOf d) ∉ wt) :
    Sd w n ts (wt ++ [spI w (otherOf d)]) (updB c (spI w (otherOf d)) (xb (c (spI w d)) (decide (d.fdiv 2 ∈ ts)))) where
  seen := h.seen.add (sp_in W (other_in hd)) hq
  zero := by
    rw [List.getElem?_append_left (by have := (List.getElem?_eq_some_iff.mp h.zero).1; exact this)]
    exact h.zero
  c0 := by
    unfold updB
    rw [if_neg fun z => hq (by rw [← z]; exact List.mem_of_getElem? h.zero)]
    exact h.c0
  sound S hS p hm := by
    unfold updB
    rcases List.mem_append.1 hm with m | m
    · rw [if_neg fun z => hq (by rw [← z]; exact m)]
      exact h.sound S hS p m
    · rw [List.mem_singleton.1 m, if_pos rfl, hS.dart hd, h.sound S hS _ hp]
theorem DoneS.more {e q : Int} {b : Bool} (h : DoneS w ts wt c e) (hq : q ∉ wt) : DoneS w ts (wt ++ [q]) (updB c q b) e := by
  obtain ⟨h1, h2, h3⟩ := h
  refine ⟨List.mem_append_left _ h1, List.mem_append_left _ h2, ?_⟩
  unfold updB
  rw [if_neg fun z => hq (by rw [← z]; exact h2), if_neg fun z => hq (by rw [← z]; exact h1)]
  exact h3
/-- all darts at the first i places waiting are done -/
def Upto (w : List (List Int)) (n : Nat) (ts wt : List Int) (c : Int → Bool) (i : Nat) : Prop := ∀ j < i, ∀ d, 0 ≤ d ∧ d < 2 * (n : Int) → wt[j]? = some (spI w d) → DoneS w ts wt c d
theorem Upto.more {i : Nat} {q : Int} {b : Bool} (h : Upto w n ts wt c i) (hi : i ≤ wt.length) (hq : q ∉ wt) : Upto w n ts (wt ++ [q]) (updB c q b) i := fun j hj d hd e => by
  rw [List.getElem?_append_left (by omega)] at e
  exact (h j hj d hd e).more hq
theorem Upto.all (W : IsWeb w n) (H : Hangs w n) (s : Sd w n ts wt c) (h : Upto w n ts wt c wt.length) : ∀ d, 0 ≤ d ∧ d < 2 * (n : Int) → DoneS w ts wt c d := by
  have don : ∀ d, 0 ≤ d ∧ d < 2 * (n : Int) → spI w d ∈ wt → DoneS w ts wt c d := fun d hd m => by
    obtain ⟨j, lt, e⟩ := List.getElem_of_mem m
    exact h j lt d hd (by rw [List.getElem?_eq_getElem lt, e])
  -- a dart at place 0
  have z0 : (0 : Int) ∈ wt := List.mem_of_getElem? s.zero
  have l0 := (s.seen.2 0 z0).2
  obtain ⟨r, hr⟩ : ∃ r, w[0]? = some r := ⟨_, List.getElem?_eq_getElem (by omega)⟩
  obtain ⟨a, ha⟩ : ∃ a, a ∈ r := List.exists_mem_of_ne_nil r (W.ne r (List.mem_of_getElem? hr))
  have ra : 0 ≤ a ∧ a < 2 * (n : Int) := W.mem.mp (List.mem_flatten.mpr ⟨r, List.mem_of_getElem? hr, ha⟩)
  have sa : spI w a = 0 := by
    unfold spI
    rw [W.place hr ha]; rfl
  intro d hd
  refine don d hd (H (fun x => spI w x ∈ wt) (fun r hr x hx y hy m => ?_) (fun x hx m => (don x hx m).2.1) a d ra hd (by
    show spI w a ∈ wt
    rw [sa]; exact z0))
  obtain ⟨p, hp⟩ := List.getElem?_of_mem hr
  have e : spI w x = spI w y := by
    unfold spI
    rw [W.place hp hx, W.place hp hy]
  show spI w y ∈ wt
  rw [← e]; exact m
/-! ### dicts by place -/
/-! ### the walk -/
theorem wait_get {wt : List Int} {i : Nat} {p : Int} (h : wt[i]? = some p) : dSubs (.lst (intsD wt)) (.int (i : Nat)) = some (.int p) := dSubs_seq (ds := intsD wt) rfl (by omega) (by rw [Int.toNat_natCast, List.getElem?_map, h]; rfl) rfl
theorem row_at (W : IsWeb w n) {p : Int} (h0 : 0 ≤ p) (h1 : p < w.length) : ∃ r, w[p.toNat]? = some r ∧ dSubs (webD w) (.int p) = some (rowD r) ∧ frzD (rowD r) = some (.tup (intsD r)) ∧ (∀ d ∈ r, spI w d = p ∧ 0 ≤ d ∧ d < 2 * (n : Int)) ∧ (∀ d, 0 ≤ d ∧ d < 2 * (n : Int) → spI w d = p → d ∈ r) := by
  obtain ⟨r, hr⟩ : ∃ r, w[p.toNat]? = some r := ⟨_, List.getElem?_eq_getElem (by omega)⟩
  refine ⟨r, hr, dSubs_seq rfl h0 (by rw [List.getElem?_map, hr]; rfl) (immL_ints r), frz_id _ (imm_row r), fun d hd => ⟨?_, W.mem.mp (List.mem_flatten.mpr ⟨r, List.mem_of_getElem? hr, hd⟩)⟩, fun d hd e => ?_⟩
  · unfold spI
    rw [W.place hr hd]
    omega
  · obtain ⟨q, s, hq, hs, e1, _⟩ := W.at (W.mem.mpr hd)
    unfold spI at e
    have : p.toNat = q := by omega
    rw [this, hq] at hr
    cases hr
    exact hs
theorem there_ok (W : IsWeb w n) {d : Int} (h : 0 ≤ d ∧ d < 2 * (n : Int)) : RM.d_place_of [webD w, .int (otherOf d)] = some (.int (spI w (otherOf d)), [some (webD w), some (.int (otherOf d))]) := RM.place_ok W (W.mem.mpr (other_in h))
end
end RE
/-! All sides, the law's search; whether places hang: program and law. -/
namespace RE
open PySem PySem.Spec L2 DL WA RM WB WC RP RD RB WE WF
/-! ### all sides -/
section
variable {w : List (List Int)} {n : Nat}
/-! ### the side -/
/-- ties, rising -/
def Ties (n : Nat) (ts : List Int) : Prop := ts = (up n).filter fun t => decide (t ∈ ts)
theorem Ties.rng {ts : List Int} (h : Ties n ts) : ∀ t ∈ ts, 0 ≤ t ∧ t < (n : Int) := fun t ht => by
  unfold Ties at h
  rw [h] at ht
  exact up_mem.mp (List.mem_filter.1 ht).1
theorem Ties.few {ts : List Int} (h : Ties n ts) : ts.length ≤ n := by
  unfold Ties at h
  rw [h]
  exact filter_up_len _ n
end
end RE
/-! Places that hang by ties within: program and law; some numbers by draws. -/
namespace RE
open PySem PySem.Spec L2 DL WA RM WB WC RP RD RB WE WF
theorem len_sub : ∀ {a b : List Int}, a.Nodup → (∀ x ∈ a, x ∈ b) → a.length ≤ b.length
  | [], b, _, _ => Nat.zero_le _
  | x :: a, b, nd, sub => by
    have m := sub x List.mem_cons_self
    have nd := List.nodup_cons.1 nd
    have := len_sub (b := b.erase x) nd.2 fun y hy => (List.mem_erase_of_ne fun z => nd.1 (by rw [← z]; exact hy)).mpr (sub y (List.mem_cons_of_mem _ hy))
    rw [List.length_erase_of_mem m] at this
    have := List.length_pos_of_mem m
    simp
    omega
/-- the ties within a side -/
def inner (w : List (List Int)) (n : Nat) (S : List Int) : List Int := (up n).filter fun t => decide ((endsAt w t).1 ∈ S) && decide ((endsAt w t).2 ∈ S)
theorem inner_mem {w : List (List Int)} {n : Nat} {S : List Int} {t : Int} : t ∈ inner w n S ↔ (0 ≤ t ∧ t < (n : Int)) ∧ (endsAt w t).1 ∈ S ∧ (endsAt w t).2 ∈ S := by
  unfold inner
  rw [List.mem_filter, up_mem, Bool.and_eq_true, decide_eq_true_iff, decide_eq_true_iff]
/-- the ends of a dart's tie are the places of both darts -/
theorem dart_ends {w : List (List Int)} {d : Int} (h : 0 ≤ d) : ((endsAt w (d.fdiv 2)).1 = spI w d ∧ (endsAt w (d.fdiv 2)).2 = spI w (otherOf d)) ∨ ((endsAt w (d.fdiv 2)).2 = spI w d ∧ (endsAt w (d.fdiv 2)).1 = spI w (otherOf d)) := by
  rcases dart_tie h with ⟨a, b⟩ | ⟨a, b⟩
  · left
    unfold endsAt
    rw [b, ← a]
    exact ⟨rfl, rfl⟩
  · right
    unfold endsAt
    rw [b, ← a]
    exact ⟨rfl, rfl⟩
theorem jn_dart {w : List (List Int)} {ts : List Int} {d : Int} (h : 0 ≤ d) (m : d.fdiv 2 ∈ ts) : Jn (endsAt w) ts (spI w d) (spI w (otherOf d)) := by
  have t := Jn.tie (E := endsAt w) m
  rcases dart_ends (w := w) h with ⟨a, b⟩ | ⟨a, b⟩
  · rwa [a, b] at t
  · rw [a, b] at t
    exact t.symm
structure Hg (w : List (List Int)) (n : Nat) (S : List Int) (q0 : Int) (wt : List Int) : Prop where
  nd : wt.Nodup
  sub : ∀ p ∈ wt, p ∈ S
  zero : q0 ∈ wt
  jn : ∀ p ∈ wt, Jn (endsAt w) (inner w n S) q0 p
section
variable {w : List (List Int)} {n : Nat} {S wt : List Int} {q0 : Int}
theorem tie_within {d : Int} (hd : 0 ≤ d ∧ d < 2 * (n : Int)) (h1 : spI w d ∈ S) (h2 : spI w (otherOf d) ∈ S) : d.fdiv 2 ∈ inner w n S := by
  refine inner_mem.mpr ⟨tie_in hd, ?_⟩
  rcases dart_ends (w := w) hd.1 with ⟨a, b⟩ | ⟨a, b⟩ <;> rw [a, b]
  · exact ⟨h1, h2⟩
  · exact ⟨h2, h1⟩
theorem Hg.add (h : Hg w n S q0 wt) {d : Int} (hd : 0 ≤ d ∧ d < 2 * (n : Int)) (hp : spI w d ∈ wt) (hq : spI w (otherOf d) ∈ S) (no : spI w (otherOf d) ∉ wt) : Hg w n S q0 (wt ++ [spI w (otherOf d)]) where
  nd := List.nodup_append.mpr ⟨h.nd, by simp, fun a ha b hb e => no (by rw [List.mem_singleton.1 hb] at e; rw [← e]; exact ha)⟩
  sub p m := (List.mem_append.1 m).elim (h.sub p) fun m => by rw [List.mem_singleton.1 m]; exact hq
  zero := List.mem_append_left _ h.zero
  jn p m := (List.mem_append.1 m).elim (h.jn p) fun m => by
    rw [List.mem_singleton.1 m]
    exact (h.jn _ hp).trans (jn_dart hd.1 (tie_within hd (h.sub _ hp) hq))
def UptoH (w : List (List Int)) (n : Nat) (S wt : List Int) (i : Nat) : Prop := ∀ j < i, ∀ d, 0 ≤ d ∧ d < 2 * (n : Int) → wt[j]? = some (spI w d) → spI w (otherOf d) ∈ S → spI w (otherOf d) ∈ wt
theorem UptoH.more {i : Nat} {q : Int} (h : UptoH w n S wt i) (hi : i ≤ wt.length) : UptoH w n S (wt ++ [q]) i := fun j hj d hd e m => by
  rw [List.getElem?_append_left (by omega)] at e
  exact List.mem_append_left _ (h j hj d hd e m)
theorem Hg.whole (h : Hg w n S q0 wt) (u : UptoH w n S wt wt.length) : ∀ p, p ∈ wt ↔ Jn (endsAt w) (inner w n S) q0 p := by
  have dn : ∀ d, 0 ≤ d ∧ d < 2 * (n : Int) → spI w d ∈ wt → spI w (otherOf d) ∈ S → spI w (otherOf d) ∈ wt := fun d hd m => by
    obtain ⟨j, lt, e⟩ := List.getElem_of_mem m
    exact u j lt d hd (by rw [List.getElem?_eq_getElem lt, e])
  intro p
  refine ⟨h.jn p, fun j => ?_⟩
  refine (j.keeps (P := fun x => x ∈ wt) fun t ht => ?_).mp h.zero
  obtain ⟨r, a, b⟩ := inner_mem.mp ht
  have o1 := otherOf_even t
  have o2 := otherOf_odd t
  constructor
  · intro m
    have := dn (2 * t) (by omega) m
    rw [o1] at this
    exact this b
  · intro m
    have := dn (2 * t + 1) (by omega) m
    rw [o2] at this
    exact this a
/-! ### the law's -/
/-! ### some numbers -/
end
end RE
/-! Reading: tuples of ranges. -/
namespace DL
open PySem PySem.Spec L2
section
variable {ρ : Fm} {fa : FE} {fr : FA}
@[simp] theorem ap_tupRg1 : fTupRg1 fa ρ = (fa ρ).bind fun x => (cont x.2 x.1).bind fun d => match d with
  | .int j => if stepOk 0 j 1 = true then some (.val (.tup (stepD 0 1 (stepN 0 j 1))), x.2) else none
  | _ => none := rfl
@[simp] theorem ap_tupRg2 : fTupRg2 fr ρ = (fr ρ).bind fun x => (conts x.2 x.1).bind fun ds => (dSt2 ds).map fun z => (.val (.tup (stepD z.1 1 z.2)), x.2) := rfl
end
end DL
/-! Reading: ranges by any step, lists emptied. -/
namespace DL
open PySem PySem.Spec L2
section
variable {ρ : Fm} {fr : FA}
@[simp] theorem ap_lstRg3 : fLstRg3 fr ρ = (fr ρ).bind fun x => (conts x.2 x.1).bind fun ds => (dSt ds).map fun z => (.val (.lst (stepD z.1 z.2.1 z.2.2)), x.2) := rfl
@[simp] theorem ap_lstRgC : fLstRgC fr ρ = (fr ρ).bind fun x => (conts x.2 x.1).bind fun ds => (dRg ds).map fun z => (.val (.lst (stepD z.1 z.2.1 z.2.2)), x.2) := rfl
@[simp] theorem ap_rng3 : fRng3 fr ρ = (fr ρ).bind fun x => (conts x.2 x.1).bind fun ds => (dRg ds).map fun z => (stepD z.1 z.2.1 z.2.2, x.2) := rfl
@[simp] theorem ap_tupRg3 : fTupRg3 fr ρ = (fr ρ).bind fun x => (conts x.2 x.1).bind fun ds => (dSt ds).map fun z => (.val (.tup (stepD z.1 z.2.1 z.2.2)), x.2) := rfl
@[simp] theorem mClear_l {ds : List D} : mClear (.lst ds) [] = some (.lst [], .non) := rfl
end
end DL
/-! Parts: the places that hang together, by the program. -/
namespace RH
open PySem PySem.Spec L2 DL WA RM WB WC RP RD RB WF RC RI
open RE (spI)
/-! ### hanging together -/
def Clo (w : List (List Int)) (n : Nat) (P : Int → Prop) : Prop := (∀ r ∈ w, ∀ x ∈ r, ∀ y ∈ r, P x → P y) ∧ ∀ x, 0 ≤ x ∧ x < 2 * (n : Int) → P x → P (otherOf x)
def Tog (w : List (List Int)) (n : Nat) (x y : Int) : Prop := ∀ P, Clo w n P → P x → P y
section
variable {w : List (List Int)} {n : Nat}
theorem Tog.refl (x : Int) : Tog w n x x := fun _ _ h => h
theorem Tog.trans {x y z : Int} (a : Tog w n x y) (b : Tog w n y z) : Tog w n x z := fun P c h => b P c (a P c h)
theorem Tog.symm {x y : Int} (a : Tog w n x y) : Tog w n y x := by
  refine a (fun z => Tog w n z x) ⟨fun r hr u hu v hv h P c pv => h P c (c.1 r hr v hv u hu pv), fun u hu h P c po => h P c ?_⟩ (Tog.refl x)
  have := c.2 (otherOf u) (other_in hu) po
  rwa [other_twice] at this
theorem Tog.row {r : List Int} (hr : r ∈ w) {x y : Int} (hx : x ∈ r) (hy : y ∈ r) : Tog w n x y := fun _ c h => c.1 r hr x hx y hy h
theorem Tog.other {x : Int} (hx : 0 ≤ x ∧ x < 2 * (n : Int)) : Tog w n x (otherOf x) := fun _ c h => c.2 x hx h
/-- one dart of each part -/
structure Reps (w : List (List Int)) (n : Nat) (L : List Int) : Prop where
  rng : ∀ x ∈ L, 0 ≤ x ∧ x < 2 * (n : Int)
  apart : L.Pairwise fun x y => ¬ Tog w n x y
  all : ∀ y, 0 ≤ y ∧ y < 2 * (n : Int) → ∃ x ∈ L, Tog w n x y
theorem reps_le {L M : List Int} (a : Reps w n L) (b : Reps w n M) : L.length ≤ M.length := by
  have ex : ∀ x : Int, ∃ y : Int, x ∈ L → y ∈ M ∧ Tog w n y x := fun x => by
    by_cases c : x ∈ L
    · obtain ⟨y, hy, t⟩ := b.all x (a.rng x c)
      exact ⟨y, fun _ => ⟨hy, t⟩⟩
    · exact ⟨0, fun h => absurd h c⟩
  obtain ⟨φ, hφ⟩ := Classical.axiomOfChoice ex
  have nd : (L.map φ).Nodup := List.pairwise_map.mpr (a.apart.imp_of_mem fun {x y} hx hy no e => no (((hφ x hx).2.symm).trans (e ▸ (hφ y hy).2)))
  have := RE.len_sub (b := M) nd fun z hz => by
    obtain ⟨x, hx, rfl⟩ := List.mem_map.1 hz
    exact (hφ x hx).1
  rwa [List.length_map] at this
theorem reps_len {L M : List Int} (a : Reps w n L) (b : Reps w n M) : L.length = M.length := Nat.le_antisymm (reps_le a b) (reps_le b a)
/-- what the next around keeps, whole rows keep -/
theorem row_of_next (W : IsWeb w n) {P : Int → Prop} (hn : ∀ x, 0 ≤ x ∧ x < 2 * (n : Int) → P x → P (nextOf w x)) : ∀ r ∈ w, ∀ x ∈ r, ∀ y ∈ r, P x → P y := by
  intro r hr x hx y hy px
  obtain ⟨i, hi⟩ := List.getElem?_of_mem hx
  obtain ⟨j, hj⟩ := List.getElem?_of_mem hy
  have nr := W.row_nodup hr
  have step : ∀ i z, r[i]? = some z → P z → (i + 1 < r.length → ∃ u, r[i + 1]? = some u ∧ P u) ∧ (¬ i + 1 < r.length → ∃ u, r[0]? = some u ∧ P u) := fun i z hz pz => by
    have mz := List.mem_of_getElem? hz
    have s := nx_at nr hz
    rw [← next_nx W hr mz] at s
    have pn := hn z (in_rng W hr mz) pz
    exact ⟨fun c => ⟨_, s.1 c, pn⟩, fun c => ⟨_, s.2 c, pn⟩⟩
  have climb : ∀ k i z, r[i]? = some z → P z → i + k < r.length → ∃ u, r[i + k]? = some u ∧ P u := by
    intro k
    induction k with
    | zero => intro i z hz pz _; exact ⟨z, hz, pz⟩
    | succ k ih =>
      intro i z hz pz lt
      obtain ⟨u, hu, pu⟩ := ih i z hz pz (by omega)
      exact (step (i + k) u hu pu).1 (by omega)
  have li := (List.getElem?_eq_some_iff.mp hi).1
  have lj := (List.getElem?_eq_some_iff.mp hj).1
  obtain ⟨u, hu, pu⟩ := climb (r.length - 1 - i) i x hi px (by omega)
  rw [show i + (r.length - 1 - i) = r.length - 1 by omega] at hu
  obtain ⟨z, hz, pz⟩ := (step _ u hu pu).2 (by omega)
  obtain ⟨v, hv, pv⟩ := climb j 0 z hz pz (by omega)
  rw [Nat.zero_add, hj] at hv
  cases hv
  exact pv
theorem next_same (W : IsWeb w n) {x : Int} (hx : 0 ≤ x ∧ x < 2 * (n : Int)) : ∃ r ∈ w, x ∈ r ∧ nextOf w x ∈ r := by
  obtain ⟨r1, r2⟩ := row_in W hx
  have := next_row W r1 r2
  rw [← next_nx W r1 r2] at this
  exact ⟨_, r1, r2, this⟩
/-! ### a part from a place -/
structure Pf (w : List (List Int)) (n : Nat) (x0 : Int) (wt : List Int) : Prop where
  nd : wt.Nodup
  rng : ∀ p ∈ wt, 0 ≤ p ∧ p < (w.length : Int)
  zero : spI w x0 ∈ wt
  tog : ∀ x, 0 ≤ x ∧ x < 2 * (n : Int) → spI w x ∈ wt → Tog w n x0 x
def Pu (w : List (List Int)) (n : Nat) (wt : List Int) (i : Nat) : Prop := ∀ j < i, ∀ d, 0 ≤ d ∧ d < 2 * (n : Int) → wt[j]? = some (spI w d) → spI w (otherOf d) ∈ wt
variable {wt : List Int} {x0 : Int}
theorem Pu.more {i : Nat} {q : Int} (h : Pu w n wt i) (hi : i ≤ wt.length) : Pu w n (wt ++ [q]) i := fun j hj d hd e => by
  rw [List.getElem?_append_left (by omega)] at e
  exact List.mem_append_left _ (h j hj d hd e)
theorem sp_in (W : IsWeb w n) {x : Int} (hx : 0 ≤ x ∧ x < 2 * (n : Int)) : 0 ≤ spI w x ∧ spI w x < (w.length : Int) := by
  obtain ⟨q, s, hq, hs, e1, _⟩ := W.at (W.mem.mpr hx)
  have := (List.getElem?_eq_some_iff.mp hq).1
  unfold spI
  omega
theorem sp_row (W : IsWeb w n) {x y : Int} (hx : 0 ≤ x ∧ x < 2 * (n : Int)) (hy : 0 ≤ y ∧ y < 2 * (n : Int)) (e : spI w x = spI w y) : Tog w n x y := by
  obtain ⟨a, b⟩ := sp_in W hx
  obtain ⟨r, hr, _, _, _, all⟩ := RE.row_at W a b
  exact Tog.row (List.mem_of_getElem? hr) (all x hx rfl) (all y hy e.symm)
theorem Pf.add (W : IsWeb w n) (h : Pf w n x0 wt) {d : Int} (hd : 0 ≤ d ∧ d < 2 * (n : Int)) (hp : spI w d ∈ wt) (no : spI w (otherOf d) ∉ wt) : Pf w n x0 (wt ++ [spI w (otherOf d)]) where
  nd := List.nodup_append.mpr ⟨h.nd, by simp, fun a ha b hb e => no (by rw [List.mem_singleton.1 hb] at e; rw [← e]; exact ha)⟩
  rng p m := (List.mem_append.1 m).elim (h.rng p) fun m => by rw [List.mem_singleton.1 m]; exact sp_in W (other_in hd)
  zero := List.mem_append_left _ h.zero
  tog x hx m := (List.mem_append.1 m).elim (h.tog x hx) fun m => (h.tog d hd hp).trans ((Tog.other hd).trans (sp_row W (other_in hd) hx (List.mem_singleton.1 m).symm))
theorem Pf.whole (W : IsWeb w n) (h : Pf w n x0 wt) (u : Pu w n wt wt.length) (h0 : 0 ≤ x0 ∧ x0 < 2 * (n : Int)) {x : Int} (hx : 0 ≤ x ∧ x < 2 * (n : Int)) : spI w x ∈ wt ↔ Tog w n x0 x := by
  refine ⟨h.tog x hx, fun t => t (fun z => spI w z ∈ wt) ⟨fun r hr a ha b hb m => ?_, fun a ha m => ?_⟩ h.zero⟩
  · obtain ⟨p, hp⟩ := List.getElem?_of_mem hr
    have e : spI w b = spI w a := by
      unfold spI
      rw [W.place hp ha, W.place hp hb]
    show spI w b ∈ wt
    rw [e]; exact m
  · obtain ⟨j, lt, e⟩ := List.getElem_of_mem m
    exact u j lt a ha (by rw [List.getElem?_eq_getElem lt, e])
def PfI (w : List (List Int)) (n : Nat) (x0 : Int) (k : Nat) (ρ : Fm) : Prop := ∃ wt i o4 o5, ρ = [some (webD w), some (.int (spI w x0)), some (.lst (intsD wt)), some (.int (i : Nat)), o4, o5] ∧ Pf w n x0 wt ∧ i ≤ wt.length ∧ i + k = w.length ∧ Pu w n wt i
def PfJ (w : List (List Int)) (n : Nat) (x0 p : Int) (i : Nat) (r : List Int) (a : Nat) (ρ : Fm) : Prop := ∃ wt o4 o5, ρ = [some (webD w), some (.int (spI w x0)), some (.lst (intsD wt)), some (.int (i : Nat)), o4, o5] ∧ Pf w n x0 wt ∧ wt[i]? = some p ∧ Pu w n wt i ∧ ∀ d ∈ r.take a, spI w (otherOf d) ∈ wt
theorem part_from_ok (W : IsWeb w n) (h0 : 0 ≤ x0 ∧ x0 < 2 * (n : Int)) : ∃ s : List Int, d_part_from [webD w, .int (spI w x0)] = some (rowD s, [some (webD w), some (.int (spI w x0))]) ∧ (∀ p ∈ s, 0 ≤ p ∧ p < (w.length : Int)) ∧ (s.Nodup ∧ s.Pairwise (· ≤ ·)) ∧
    ∀ x, 0 ≤ x ∧ x < 2 * (n : Int) → (spI w x ∈ s ↔ Tog w n x0 x) := by
  have lw := W.rows
  have few : ∀ {wt : List Int}, Pf w n x0 wt → wt.length ≤ w.length := fun h => by
    have := RE.len_sub h.nd fun p hp => up_mem.mpr (h.rng p hp)
    rwa [up_length] at this
  have main : Ok (d_part_from [webD w, .int (spI w x0)]) fun z => ∃ s : List Int, z = (rowD s, [some (webD w), some (.int (spI w x0))]) ∧ (∀ p ∈ s, 0 ≤ p ∧ p < (w.length : Int)) ∧ (s.Nodup ∧ s.Pairwise (· ≤ ·)) ∧ ∀ x, 0 ≤ x ∧ x < 2 * (n : Int) → (spI w x ∈ s ↔ Tog w n x0 x) := by
    simp [d_part_from, b_part_from, denOf, big_ok, ok_bind]
    refine ok_mono (ok_while (P := fun z => ∃ wt i o4 o5, z = (.nx, [some (webD w), some (.int (spI w x0)), some (.lst (intsD wt)), some (.int (i : Nat)), o4, o5]) ∧ Pf w n x0 wt ∧ Pu w n wt wt.length) (PfI w n x0) ?_ (k := w.length) (by unfold fuel; omega)
      ⟨[spI w x0], 0, none, none, rfl, ⟨by simp, fun p hp => by rw [List.mem_singleton.1 hp]; exact sp_in W h0, by simp, fun x hx m => sp_row W h0 hx (List.mem_singleton.1 m).symm⟩, by simp, by omega, fun j hj => absurd hj (by omega)⟩) ?_
    · rintro k ρ ⟨wt, i, o4, o5, rfl, hg, il, ik, upto⟩
      have wl := few hg
      by_cases hi : i = wt.length
      · have nl : ¬ ((i : Int) < wt.length) := by omega
        simp [nl]
        exact ⟨wt, ⟨rfl, i, rfl⟩, hg, by rw [← hi]; exact upto⟩
      · have yl : (i : Int) < wt.length := by omega
        obtain ⟨p, hp⟩ : ∃ p, wt[i]? = some p := ⟨_, List.getElem?_eq_getElem (by omega)⟩
        have pr := hg.rng p (List.mem_of_getElem? hp)
        obtain ⟨r, hr, sr, fr, dr, all⟩ := RE.row_at W pr.1 pr.2
        simp [yl, RE.wait_get hp, sr, fr, ok_bind]
        refine ok_mono (ok_at (P := fun z => z.1 = .nx ∧ PfJ w n x0 p i r r.length z.2) (emb := D.int) r (PfJ w n x0 p i r) ?_ (fun ρ h => ⟨rfl, h⟩) ⟨wt, o4, o5, rfl, hg, hp, upto, by simp⟩) ?_
        · rintro a d ρ ha ⟨wt, o4, o5, rfl, hg, hp, upto, dn⟩
          have wl := few hg
          have hd : d ∈ r := List.mem_of_getElem? ha
          have li := (List.getElem?_eq_some_iff.mp hp).1
          obtain ⟨sp, dg⟩ := dr d hd
          have pm : p ∈ wt := List.mem_of_getElem? hp
          have th := RE.there_ok W dg
          have ot := RM.other_ok d
          have ni := notIn_l (x := .lst (intsD wt)) (d := spI w (otherOf d)) (r := wt) (.inl rfl)
          have nx : r.take (a + 1) = r.take a ++ [d] := RE.take_next ha
          have more : ∀ wt' : List Int, (∀ x ∈ wt, x ∈ wt') → spI w (otherOf d) ∈ wt' → ∀ e ∈ r.take (a + 1), spI w (otherOf e) ∈ wt' := fun wt' sub new e he => by
            rw [nx] at he
            rcases List.mem_append.1 he with z | z
            · exact sub _ (dn e z)
            · rw [List.mem_singleton.1 z]
              exact new
          by_cases hw : spI w (otherOf d) ∈ wt
          · simp [ot, th, imm_rows, ni, hw]
            exact ⟨wt, some (.int d), _, by simp; rfl, hg, hp, upto, more wt (fun x hx => hx) hw⟩
          · have ap := append_l (ds := intsD wt) (y := .int (spI w (otherOf d))) (big_lt (by rw [List.length_map]; omega))
            simp [ot, th, imm_rows, ni, hw, ap]
            refine ⟨wt ++ [spI w (otherOf d)], some (.int d), _, by simp; rfl, hg.add W dg (by rw [sp]; exact pm) hw, ?_, upto.more (by omega), more _ (fun x hx => List.mem_append_left _ hx) (by simp)⟩
            rw [List.getElem?_append_left (by omega)]; exact hp
        · rintro ⟨o, ρ⟩ ⟨ho, wt, o4, o5, e, hg, hp, upto, dn⟩
          have ho : o = .nx := ho
          subst ho
          have e : ρ = _ := e
          subst e
          have lt := (List.getElem?_eq_some_iff.mp hp).1
          simp
          refine ⟨k - 1, by omega, wt, i + 1, o4, o5, by simp, hg, lt, by omega, fun j hj d hd ew => ?_⟩
          by_cases ej : j = i
          · subst ej
            rw [hp] at ew
            have ew := Option.some.inj ew
            exact dn d (by rw [List.take_length]; exact all d hd ew.symm)
          · exact upto j (by omega) d hd ew
    · rintro ⟨o, ρ⟩ ⟨wt, i, o4, o5, e, hg, upto⟩
      cases e
      have so := RE.sorted_ints wt
      have pm := RE.srt_perm wt
      have tp : dTuple [.lst (intsD (RE.srt wt))] = some (rowD (RE.srt wt)) := tuple_l (immL_ints _)
      have is := imm_row (RE.srt wt)
      have spec : (∀ p ∈ RE.srt wt, 0 ≤ p ∧ p < (w.length : Int)) ∧ ((RE.srt wt).Nodup ∧ (RE.srt wt).Pairwise (· ≤ ·)) ∧ ∀ x, 0 ≤ x ∧ x < 2 * (n : Int) → (spI w x ∈ RE.srt wt ↔ Tog w n x0 x) :=
        ⟨fun p hp => hg.rng p (pm.mem_iff.mp hp), ⟨pm.nodup_iff.mpr hg.nd, RE.srt_rises wt⟩, fun x hx => by rw [pm.mem_iff]; exact hg.whole W upto h0 hx⟩
      generalize RE.srt wt = s at so tp is spec
      simp [so, tp]
      exact ⟨s, rfl, fun p hp => spec.1 p hp, spec.2.1, fun x a b => spec.2.2 x ⟨a, b⟩⟩
  obtain ⟨z, e, s, rfl, h⟩ := main
  exact ⟨s, e, h⟩
end
end RH
/-! How many classes: of numbers that some pairs make alike; a pair more; a step with two exchanged. -/
namespace RK
open PySem L2 DL RM
/-- alike by these pairs -/
def Cl (E : Int → Int → Prop) (x y : Int) : Prop := ∀ P : Int → Prop, (∀ u v, E u v → (P u ↔ P v)) → (P x ↔ P y)
section
variable {E F : Int → Int → Prop}
theorem Cl.refl (x : Int) : Cl E x x := fun _ _ => Iff.rfl
theorem Cl.symm {x y : Int} (h : Cl E x y) : Cl E y x := fun P c => (h P c).symm
theorem Cl.trans {x y z : Int} (h : Cl E x y) (k : Cl E y z) : Cl E x z := fun P c => (h P c).trans (k P c)
theorem Cl.of {u v : Int} (h : E u v) : Cl E u v := fun P c => c u v h
theorem Cl.mono (h : ∀ u v, E u v → Cl F u v) {x y : Int} (k : Cl E x y) : Cl F x y := fun P c => k P fun u v e => h u v e P c
/-- one pair more -/
def plus (E : Int → Int → Prop) (a b : Int) : Int → Int → Prop := fun u v => E u v ∨ (u = a ∧ v = b)
theorem plus_of {a b : Int} {x y : Int} (h : Cl E x y) : Cl (plus E a b) x y := h.mono fun _ _ e => Cl.of (.inl e)
theorem plus_new {a b : Int} : Cl (plus E a b) a b := Cl.of (.inr ⟨rfl, rfl⟩)
theorem plus_iff {a b x y : Int} : Cl (plus E a b) x y ↔ Cl E x y ∨ (Cl E x a ∧ Cl E b y) ∨ (Cl E x b ∧ Cl E a y) := by
  constructor
  · intro h
    refine (h (fun z => Cl E x z ∨ (Cl E x a ∧ Cl E b z) ∨ (Cl E x b ∧ Cl E a z)) fun u v e => ?_).mp (.inl (Cl.refl x))
    rcases e with e | ⟨rfl, rfl⟩
    · have c := Cl.of e
      constructor
      · rintro (h | ⟨h, k⟩ | ⟨h, k⟩)
        · exact .inl (h.trans c)
        · exact .inr (.inl ⟨h, k.trans c⟩)
        · exact .inr (.inr ⟨h, k.trans c⟩)
      · rintro (h | ⟨h, k⟩ | ⟨h, k⟩)
        · exact .inl (h.trans c.symm)
        · exact .inr (.inl ⟨h, k.trans c.symm⟩)
        · exact .inr (.inr ⟨h, k.trans c.symm⟩)
    · constructor
      · rintro (h | ⟨h, k⟩ | ⟨h, k⟩)
        · exact .inr (.inl ⟨h, Cl.refl _⟩)
        · exact .inr (.inl ⟨h, Cl.refl _⟩)
        · exact .inl h
      · rintro (h | ⟨h, k⟩ | ⟨h, k⟩)
        · exact .inr (.inr ⟨h, Cl.refl _⟩)
        · exact .inl h
        · exact .inr (.inr ⟨h, Cl.refl _⟩)
  · rintro (h | ⟨h, k⟩ | ⟨h, k⟩)
    · exact plus_of h
    · exact ((plus_of h).trans plus_new).trans (plus_of k)
    · exact ((plus_of h).trans plus_new.symm).trans (plus_of k)
/-- one number of each class below m -/
structure Rep (E : Int → Int → Prop) (m : Nat) (L : List Int) : Prop where
  rng : ∀ x ∈ L, 0 ≤ x ∧ x < (m : Int)
  apart : L.Pairwise fun x y => ¬ Cl E x y
  all : ∀ y, 0 ≤ y ∧ y < (m : Int) → ∃ x ∈ L, Cl E x y
theorem rep_le {m : Nat} {L M : List Int} (a : Rep E m L) (b : Rep E m M) : L.length ≤ M.length := by
  have ex : ∀ x : Int, ∃ y : Int, x ∈ L → y ∈ M ∧ Cl E y x := fun x => by
    by_cases c : x ∈ L
    · obtain ⟨y, hy, t⟩ := b.all x (a.rng x c)
      exact ⟨y, fun _ => ⟨hy, t⟩⟩
    · exact ⟨0, fun h => absurd h c⟩
  obtain ⟨φ, hφ⟩ := Classical.axiomOfChoice ex
  have nd : (L.map φ).Nodup := List.pairwise_map.mpr (a.apart.imp_of_mem fun {x y} hx hy no e => no (((hφ x hx).2.symm).trans (e ▸ (hφ y hy).2)))
  have := RE.len_sub (b := M) nd fun z hz => by
    obtain ⟨x, hx, rfl⟩ := List.mem_map.1 hz
    exact (hφ x hx).1
  rwa [List.length_map] at this
theorem rep_len {m : Nat} {L M : List Int} (a : Rep E m L) (b : Rep E m M) : L.length = M.length := Nat.le_antisymm (rep_le a b) (rep_le b a)
theorem rep_some (E : Int → Int → Prop) : ∀ m : Nat, ∃ L, Rep E m L
  | 0 => ⟨[], by simp, List.Pairwise.nil, fun y hy => absurd hy (by omega)⟩
  | m + 1 => by
    obtain ⟨L, h⟩ := rep_some E m
    by_cases c : ∃ x ∈ L, Cl E x (m : Int)
    · refine ⟨L, fun x hx => by have := h.rng x hx; omega, h.apart, fun y hy => ?_⟩
      by_cases e : y = (m : Int)
      · rw [e]; exact c
      · exact h.all y (by omega)
    · refine ⟨L ++ [(m : Int)], fun x hx => ?_, List.pairwise_append.mpr ⟨h.apart, List.pairwise_singleton _ _, fun a ha b hb => ?_⟩, fun y hy => ?_⟩
      · rcases List.mem_append.1 hx with z | z
        · have := h.rng x z; omega
        · rw [List.mem_singleton.1 z]; omega
      · rw [List.mem_singleton.1 hb]
        exact fun z => c ⟨a, ha, z⟩
      · by_cases e : y = (m : Int)
        · exact ⟨m, by simp, by rw [e]; exact Cl.refl _⟩
        · obtain ⟨x, hx, t⟩ := h.all y (by omega)
          exact ⟨x, List.mem_append_left _ hx, t⟩
/-- so many classes -/
def Cnt (E : Int → Int → Prop) (m k : Nat) : Prop := ∃ L, Rep E m L ∧ L.length = k
theorem cnt_one {m k j : Nat} (a : Cnt E m k) (b : Cnt E m j) : k = j := by
  obtain ⟨L, h, rfl⟩ := a
  obtain ⟨M, g, rfl⟩ := b
  exact rep_len h g
theorem cnt_some (E : Int → Int → Prop) (m : Nat) : ∃ k, Cnt E m k := by
  obtain ⟨L, h⟩ := rep_some E m
  exact ⟨_, L, h, rfl⟩
theorem rep_congr {m : Nat} {L : List Int} (h : ∀ x y, (0 ≤ x ∧ x < (m : Int)) → (0 ≤ y ∧ y < (m : Int)) → (Cl E x y ↔ Cl F x y)) (a : Rep E m L) : Rep F m L where
  rng := a.rng
  apart := a.apart.imp_of_mem fun {x y} hx hy no t => no ((h x y (a.rng x hx) (a.rng y hy)).mpr t)
  all y hy := by
    obtain ⟨x, hx, t⟩ := a.all y hy
    exact ⟨x, hx, (h x y (a.rng x hx) hy).mp t⟩
theorem cnt_congr {m k : Nat} (h : ∀ x y, (0 ≤ x ∧ x < (m : Int)) → (0 ≤ y ∧ y < (m : Int)) → (Cl E x y ↔ Cl F x y)) (a : Cnt E m k) : Cnt F m k := by
  obtain ⟨L, r, e⟩ := a
  exact ⟨L, rep_congr h r, e⟩
theorem cnt_in {m k : Nat} {a b : Int} (h : Cnt E m k) (c : Cl E a b) : Cnt (plus E a b) m k := cnt_congr (fun x y _ _ => ⟨plus_of, fun t => by
  rcases plus_iff.mp t with t | ⟨s, t⟩ | ⟨s, t⟩
  · exact t
  · exact (s.trans c).trans t
  · exact (s.trans c.symm).trans t⟩) h
theorem cnt_out {m k : Nat} {a b : Int} (h : Cnt E m k) (ha : 0 ≤ a ∧ a < (m : Int)) (hb : 0 ≤ b ∧ b < (m : Int)) (c : ¬ Cl E a b) : ∃ j, k = j + 1 ∧ Cnt (plus E a b) m j := by
  obtain ⟨L, r, rfl⟩ := h
  obtain ⟨b', hb', tb⟩ := r.all b hb
  obtain ⟨l1, l2, e⟩ := List.append_of_mem hb'
  have ap := r.apart
  rw [e] at ap
  have sub : ∀ x, x ∈ l1 ++ l2 → x ∈ L ∧ ¬ Cl E x b := fun x hx => by
    refine ⟨by rw [e]; simp at hx ⊢; rcases hx with z | z <;> simp [z], fun t => ?_⟩
    have t := t.trans tb.symm
    rcases List.mem_append.1 hx with z | z
    · exact (List.pairwise_append.mp ap).2.2 x z b' (by simp) t
    · exact (List.pairwise_cons.1 (List.pairwise_append.mp ap).2.1).1 x z t.symm
  refine ⟨(l1 ++ l2).length, by rw [e]; simp; omega, l1 ++ l2, ⟨fun x hx => r.rng x (sub x hx).1, ?_, fun y hy => ?_⟩, rfl⟩
  · have p := List.pairwise_append.mp ap
    have base : (l1 ++ l2).Pairwise fun x y => ¬ Cl E x y := List.pairwise_append.mpr ⟨p.1, (List.pairwise_cons.1 p.2.1).2, fun x hx y hy => p.2.2 x hx y (List.mem_cons_of_mem _ hy)⟩
    refine base.imp_of_mem fun {x y} hx hy no t => ?_
    rcases plus_iff.mp t with t | ⟨s, t⟩ | ⟨s, t⟩
    · exact no t
    · exact (sub y hy).2 t.symm
    · exact (sub x hx).2 s
  · obtain ⟨x, hx, t⟩ := r.all y hy
    by_cases q : x = b'
    · subst q
      obtain ⟨a', ha', ta⟩ := r.all a ha
      have na : a' ≠ x := fun z => c (ta.symm.trans (z ▸ tb))
      refine ⟨a', ?_, ((plus_of ta).trans plus_new).trans (plus_of (tb.symm.trans t))⟩
      rw [e] at ha'
      simp at ha' ⊢
      rcases ha' with z | z | z
      · exact .inl z
      · exact absurd z na
      · exact .inr z
    · refine ⟨x, ?_, plus_of t⟩
      rw [e] at hx
      simp at hx ⊢
      rcases hx with z | z | z
      · exact .inl z
      · exact absurd z q
      · exact .inr z
end
/-! ### steps -/
structure Pm (f : Int → Int) (m : Nat) : Prop where
  rng : ∀ x, 0 ≤ x ∧ x < (m : Int) → 0 ≤ f x ∧ f x < (m : Int)
  inj : ∀ x y, (0 ≤ x ∧ x < (m : Int)) → (0 ≤ y ∧ y < (m : Int)) → f x = f y → x = y
/-- from each number to the next one -/
def St (f : Int → Int) (m : Nat) : Int → Int → Prop := fun u v => (0 ≤ u ∧ u < (m : Int)) ∧ v = f u
section
variable {f : Int → Int} {m : Nat}
theorem Pm.stay (p : Pm f m) {x : Int} (h : 0 ≤ x ∧ x < (m : Int)) : ∀ k, 0 ≤ it f x k ∧ it f x k < (m : Int)
  | 0 => h
  | k + 1 => p.rng _ (p.stay h k)
theorem Pm.down (p : Pm f m) {x y : Int} (hx : 0 ≤ x ∧ x < (m : Int)) (hy : 0 ≤ y ∧ y < (m : Int)) : ∀ k, it f x k = it f y k → x = y
  | 0, e => e
  | k + 1, e => p.down hx hy k (p.inj _ _ (p.stay hx k) (p.stay hy k) e)
theorem it_add (x : Int) (i : Nat) : ∀ k, it f x (k + i) = it f (it f x i) k
  | 0 => by rw [Nat.zero_add]; rfl
  | k + 1 => by
    rw [show k + 1 + i = (k + i) + 1 by omega]
    show f (it f x (k + i)) = f (it f (it f x i) k)
    rw [it_add x i k]
/-- it comes back -/
theorem Pm.back (p : Pm f m) {x : Int} (h : 0 ≤ x ∧ x < (m : Int)) : ∃ q, 1 ≤ q ∧ it f x q = x := by
  have : ¬ (chain f x (m + 1)).Nodup := fun nd => by
    have := RE.len_sub (b := up m) nd fun y hy => by
      obtain ⟨i, _, rfl⟩ := chain_mem.mp hy
      exact up_mem.mpr (p.stay h i)
    rw [chain_len, up_length] at this
    omega
  unfold chain at this
  have nd : ¬ ∀ i j, i < j → j < m + 1 → it f x i ≠ it f x j := fun g => this (by
    refine List.pairwise_map.mpr ?_
    refine (List.pairwise_lt_range (n := m + 1)).imp_of_mem fun {i j} hi hj lt => g i j lt (List.mem_range.mp hj))
  simp only [Classical.not_forall, Classical.not_not] at nd
  obtain ⟨i, j, lt, _, e⟩ := nd
  refine ⟨j - i, by omega, ?_⟩
  have e2 : it f x (i + (j - i)) = it f x i := by rw [show i + (j - i) = j by omega]; exact e.symm
  rw [it_add] at e2
  exact p.down (p.stay h _) h i e2
theorem st_it (p : Pm f m) {x : Int} (h : 0 ≤ x ∧ x < (m : Int)) : ∀ k, Cl (St f m) x (it f x k)
  | 0 => Cl.refl x
  | k + 1 => (st_it p h k).trans (Cl.of ⟨p.stay h k, rfl⟩)
theorem st_iff (p : Pm f m) {x y : Int} (h : 0 ≤ x ∧ x < (m : Int)) : Cl (St f m) x y ↔ ∃ i, it f x i = y := by
  refine ⟨fun c => (c (fun z => ∃ i, it f x i = z) fun u v e => ?_).mp ⟨0, rfl⟩, fun ⟨i, e⟩ => e ▸ st_it p h i⟩
  obtain ⟨hu, rfl⟩ := e
  constructor
  · rintro ⟨i, rfl⟩
    exact ⟨i + 1, rfl⟩
  · rintro ⟨i, e⟩
    cases i with
    | succ i => exact ⟨i, p.inj _ _ (p.stay h i) hu e⟩
    | zero =>
      obtain ⟨q, q1, eq⟩ := p.back h
      obtain ⟨r, rfl⟩ : ∃ r, q = r + 1 := ⟨q - 1, by omega⟩
      exact ⟨r, p.inj _ _ (p.stay h r) hu (eq.trans e)⟩
/-- the least of such numbers -/
theorem least_such {P : Nat → Prop} (h : ∃ k, P k) : ∃ k, P k ∧ ∀ j, j < k → ¬ P j := by
  obtain ⟨k, hk⟩ := h
  induction k using Nat.strongRecOn with
  | _ k ih =>
    by_cases c : ∃ j, j < k ∧ P j
    · obtain ⟨j, lt, pj⟩ := c
      exact ih j lt pj
    · exact ⟨k, hk, fun j lt pj => c ⟨j, lt, pj⟩⟩
def sw (a b x : Int) : Int := if x = a then b else if x = b then a else x
variable {a b : Int}
theorem sw_a : sw a b a = b := if_pos rfl
theorem sw_b : sw a b b = a := by
  unfold sw
  by_cases h : b = a
  · rw [if_pos h, h]
  · rw [if_neg h, if_pos rfl]
theorem sw_else {x : Int} (h : x ≠ a) (k : x ≠ b) : sw a b x = x := by unfold sw; rw [if_neg h, if_neg k]
theorem sw_cases (x : Int) : (x = a ∧ sw a b x = b) ∨ (x = b ∧ sw a b x = a) ∨ (x ≠ a ∧ x ≠ b ∧ sw a b x = x) := by
  by_cases h : x = a
  · subst h; exact .inl ⟨rfl, sw_a⟩
  · by_cases k : x = b
    · subst k; exact .inr (.inl ⟨rfl, sw_b⟩)
    · exact .inr (.inr ⟨h, k, sw_else h k⟩)
/-- apart here: one there -/
theorem swap_join (p : Pm f m) (ha : 0 ≤ a ∧ a < (m : Int)) (hb : 0 ≤ b ∧ b < (m : Int)) (h : ¬ Cl (St f m) a b) : Cl (St (fun x => f (sw a b x)) m) a b := by
  obtain ⟨q, ⟨q1, eq⟩, low⟩ := least_such (p.back hb)
  have ne : ∀ j, it f b j ≠ a := fun j e => h ((st_iff p hb).mpr ⟨j, e⟩).symm
  intro P inv
  have go : ∀ j, j + 1 ≤ q → (P a ↔ P (it f b (j + 1))) := by
    intro j
    induction j with
    | zero =>
      intro _
      refine inv a _ ⟨ha, ?_⟩
      show f b = f (sw a b a)
      rw [sw_a]
    | succ j ih =>
      intro le
      refine (ih (by omega)).trans (inv _ _ ⟨p.stay hb (j + 1), ?_⟩)
      have nb : it f b (j + 1) ≠ b := fun e => low (j + 1) (by omega) ⟨by omega, e⟩
      show f (it f b (j + 1)) = f (sw a b (it f b (j + 1)))
      rw [sw_else (ne _) nb]
  have := go (q - 1) (by omega)
  rw [show q - 1 + 1 = q by omega, eq] at this
  exact this
/-- one here: apart there -/
theorem swap_part (p : Pm f m) (ha : 0 ≤ a ∧ a < (m : Int)) (hb : 0 ≤ b ∧ b < (m : Int)) (ne : a ≠ b) (h : Cl (St f m) a b) : ¬ Cl (St (fun x => f (sw a b x)) m) a b := by
  obtain ⟨i, ei, low⟩ := least_such ((st_iff p ha).mp h)
  have i1 : 1 ≤ i := by
    cases i with
    | zero => exact absurd ei ne
    | succ i => omega
  intro c
  have na : ∀ j, 1 ≤ j → j ≤ i → it f a j ≠ a := fun j j1 ji e => by
    have e2 : it f a ((i - j) + j) = b := by rw [show i - j + j = i by omega]; exact ei
    rw [it_add, e] at e2
    exact low (i - j) (by omega) e2
  have inS := c (fun z => ∃ j, 1 ≤ j ∧ j ≤ i ∧ it f a j = z) fun u v e => by
    obtain ⟨hu, e⟩ := e
    have e : v = f (sw a b u) := e
    subst e
    constructor
    · rintro ⟨j, j1, ji, rfl⟩
      by_cases c : j = i
      · refine ⟨1, by omega, i1, ?_⟩
        rw [c, ei, sw_b]; rfl
      · refine ⟨j + 1, by omega, by omega, ?_⟩
        rw [sw_else (na j j1 ji) (low j (by omega))]; rfl
    · rintro ⟨j, j1, ji, e⟩
      obtain ⟨k, rfl⟩ : ∃ k, j = k + 1 := ⟨j - 1, by omega⟩
      have e : f (it f a k) = f (sw a b u) := e
      have rs : 0 ≤ sw a b u ∧ sw a b u < (m : Int) := by
        rcases sw_cases (a := a) (b := b) u with ⟨_, z⟩ | ⟨_, z⟩ | ⟨_, _, z⟩ <;> rw [z] <;> assumption
      have e := p.inj _ _ (p.stay ha k) rs e
      rcases sw_cases (a := a) (b := b) u with ⟨_, z⟩ | ⟨hz, z⟩ | ⟨z1, z2, z⟩
      · rw [z] at e
        exact absurd e (low k (by omega))
      · exact ⟨i, i1, Nat.le_refl _, by rw [hz]; exact ei⟩
      · rw [z] at e
        refine ⟨k, ?_, by omega, e⟩
        cases k with
        | zero => exact absurd e.symm z1
        | succ k => omega
  obtain ⟨j, j1, ji, e⟩ := inS.mpr ⟨i, i1, Nat.le_refl _, ei⟩
  exact na j j1 ji e
theorem swap_plus {x y : Int} (ha : 0 ≤ a ∧ a < (m : Int)) (hb : 0 ≤ b ∧ b < (m : Int)) : Cl (plus (St (fun x => f (sw a b x)) m) a b) x y ↔ Cl (plus (St f m) a b) x y := by
  constructor
  · refine Cl.mono fun u v e => ?_
    rcases e with ⟨hu, rfl⟩ | ⟨rfl, rfl⟩
    · rcases sw_cases (a := a) (b := b) u with ⟨rfl, z⟩ | ⟨rfl, z⟩ | ⟨_, _, z⟩
      · show Cl _ u (f (sw u b u))
        rw [z]; exact plus_new.trans (Cl.of (.inl ⟨hb, rfl⟩))
      · show Cl _ u (f (sw a u u))
        rw [z]; exact plus_new.symm.trans (Cl.of (.inl ⟨ha, rfl⟩))
      · show Cl _ u (f (sw a b u))
        rw [z]; exact Cl.of (.inl ⟨hu, rfl⟩)
    · exact plus_new
  · refine Cl.mono fun u v e => ?_
    rcases e with ⟨hu, rfl⟩ | ⟨rfl, rfl⟩
    · rcases sw_cases (a := a) (b := b) u with ⟨rfl, _⟩ | ⟨rfl, _⟩ | ⟨_, _, z⟩
      · refine plus_new.trans (Cl.of (.inl ⟨hb, ?_⟩))
        show f u = f (sw u b b)
        rw [sw_b]
      · refine plus_new.symm.trans (Cl.of (.inl ⟨ha, ?_⟩))
        show f u = f (sw a u a)
        rw [sw_a]
      · refine Cl.of (.inl ⟨hu, ?_⟩)
        show f u = f (sw a b u)
        rw [z]
    · exact plus_new
/-- one class more, or one less -/
theorem swap_cnt (p : Pm f m) (ha : 0 ≤ a ∧ a < (m : Int)) (hb : 0 ≤ b ∧ b < (m : Int)) (ne : a ≠ b) {k j : Nat} (h : Cnt (St f m) m k) (g : Cnt (St (fun x => f (sw a b x)) m) m j) : (Cl (St f m) a b ∧ j = k + 1) ∨ (¬ Cl (St f m) a b ∧ k = j + 1) := by
  by_cases c : Cl (St f m) a b
  · refine .inl ⟨c, ?_⟩
    have h1 := cnt_in h c
    obtain ⟨i, e, h2⟩ := cnt_out g ha hb (swap_part p ha hb ne c)
    have := cnt_one h1 (cnt_congr (fun x y _ _ => swap_plus ha hb) h2)
    omega
  · refine .inr ⟨c, ?_⟩
    obtain ⟨i, e, h1⟩ := cnt_out h ha hb c
    have h2 := cnt_in g (swap_join p ha hb c)
    have := cnt_one h1 (cnt_congr (fun x y _ _ => swap_plus ha hb) h2)
    omega
end
end RK
/-! Places, faces, ties and parts: the count of handles is a whole number. -/
namespace RK
open PySem PySem.Spec L2 DL WA RM WB WC RP RD RB WF RC RI RH
section
variable {w : List (List Int)} {n : Nat}
theorem row_uniq (W : IsWeb w n) {r s : List Int} (hr : r ∈ w) (hs : s ∈ w) {x : Int} (a : x ∈ r) (b : x ∈ s) : r = s := by
  obtain ⟨p, hp⟩ := List.getElem?_of_mem hr
  obtain ⟨q, hq⟩ := List.getElem?_of_mem hs
  have e1 := W.place hp a
  have e2 := W.place hq b
  rw [e1] at e2
  subst e2
  rw [hp] at hq
  exact Option.some.inj hq
theorem next_row' (W : IsWeb w n) {r : List Int} (hr : r ∈ w) {x : Int} (hx : 0 ≤ x ∧ x < 2 * (n : Int)) : x ∈ r ↔ nextOf w x ∈ r := by
  obtain ⟨s, hs, h1, h2⟩ := next_same W hx
  constructor
  · intro h
    rw [row_uniq W hr hs h h1]; exact h2
  · intro h
    rw [row_uniq W hr hs h h2]; exact h1
theorem web_cnt (W : IsWeb w n) : Cnt (St (nextOf w) (2 * n)) (2 * n) w.length := by
  have hd : ∀ r ∈ w, r.headD 0 ∈ r := fun r hr => by
    cases r with
    | nil => exact absurd rfl (W.ne [] hr)
    | cons a l => exact List.mem_cons_self
  refine ⟨w.map fun r => r.headD 0, ⟨fun x hx => ?_, ?_, fun y hy => ?_⟩, List.length_map _⟩
  · obtain ⟨r, hr, rfl⟩ := List.mem_map.1 hx
    have := in_rng W hr (hd r hr)
    omega
  · have nd : w.flatten.Nodup := W.perm.nodup_iff.mpr (up_nodup _)
    refine List.pairwise_map.mpr ((List.pairwise_flatten.mp nd).2.imp_of_mem fun {r s} hr hs dis t => ?_)
    have := (t (fun z => z ∈ r) fun u v e => by
      obtain ⟨hu, rfl⟩ := e
      exact next_row' W hr (by omega)).mp (hd r hr)
    exact dis _ this _ (hd s hs) rfl
  · obtain ⟨r1, r2⟩ := row_in W (d := y) (by omega)
    refine ⟨_, List.mem_map.mpr ⟨_, r1, rfl⟩, ?_⟩
    exact row_of_next W (P := fun z => Cl (St (nextOf w) (2 * n)) ((rowOf w y).headD 0) z) (fun x hx c => c.trans (Cl.of ⟨by omega, rfl⟩)) _ r1 _ (hd _ r1) _ r2 (Cl.refl _)
/-- the other dart, of the first ties alone -/
def oth (k : Nat) (x : Int) : Int := if x < 2 * (k : Int) then otherOf x else x
theorem oth_in {k : Nat} (hk : k ≤ n) {x : Int} (h : 0 ≤ x ∧ x < 2 * (n : Int)) : 0 ≤ oth k x ∧ oth k x < 2 * (n : Int) := by
  unfold oth
  by_cases c : x < 2 * (k : Int)
  · rw [if_pos c]; exact WA.other_in h
  · rw [if_neg c]; exact h
theorem oth_twice {k : Nat} {x : Int} (h : 0 ≤ x) : oth k (oth k x) = x := by
  unfold oth
  by_cases c : x < 2 * (k : Int)
  · rw [if_pos c, if_pos (WA.other_in ⟨h, c⟩).2, other_twice]
  · rw [if_neg c, if_neg c]
theorem other_split {k : Nat} (x : Int) : (x = 2 * (k : Int) ∧ otherOf x = 2 * (k : Int) + 1) ∨ (x = 2 * (k : Int) + 1 ∧ otherOf x = 2 * (k : Int)) ∨ (x ≠ 2 * (k : Int) ∧ x ≠ 2 * (k : Int) + 1) := by
  by_cases h : x = 2 * (k : Int)
  · refine .inl ⟨h, ?_⟩
    unfold otherOf
    rw [Int.fmod_eq_emod_of_nonneg _ (by decide), if_pos (by omega)]; omega
  · by_cases h2 : x = 2 * (k : Int) + 1
    · refine .inr (.inl ⟨h2, ?_⟩)
      unfold otherOf
      rw [Int.fmod_eq_emod_of_nonneg _ (by decide), if_neg (by omega)]; omega
    · exact .inr (.inr ⟨h, h2⟩)
theorem oth_succ (k : Nat) (x : Int) : oth (k + 1) x = oth k (sw (2 * (k : Int)) (2 * (k : Int) + 1) x) := by
  rcases other_split (k := k) x with ⟨h, e⟩ | ⟨h, e⟩ | ⟨h1, h2⟩
  · subst h
    rw [sw_a]
    unfold oth
    rw [if_pos (by omega), if_neg (by omega), e]
  · subst h
    rw [sw_b]
    unfold oth
    rw [if_pos (by omega), if_neg (by omega), e]
  · rw [sw_else h1 h2]
    unfold oth
    by_cases c : x < 2 * (k : Int)
    · rw [if_pos (by omega), if_pos c]
    · rw [if_neg (by omega), if_neg c]
def fk (w : List (List Int)) (k : Nat) (x : Int) : Int := nextOf w (oth k x)
theorem fk_pm (W : IsWeb w n) {k : Nat} (hk : k ≤ n) : Pm (fk w k) (2 * n) where
  rng x h := by have := RM.next_in W (oth_in hk (x := x) (by omega)); unfold fk; omega
  inj x y hx hy e := by
    have := RM.next_inj W (oth_in hk (x := x) (by omega)) (oth_in hk (x := y) (by omega)) e
    have h := congrArg (oth k) this
    rwa [oth_twice hx.1, oth_twice hy.1] at h
/-- alike by rows and by the first ties -/
def Tk (w : List (List Int)) (n : Nat) : Nat → Int → Int → Prop
  | 0 => St (nextOf w) (2 * n)
  | k + 1 => plus (Tk w n k) (2 * (k : Int)) (2 * (k : Int) + 1)
theorem tk_next {k : Nat} : ∀ {u v : Int}, St (nextOf w) (2 * n) u v → Cl (Tk w n k) u v := by
  induction k with
  | zero => exact fun e => Cl.of e
  | succ k ih => exact fun e => plus_of (ih e)
theorem tk_other {k : Nat} : ∀ {x : Int}, 0 ≤ x → x < 2 * (k : Int) → Cl (Tk w n k) x (otherOf x) := by
  induction k with
  | zero => intro x h0 h1; omega
  | succ k ih =>
    intro x h0 h1
    rcases other_split (k := k) x with ⟨h, e⟩ | ⟨h, e⟩ | ⟨a, b⟩
    · rw [e, h]; exact plus_new
    · rw [e, h]; exact plus_new.symm
    · exact plus_of (ih h0 (by omega))
theorem tk_oth {k : Nat} {x : Int} (h0 : 0 ≤ x) : Cl (Tk w n k) x (oth k x) := by
  unfold oth
  by_cases c : x < 2 * (k : Int)
  · rw [if_pos c]; exact tk_other h0 c
  · rw [if_neg c]; exact Cl.refl _
theorem fk_tk {k : Nat} (hk : k ≤ n) : ∀ {x y : Int}, Cl (St (fk w k) (2 * n)) x y → Cl (Tk w n k) x y := fun h => h.mono fun u v e => by
  obtain ⟨hu, rfl⟩ := e
  have := oth_in hk (x := u) (by omega)
  exact (tk_oth hu.1).trans (tk_next ⟨by omega, rfl⟩)
theorem euler_k (W : IsWeb w n) : ∀ k, k ≤ n → ∀ c p, Cnt (St (fk w k) (2 * n)) (2 * n) c → Cnt (Tk w n k) (2 * n) p → ∃ h : Nat, w.length + c + 2 * h = 2 * p + k
  | 0, _, c, p, hc, hp => by
    have e0 : ∀ x, 0 ≤ x → fk w 0 x = nextOf w x := fun x h => by
      unfold fk oth
      rw [if_neg (by omega)]
    have hc' : Cnt (St (nextOf w) (2 * n)) (2 * n) c := cnt_congr (fun x y _ _ => ⟨Cl.mono fun u v e => Cl.of ⟨e.1, by rw [e.2, e0 u e.1.1]⟩, Cl.mono fun u v e => Cl.of ⟨e.1, by rw [e.2, e0 u e.1.1]⟩⟩) hc
    have h1 := cnt_one hc' (web_cnt W)
    have h2 := cnt_one hp (web_cnt W)
    exact ⟨0, by omega⟩
  | k + 1, hk, c', p', hc, hp => by
    obtain ⟨c, gc⟩ := cnt_some (St (fk w k) (2 * n)) (2 * n)
    obtain ⟨p, gp⟩ := cnt_some (Tk w n k) (2 * n)
    obtain ⟨h, ih⟩ := euler_k W k (by omega) c p gc gp
    have ra : 0 ≤ (2 * (k : Int)) ∧ (2 * (k : Int)) < ((2 * n : Nat) : Int) := by omega
    have rb : 0 ≤ (2 * (k : Int) + 1) ∧ (2 * (k : Int) + 1) < ((2 * n : Nat) : Int) := by omega
    have ef : fk w (k + 1) = fun x => fk w k (sw (2 * (k : Int)) (2 * (k : Int) + 1) x) := by
      funext x
      unfold fk
      rw [oth_succ]
    rw [ef] at hc
    have hp : Cnt (plus (Tk w n k) (2 * (k : Int)) (2 * (k : Int) + 1)) (2 * n) p' := hp
    rcases swap_cnt (fk_pm W (by omega)) ra rb (by omega) gc hc with ⟨t, e⟩ | ⟨t, e⟩
    · have := cnt_one (cnt_in gp (fk_tk (by omega) t)) hp
      exact ⟨h, by omega⟩
    · by_cases s : Cl (Tk w n k) (2 * (k : Int)) (2 * (k : Int) + 1)
      · have := cnt_one (cnt_in gp s) hp
        exact ⟨h + 1, by omega⟩
      · obtain ⟨j, e2, g⟩ := cnt_out gp ra rb s
        have := cnt_one g hp
        exact ⟨h, by omega⟩
theorem tog_tk (W : IsWeb w n) {x y : Int} : Tog w n x y ↔ Cl (Tk w n n) x y := by
  constructor
  · intro t
    exact t (fun z => Cl (Tk w n n) x z) ⟨row_of_next W fun z hz c => c.trans (tk_next ⟨by omega, rfl⟩), fun z hz c => c.trans (tk_other hz.1 hz.2)⟩ (Cl.refl x)
  · intro c
    have tr : ∀ k, k ≤ n → ∀ u v, Tk w n k u v → Tog w n u v := by
      intro k
      induction k with
      | zero =>
        rintro _ u v ⟨hu, rfl⟩
        obtain ⟨r, hr, a, b⟩ := next_same W (x := u) (by omega)
        exact Tog.row hr a b
      | succ k ih =>
        rintro hk u v (e | ⟨rfl, rfl⟩)
        · exact ih (by omega) u v e
        · have := Tog.other (w := w) (n := n) (x := 2 * (k : Int)) (by omega)
          rcases other_split (k := k) (2 * (k : Int)) with ⟨_, e⟩ | ⟨h, _⟩ | ⟨h, _⟩
          · rwa [e] at this
          · omega
          · exact absurd rfl h
    exact (c (fun z => Tog w n x z) fun u v e => ⟨fun t => t.trans (tr n (Nat.le_refl _) u v e), fun t => t.trans (tr n (Nat.le_refl _) u v e).symm⟩).mp (Tog.refl x)
theorem reps_cnt (W : IsWeb w n) {L : List Int} (R : Reps w n L) : Cnt (Tk w n n) (2 * n) L.length := ⟨L, ⟨fun x hx => by have := R.rng x hx; omega, R.apart.imp fun no t => no ((tog_tk W).mpr t), fun y hy => by
  obtain ⟨x, hx, t⟩ := R.all y (by omega)
  exact ⟨x, hx, (tog_tk W).mp t⟩⟩, rfl⟩
/-- the count of handles -/
theorem euler (W : IsWeb w n) {L : List Int} (R : Reps w n L) : ∃ h : Nat, w.length + (io w n).length + 2 * h = 2 * L.length + n := by
  refine euler_k W n (Nat.le_refl _) _ _ (cnt_congr (fun x y _ _ => ⟨Cl.mono fun u v e => Cl.of ⟨e.1, ?_⟩, Cl.mono fun u v e => Cl.of ⟨e.1, ?_⟩⟩) (web_cnt (faces_web W))) (reps_cnt W R)
  · have e1 := e.1
    rw [e.2, io_next W (by omega)]
    unfold fk oth
    rw [if_pos (by omega)]
  · have e1 := e.1
    rw [e.2, io_next W (by omega)]
    unfold fk oth
    rw [if_pos (by omega)]
end
end RK
/-! The next around where a dart is put in; webs made tie by tie: one part, no handle. -/
namespace RK
open PySem PySem.Spec L2 DL WA RM WB WC RP RD RB WF RC RI RH
/-! ### a dart put in -/
section
variable {r : List Int} {d f x : Int}
theorem put_get (hd : d ∈ r) (i : Nat) : (putRow d f r)[i]? = if i < r.idxOf d then r[i]? else if i = r.idxOf d then some f else r[i - 1]? := by
  have le := List.idxOf_le_length (l := r) (a := d)
  unfold putRow
  rw [if_pos hd]
  by_cases c : i < r.idxOf d
  · rw [if_pos c, List.getElem?_append_left (by rw [List.length_take]; omega), List.getElem?_take, if_pos c]
  · rw [if_neg c, List.getElem?_append_right (by rw [List.length_take]; omega), List.length_take, Nat.min_eq_left le]
    by_cases e : i = r.idxOf d
    · rw [if_pos e, e, Nat.sub_self]; rfl
    · rw [if_neg e]
      obtain ⟨j, rfl⟩ : ∃ j, i = r.idxOf d + (j + 1) := ⟨i - r.idxOf d - 1, by omega⟩
      rw [show r.idxOf d + (j + 1) - r.idxOf d = j + 1 by omega, List.getElem?_cons_succ, List.getElem?_drop]
      congr 1
theorem put_len (hd : d ∈ r) : (putRow d f r).length = r.length + 1 := by
  have := (putRow_perm (f := f) hd).length_eq
  rwa [List.length_cons] at this
theorem put_nd (nd : r.Nodup) (hd : d ∈ r) (hf : f ∉ r) : (putRow d f r).Nodup := (putRow_perm hd).nodup_iff.mpr (List.nodup_cons.mpr ⟨hf, nd⟩)
theorem nx_new (nd : r.Nodup) (hd : d ∈ r) (hf : f ∉ r) : nx (putRow d f r) f = d := by
  have lt := List.idxOf_lt_length_of_mem hd
  have g : (putRow d f r)[r.idxOf d]? = some f := by rw [put_get hd, if_neg (by omega), if_pos rfl]
  have h := (nx_at (put_nd nd hd hf) g).1 (by rw [put_len hd]; omega)
  rw [put_get hd, if_neg (by omega), if_neg (by omega)] at h
  have e : r[r.idxOf d + 1 - 1]? = some d := by
    rw [Nat.add_sub_cancel, List.getElem?_eq_getElem lt, List.getElem_idxOf]
  rw [e] at h
  exact (Option.some.inj h).symm
theorem nx_old (nd : r.Nodup) (hd : d ∈ r) (hf : f ∉ r) (hx : x ∈ r) : nx (putRow d f r) x = if nx r x = d then f else nx r x := by
  have lt := List.idxOf_lt_length_of_mem hd
  have gd : r[r.idxOf d]? = some d := by rw [List.getElem?_eq_getElem lt, List.getElem_idxOf]
  have ⟨j, hj⟩ := List.mem_iff_getElem?.mp hx
  have lj := (List.getElem?_eq_some_iff.mp hj).1
  have nd' := put_nd nd hd hf
  have one : ∀ i y, r[i]? = some y → y = d → i = r.idxOf d := fun i y hi e => by
    subst e
    have li := (List.getElem?_eq_some_iff.mp hi).1
    exact (List.getElem?_inj li nd).mp (hi.trans gd.symm)
  have old := nx_at nd hj
  by_cases c : j < r.idxOf d
  · have g : (putRow d f r)[j]? = some x := by rw [put_get hd, if_pos c]; exact hj
    have h := (nx_at nd' g).1 (by rw [put_len hd]; omega)
    have o := old.1 (by omega)
    rw [put_get hd] at h
    by_cases c2 : j + 1 < r.idxOf d
    · rw [if_pos c2, o] at h
      have ne : nx r x ≠ d := fun e => by have := one _ _ o e; omega
      rw [if_neg ne]
      exact (Option.some.inj h).symm
    · rw [if_neg c2, if_pos (by omega)] at h
      have e : nx r x = d := by
        rw [show j + 1 = r.idxOf d by omega, gd] at o
        exact (Option.some.inj o).symm
      rw [if_pos e]
      exact (Option.some.inj h).symm
  · have g : (putRow d f r)[j + 1]? = some x := by rw [put_get hd, if_neg (by omega), if_neg (by omega)]; exact hj
    by_cases c2 : j + 1 < r.length
    · have h := (nx_at nd' g).1 (by rw [put_len hd]; omega)
      have o := old.1 c2
      rw [put_get hd, if_neg (by omega), if_neg (by omega), show j + 1 + 1 - 1 = j + 1 by omega, o] at h
      have ne : nx r x ≠ d := fun e => by have := one _ _ o e; omega
      rw [if_neg ne]
      exact (Option.some.inj h).symm
    · have h := (nx_at nd' g).2 (by rw [put_len hd]; omega)
      have o := old.2 c2
      rw [put_get hd] at h
      by_cases z : 0 < r.idxOf d
      · rw [if_pos z, o] at h
        have ne : nx r x ≠ d := fun e => by have := one _ _ o e; omega
        rw [if_neg ne]
        exact (Option.some.inj h).symm
      · rw [if_neg z, if_pos (by omega)] at h
        have e : nx r x = d := by
          rw [show 0 = r.idxOf d by omega, gd] at o
          exact (Option.some.inj o).symm
        rw [if_pos e]
        exact (Option.some.inj h).symm
end
/-- the next around, by rows alone -/
def Nx (rows : List (List Int)) (x y : Int) : Prop := ∃ r ∈ rows, x ∈ r ∧ nx r x = y
section
variable {rows : List (List Int)} {m : Nat} {x y d : Int}
theorem nx_mem {r : List Int} (nd : r.Nodup) (hx : x ∈ r) : nx r x ∈ r := by
  have ⟨j, hj⟩ := List.mem_iff_getElem?.mp hx
  have o := nx_at nd hj
  by_cases c : j + 1 < r.length
  · exact List.mem_of_getElem? (o.1 c)
  · exact List.mem_of_getElem? (o.2 c)
theorem Nx.put (R : Rows rows m) (h : Nx rows x y) : Nx (rows.map (putRow d (m : Int))) x (if y = d then (m : Int) else y) := by
  obtain ⟨r, hr, hx, rfl⟩ := h
  have nd := R.row_nodup hr
  have nf : (m : Int) ∉ r := fun z => by have := R.row_mem hr z; omega
  refine ⟨_, List.mem_map.mpr ⟨r, hr, rfl⟩, ?_⟩
  by_cases hd : d ∈ r
  · exact ⟨(putRow_perm hd).mem_iff.mpr (List.mem_cons_of_mem _ hx), nx_old nd hd nf hx⟩
  · have e : putRow d (m : Int) r = r := by unfold putRow; rw [if_neg hd]
    rw [e]
    refine ⟨hx, ?_⟩
    have := nx_mem nd hx
    rw [if_neg (fun z : nx r x = d => hd (by rw [← z]; exact this))]
theorem Nx.fresh (R : Rows rows m) (h : 0 ≤ d ∧ d < (m : Int)) : Nx (rows.map (putRow d (m : Int))) (m : Int) d := by
  obtain ⟨r, hr, hd⟩ := R.at h
  have nf : (m : Int) ∉ r := fun z => by have := R.row_mem hr z; omega
  exact ⟨_, List.mem_map.mpr ⟨r, hr, rfl⟩, (putRow_perm hd).mem_iff.mpr List.mem_cons_self, nx_new (R.row_nodup hr) hd nf⟩
theorem Nx.more {s : List (List Int)} (h : Nx rows x y) : Nx (rows ++ s) x y := by
  obtain ⟨r, hr, h⟩ := h
  exact ⟨r, List.mem_append_left _ hr, h⟩
theorem nx_web {w : List (List Int)} {n : Nat} (W : IsWeb w n) (h : Nx w x y) : nextOf w x = y := by
  obtain ⟨r, hr, hx, e⟩ := h
  rw [next_nx W hr hx, e]
theorem web_nx {w : List (List Int)} {n : Nat} (W : IsWeb w n) (hx : 0 ≤ x ∧ x < 2 * (n : Int)) : Nx w x (nextOf w x) := by
  obtain ⟨r1, r2⟩ := row_in W hx
  exact ⟨_, r1, r2, (next_nx W r1 r2).symm⟩
end
/-! ### a tie grown, a tie drawn in -/
section
variable {w : List (List Int)} {n : Nat} {d e : Int}
def grownR (w : List (List Int)) (n : Nat) (d : Int) : List (List Int) := w.map (putRow d ((2 * n : Nat) : Int)) ++ [[((2 * n + 1 : Nat) : Int)]]
def drawnR (w : List (List Int)) (n : Nat) (d e : Int) : List (List Int) := (w.map (putRow d ((2 * n : Nat) : Int))).map (putRow e ((2 * n + 1 : Nat) : Int))
theorem grow_old (W : IsWeb w n) (V : IsWeb (grownR w n d) (n + 1)) {x : Int} (hx : 0 ≤ x ∧ x < 2 * (n : Int)) : nextOf (grownR w n d) x = if nextOf w x = d then ((2 * n : Nat) : Int) else nextOf w x := nx_web V ((web_nx W hx).put (rows_of W)).more
theorem grow_even (W : IsWeb w n) (V : IsWeb (grownR w n d) (n + 1)) (hd : 0 ≤ d ∧ d < 2 * (n : Int)) : nextOf (grownR w n d) ((2 * n : Nat) : Int) = d := nx_web V (Nx.fresh (rows_of W) (by omega)).more
theorem grow_odd (V : IsWeb (grownR w n d) (n + 1)) : nextOf (grownR w n d) ((2 * n + 1 : Nat) : Int) = ((2 * n + 1 : Nat) : Int) := by
  refine nx_web V ⟨[((2 * n + 1 : Nat) : Int)], by simp [grownR], List.mem_singleton.mpr rfl, ?_⟩
  have := nx_at (r := [((2 * n + 1 : Nat) : Int)]) (i := 0) (by simp) rfl
  exact (Option.some.inj (this.2 (by simp))).symm
theorem draw_old (W : IsWeb w n) (V : IsWeb (drawnR w n d e) (n + 1)) (hd : 0 ≤ d ∧ d < 2 * (n : Int)) (he : 0 ≤ e ∧ e < 2 * (n : Int)) {x : Int} (hx : 0 ≤ x ∧ x < 2 * (n : Int)) : nextOf (drawnR w n d e) x = if nextOf w x = d then ((2 * n : Nat) : Int) else if nextOf w x = e then ((2 * n + 1 : Nat) : Int) else nextOf w x := by
  have R : Rows w (2 * n) := rows_of W
  have a := ((web_nx W hx).put (d := d) R).put (d := e) (R.put (d := d) (by omega))
  have h := nx_web V a
  rw [h]
  by_cases c : nextOf w x = d
  · rw [if_pos c, if_neg (by omega), if_pos c]
  · rw [if_neg c, if_neg c]
theorem draw_even (W : IsWeb w n) (V : IsWeb (drawnR w n d e) (n + 1)) (hd : 0 ≤ d ∧ d < 2 * (n : Int)) : nextOf (drawnR w n d e) ((2 * n : Nat) : Int) = if d = e then ((2 * n + 1 : Nat) : Int) else d := by
  have R : Rows w (2 * n) := rows_of W
  exact nx_web V ((Nx.fresh R (d := d) (by omega)).put (d := e) (R.put (d := d) (by omega)))
theorem draw_odd (W : IsWeb w n) (V : IsWeb (drawnR w n d e) (n + 1)) (hd : 0 ≤ d ∧ d < 2 * (n : Int)) (he : 0 ≤ e ∧ e < 2 * (n : Int)) : nextOf (drawnR w n d e) ((2 * n + 1 : Nat) : Int) = e := by
  have R : Rows w (2 * n) := rows_of W
  exact nx_web V (Nx.fresh (R.put (d := d) (by omega)) (by omega))
end
end RK
/-! A tie struck, its ends drawn together: the next around in rows. -/
namespace RN
open PySem PySem.Spec L2 DL WA RM WB WC RP RD RB WF RC RI
/-- what comes behind a in the row, all but it -/
def behind (r : List Int) (a : Int) : List Int := r.drop (r.idxOf a + 1) ++ r.take (r.idxOf a)
section
variable {r t A B : List Int} {a b x : Int}
theorem ring_behind (h : a ∈ r) : ringFrom r a = a :: behind r a := by
  have lt := List.idxOf_lt_length_iff.mpr h
  unfold ringFrom behind
  rw [List.drop_eq_getElem_cons lt, List.getElem_idxOf lt]
  rfl
theorem behind_perm (h : a ∈ r) : (a :: behind r a).Perm r := by rw [← ring_behind h]; exact ringFrom_perm r a
theorem nx_behind (nd : r.Nodup) (h : a ∈ r) (hx : x ∈ r) : nx (a :: behind r a) x = nx r x := by rw [← ring_behind h]; exact nx_ring nd hx
theorem nx_tail (nd : (a :: t).Nodup) (hx : x ∈ t) : nx t x = if nx (a :: t) x = a then nx (a :: t) a else nx (a :: t) x := by
  obtain ⟨na, nt⟩ := List.nodup_cons.mp nd
  have ⟨i, hi⟩ := List.mem_iff_getElem?.mp hx
  have lt := (List.getElem?_eq_some_iff.mp hi).1
  have o1 := nx_at nt hi
  have o2 := nx_at (r := a :: t) (i := i + 1) nd hi
  have o3 := nx_at (r := a :: t) (i := 0) (x := a) nd rfl
  have a1 : t[0]? = some (nx (a :: t) a) := o3.1 (by simp; omega)
  by_cases c : i + 1 < t.length
  · have e1 := o1.1 c
    have e2 : t[i + 1]? = some (nx (a :: t) x) := o2.1 (by simp; omega)
    have e : nx t x = nx (a :: t) x := Option.some.inj (e1.symm.trans e2)
    rw [if_neg fun z => na (by rw [← z]; exact List.mem_of_getElem? e2), e]
  · have e1 := o1.2 c
    have e2 : some a = some (nx (a :: t) x) := o2.2 (by simp; omega)
    rw [if_pos (Option.some.inj e2).symm]
    exact Option.some.inj (e1.symm.trans a1)
theorem nx_swap {u v : List Int} (nd : (u ++ v).Nodup) (h : x ∈ u ++ v) : nx (v ++ u) x = nx (u ++ v) x := by
  unfold nx
  rw [ringFrom_turned nd h]
theorem nx_erase (nd : r.Nodup) (hx : x ∈ r) (ne : x ≠ a) : nx (r.erase a) x = if nx r x = a then nx r a else nx r x := by
  by_cases h : a ∈ r
  · obtain ⟨u, v, nu, rfl, er⟩ : ∃ u v, a ∉ u ∧ r = u ++ a :: v ∧ r.erase a = u ++ v := by
      obtain ⟨u, v, nu, e, er⟩ := List.exists_erase_eq h
      exact ⟨u, v, nu, e, er⟩
    rw [er]
    have pm : (u ++ a :: v).Perm (a :: (v ++ u)) := by
      have := List.perm_append_comm (l₁ := u) (l₂ := a :: v)
      exact this
    have nd2 : (a :: (v ++ u)).Nodup := pm.nodup_iff.mp nd
    have hx2 : x ∈ v ++ u := by
      rcases List.mem_cons.mp (pm.mem_iff.mp hx) with z | z
      · exact (ne z).elim
      · exact z
    have sw : ∀ y ∈ u ++ a :: v, nx (a :: (v ++ u)) y = nx (u ++ a :: v) y := fun y hy => nx_swap (u := u) (v := a :: v) nd hy
    have n3 := (List.nodup_cons.mp nd2).2
    rw [nx_swap (u := v) (v := u) n3 hx2, nx_tail nd2 hx2, sw x hx, sw a h]
  · have e : r.erase a = r := List.erase_of_not_mem h
    have m := RK.nx_mem nd hx
    rw [e, if_neg fun z => h (by rw [← z]; exact m)]
/-- one row behind another -/
theorem nx_join (na : (a :: A).Nodup) (nb : (b :: B).Nodup) (nd : (A ++ B).Nodup) (hx : x ∈ A) : nx (A ++ B) x = if nx (a :: A) x = a then (if nx (b :: B) b = b then nx (a :: A) a else nx (b :: B) b) else nx (a :: A) x := by
  obtain ⟨nA, _⟩ := List.nodup_cons.mp na
  obtain ⟨nB, _⟩ := List.nodup_cons.mp nb
  have ⟨i, hi⟩ := List.mem_iff_getElem?.mp hx
  have lt := (List.getElem?_eq_some_iff.mp hi).1
  have hi' : (A ++ B)[i]? = some x := by rw [List.getElem?_append_left lt]; exact hi
  have o1 := nx_at nd hi'
  have o2 := nx_at (r := a :: A) (i := i + 1) na hi
  have o3 := nx_at (r := a :: A) (i := 0) (x := a) na rfl
  have a1 : A[0]? = some (nx (a :: A) a) := o3.1 (by simp; omega)
  have o4 := nx_at (r := b :: B) (i := 0) (x := b) nb rfl
  by_cases c : i + 1 < A.length
  · have e1 := o1.1 (by rw [List.length_append]; omega)
    rw [List.getElem?_append_left c] at e1
    have e2 : A[i + 1]? = some (nx (a :: A) x) := o2.1 (by simp; omega)
    rw [if_neg fun z => nA (by rw [← z]; exact List.mem_of_getElem? e2)]
    exact Option.some.inj (e1.symm.trans e2)
  · have e2 : some a = some (nx (a :: A) x) := o2.2 (by simp; omega)
    rw [if_pos (Option.some.inj e2).symm]
    cases B with
    | nil =>
      have e4 : some b = some (nx [b] b) := o4.2 (by simp)
      rw [if_pos (Option.some.inj e4).symm]
      have e1 := o1.2 (by simp; omega)
      rw [List.append_nil] at e1
      rw [List.append_nil]
      exact Option.some.inj (e1.symm.trans a1)
    | cons y B =>
      have e4 : some y = some (nx (b :: y :: B) b) := o4.1 (by simp)
      have yb : y ≠ b := fun z => nB (by rw [← z]; exact List.mem_cons_self)
      rw [← Option.some.inj e4, if_neg yb]
      have e1 := o1.1 (by rw [List.length_append, List.length_cons]; omega)
      rw [List.getElem?_append_right (by omega), show i + 1 - A.length = 0 by omega] at e1
      exact (Option.some.inj e1).symm
theorem nx_map {f : Int → Int} (inj : ∀ u ∈ r, ∀ v ∈ r, f u = f v → u = v) (hx : x ∈ r) : nx (r.map f) (f x) = f (nx r x) := by
  unfold nx
  rw [ringFrom_map inj hx, List.getElem?_map]
  cases (ringFrom r x)[1]? <;> rfl
end
end RN
/-! Ties called one less; rows of what darts are left. -/
namespace RN
open PySem PySem.Spec L2 DL WA RM WB WC RP RD RB WF RC RI
/-- greater ties are called one less -/
def less (t : Int) (d : Int) : Int := d - 2 * (if 2 * t < d then 1 else 0)
section
variable {n : Nat} {t : Int} {Q : List (List Int)}
theorem less_cases (t d : Int) : (2 * t < d ∧ less t d = d - 2) ∨ (d ≤ 2 * t ∧ less t d = d) := by
  unfold less
  by_cases c : 2 * t < d
  · exact .inl ⟨c, by rw [if_pos c]; omega⟩
  · exact .inr ⟨by omega, by rw [if_neg c]; omega⟩
/-- the darts that are left -/
def Lf (n : Nat) (t : Int) (d : Int) : Prop := (0 ≤ d ∧ d < 2 * (n : Int)) ∧ d ≠ 2 * t ∧ d ≠ 2 * t + 1
theorem less_inj {x y : Int} (hx : Lf n t x) (hy : Lf n t y) (e : less t x = less t y) : x = y := by
  obtain ⟨_, a1, a2⟩ := hx
  obtain ⟨_, b1, b2⟩ := hy
  rcases less_cases t x with ⟨c, ex⟩ | ⟨c, ex⟩ <;> rcases less_cases t y with ⟨d, ey⟩ | ⟨d, ey⟩ <;> omega
theorem less_in {x : Int} (ht : 0 ≤ t ∧ t < (n : Int)) (hx : Lf n t x) : 0 ≤ less t x ∧ less t x < 2 * ((n - 1 : Nat) : Int) := by
  obtain ⟨_, a1, a2⟩ := hx
  rcases less_cases t x with ⟨c, ex⟩ | ⟨c, ex⟩ <;> omega
theorem less_onto {y : Int} (ht : 0 ≤ t ∧ t < (n : Int)) (hy : 0 ≤ y ∧ y < 2 * ((n - 1 : Nat) : Int)) : ∃ x, Lf n t x ∧ less t x = y := by
  by_cases c : y < 2 * t
  · refine ⟨y, ⟨by omega, by omega, by omega⟩, ?_⟩
    rcases less_cases t y with ⟨c, ex⟩ | ⟨c, ex⟩ <;> omega
  · refine ⟨y + 2, ⟨by omega, by omega, by omega⟩, ?_⟩
    rcases less_cases t (y + 2) with ⟨c, ex⟩ | ⟨c, ex⟩ <;> omega
theorem other_cases (d : Int) : (d.fmod 2 = 0 ∧ otherOf d = d + 1) ∨ (d.fmod 2 = 1 ∧ otherOf d = d - 1) := by
  have := Int.fmod_eq_emod_of_nonneg d (b := 2) (by decide)
  unfold otherOf
  split <;> omega
theorem lf_other {x : Int} (hx : Lf n t x) : Lf n t (otherOf x) := by
  obtain ⟨a0, a1, a2⟩ := hx
  have e := Int.fmod_eq_emod_of_nonneg x (b := 2) (by decide)
  rcases other_cases x with ⟨c, ex⟩ | ⟨c, ex⟩ <;> exact ⟨by omega, by omega, by omega⟩
theorem less_other {x : Int} (hx : Lf n t x) : less t (otherOf x) = otherOf (less t x) := by
  obtain ⟨a0, a1, a2⟩ := hx
  have e := Int.fmod_eq_emod_of_nonneg x (b := 2) (by decide)
  have e2 := Int.fmod_eq_emod_of_nonneg (less t x) (b := 2) (by decide)
  rcases less_cases t x with ⟨c, ex⟩ | ⟨c, ex⟩ <;> rcases other_cases x with ⟨d, ox⟩ | ⟨d, ox⟩ <;> rcases other_cases (less t x) with ⟨g, ol⟩ | ⟨g, ol⟩ <;> rcases less_cases t (otherOf x) with ⟨k, el⟩ | ⟨k, el⟩ <;> omega
/-- rows of what is left -/
structure Cut (n : Nat) (t : Int) (Q : List (List Int)) : Prop where
  ne : ∀ r ∈ Q, r ≠ []
  nd : Q.flatten.Nodup
  mem : ∀ d, d ∈ Q.flatten ↔ Lf n t d
def lessW (t : Int) (Q : List (List Int)) : List (List Int) := sortRows ((Q.map fun r => r.map (less t)).map turnRow)
variable (C : Cut n t Q) (ht : 0 ≤ t ∧ t < (n : Int))
include C
theorem Cut.row {r : List Int} (hr : r ∈ Q) {d : Int} (hd : d ∈ r) : Lf n t d := (C.mem d).mp (List.mem_flatten.mpr ⟨r, hr, hd⟩)
theorem Cut.inj {r : List Int} (hr : r ∈ Q) : ∀ u ∈ r, ∀ v ∈ r, less t u = less t v → u = v := fun u hu v hv e => less_inj (C.row hr hu) (C.row hr hv) e
theorem Cut.row_nd {r : List Int} (hr : r ∈ Q) : r.Nodup := (List.pairwise_flatten.mp C.nd).1 r hr
theorem Cut.less_nd {r : List Int} (hr : r ∈ Q) : (r.map (less t)).Nodup := nodup_on (C.inj hr) (C.row_nd hr)
include ht
theorem Cut.rows : Rows (Q.map fun r => r.map (less t)) (2 * (n - 1)) where
  ne r hr := by
    obtain ⟨q, hq, rfl⟩ := List.mem_map.mp hr
    exact fun z => C.ne q hq (List.map_eq_nil_iff.mp z)
  perm := by
    have e : (Q.map fun r => r.map (less t)).flatten = Q.flatten.map (less t) := by rw [List.map_flatten]
    rw [e]
    refine (List.perm_ext_iff_of_nodup (nodup_on (fun a ha b hb z => less_inj ((C.mem a).mp ha) ((C.mem b).mp hb) z) C.nd) (up_nodup _)).mpr fun y => ?_
    rw [List.mem_map, up_mem]
    constructor
    · rintro ⟨x, hx, rfl⟩
      have := less_in ht ((C.mem x).mp hx)
      omega
    · intro hy
      obtain ⟨x, hx, e⟩ := less_onto (n := n) ht (y := y) (by omega)
      exact ⟨x, (C.mem x).mpr hx, e⟩
theorem Cut.web (h2 : 2 ≤ n) (h12 : n ≤ 12) : IsWeb (lessW t Q) (n - 1) := (Rows.begun (C.rows ht)).web (by omega) (by omega)
theorem Cut.norm : Norm (lessW t Q) := norm_begun fun r hr => by
  obtain ⟨q, hq, rfl⟩ := List.mem_map.mp hr
  exact ⟨C.less_nd hq, fun z => C.ne q hq (List.map_eq_nil_iff.mp z)⟩
theorem Cut.next (h2 : 2 ≤ n) (h12 : n ≤ 12) {r : List Int} (hr : r ∈ Q) {x : Int} (hx : x ∈ r) : nextOf (lessW t Q) (less t x) = less t (nx r x) := by
  have V := C.web ht h2 h12
  have m : turnRow (r.map (less t)) ∈ lessW t Q := (sortRows_perm _).mem_iff.mpr (List.mem_map.mpr ⟨_, List.mem_map.mpr ⟨r, hr, rfl⟩, rfl⟩)
  have mx : less t x ∈ r.map (less t) := List.mem_map.mpr ⟨x, hx, rfl⟩
  rw [next_nx V m ((turnRow_perm _).mem_iff.mpr mx), nx_turn (C.less_nd hr) mx, nx_map (C.inj hr) hx]
theorem Cut.len : (lessW t Q).length = Q.length := by
  unfold lessW
  rw [(sortRows_perm _).length_eq, List.length_map, List.length_map]
end
end RN
/-! Struck here is joined inside out. -/
namespace RN
open PySem PySem.Spec L2 DL WA RM RB WB WC RP RD RB WF RC RI
/-- the tie's darts lie in unlike rows -/
def Apart (w : List (List Int)) (t : Int) : Prop := ∀ r ∈ w, ¬ (2 * t ∈ r ∧ 2 * t + 1 ∈ r)
def cutR (w : List (List Int)) (t : Int) : List (List Int) := w.map fun r => r.filter fun d => !decide (d.fdiv 2 = t)
def joinR (w : List (List Int)) (t : Int) : List (List Int) := (w.filter fun r => decide (2 * t ∉ r) && decide (2 * t + 1 ∉ r)) ++ [behind (rowOf w (2 * t)) (2 * t) ++ behind (rowOf w (2 * t + 1)) (2 * t + 1)]
section
variable {w : List (List Int)} {n : Nat} {t : Int}
theorem half_iff {d t : Int} (h : 0 ≤ d) : d.fdiv 2 = t ↔ d = 2 * t ∨ d = 2 * t + 1 := by
  rw [show d.fdiv 2 = d / 2 from Int.fdiv_eq_ediv_of_nonneg d (by decide)]
  omega
theorem row_at (W : IsWeb w n) {x : Int} (hx : 0 ≤ x ∧ x < 2 * (n : Int)) : rowOf w x ∈ w ∧ x ∈ rowOf w x := by
  obtain ⟨p, r, hp, hd, _, e⟩ := W.at (W.mem.mpr hx)
  rw [e]
  exact ⟨List.mem_of_getElem? hp, hd⟩
/-- two darts of one tie are not all -/
theorem not_all (W : IsWeb w n) (H : Hangs w n) (ht : 0 ≤ t ∧ t < (n : Int)) (h2 : 2 ≤ n) (cl : ∀ r ∈ w, ∀ x ∈ r, (x = 2 * t ∨ x = 2 * t + 1) → ∀ y ∈ r, y = 2 * t ∨ y = 2 * t + 1) : False := by
  have := H (fun x => x = 2 * t ∨ x = 2 * t + 1) (fun r hr x hx y hy px => cl r hr x hx px y hy) (fun d hd pd => by
    rcases pd with rfl | rfl
    · exact .inr (otherOf_even t)
    · exact .inl (otherOf_odd t)) (2 * t) (if t = 0 then 2 else 0) (by omega) (by split <;> omega) (.inl rfl)
  split at this <;> omega
theorem next_other (W : IsWeb w n) (ht : 0 ≤ t ∧ t < (n : Int)) : nextOf (io w n) (2 * t + 1) = nextOf w (2 * t) ∧ nextOf (io w n) (2 * t) = nextOf w (2 * t + 1) := by
  refine ⟨?_, ?_⟩
  · rw [io_next W (by omega), otherOf_odd]
  · rw [io_next W (by omega), otherOf_even]
theorem next_in (W : IsWeb w n) {r : List Int} (hr : r ∈ w) {x : Int} (hx : x ∈ r) : nextOf w x ∈ r := by
  rw [next_nx W hr hx]
  exact RK.nx_mem (W.row_nodup hr) hx
theorem cut_cut (W : IsWeb w n) (H : Hangs w n) (ht : 0 ≤ t ∧ t < (n : Int)) (h2 : 2 ≤ n) (ap : Apart (io w n) t) : Cut n t (cutR w t) where
  ne r hr := by
    obtain ⟨q, hq, rfl⟩ := List.mem_map.mp hr
    intro z
    have all : ∀ d ∈ q, d = 2 * t ∨ d = 2 * t + 1 := fun d hd => by
      have rd := in_rng W hq hd
      refine (half_iff rd.1).mp (Decidable.byContradiction fun no => ?_)
      have : d ∈ q.filter fun d => !decide (d.fdiv 2 = t) := List.mem_filter.mpr ⟨hd, by simp [no]⟩
      rw [z] at this
      cases this
    have V := faces_web W
    have same : ∀ x, x ∈ q → nextOf w x = x → False := fun x hx e => by
      rcases all x hx with rfl | rfl
      · have e2 := (next_other W ht).1
        rw [e] at e2
        obtain ⟨m1, m2⟩ := row_at V (x := 2 * t + 1) (by omega)
        have := next_in V m1 m2
        rw [show nextOf (facesOf w (2 * n)) (2 * t + 1) = 2 * t from e2] at this
        exact ap _ m1 ⟨this, m2⟩
      · have e2 := (next_other W ht).2
        rw [e] at e2
        obtain ⟨m1, m2⟩ := row_at V (x := 2 * t) (by omega)
        have := next_in V m1 m2
        rw [show nextOf (facesOf w (2 * n)) (2 * t) = 2 * t + 1 from e2] at this
        exact ap _ m1 ⟨m2, this⟩
    by_cases c1 : 2 * t ∈ q
    · by_cases c2 : 2 * t + 1 ∈ q
      · refine not_all W H ht h2 fun r hr x hx px y hy => ?_
        have : r = q := by
          rcases px with rfl | rfl
          · exact RK.row_uniq W hr hq hx c1
          · exact RK.row_uniq W hr hq hx c2
        exact all y (this ▸ hy)
      · have m := next_in W hq c1
        rcases all _ m with z | z
        · exact same _ c1 z
        · exact c2 (z ▸ m)
    · obtain ⟨d, hd⟩ := List.exists_mem_of_ne_nil _ (W.ne q hq)
      have c2 : 2 * t + 1 ∈ q := by
        rcases all d hd with rfl | rfl
        · exact (c1 hd).elim
        · exact hd
      have m := next_in W hq c2
      rcases all _ m with z | z
      · exact c1 (z ▸ m)
      · exact same _ c2 z
  nd := by
    have e : (cutR w t).flatten = w.flatten.filter fun d => !decide (d.fdiv 2 = t) := by unfold cutR; rw [List.filter_flatten]
    rw [e]
    exact W.nodup.sublist List.filter_sublist
  mem d := by
    have e : (cutR w t).flatten = w.flatten.filter fun d => !decide (d.fdiv 2 = t) := by unfold cutR; rw [List.filter_flatten]
    rw [e, List.mem_filter, W.mem]
    constructor
    · rintro ⟨a, b⟩
      have b : ¬ d.fdiv 2 = t := by simpa using b
      rw [half_iff a.1, not_or] at b
      exact ⟨a, b⟩
    · rintro ⟨a, b⟩
      refine ⟨a, ?_⟩
      have : ¬ d.fdiv 2 = t := by rw [half_iff a.1, not_or]; exact b
      simp [this]
/-- the next behind what is struck -/
def skip (s : Int → Int) (a b x : Int) : Int := if (if s x = a then s a else s x) = b then (if s b = a then s a else s b) else (if s x = a then s a else s x)
theorem cut_nx (W : IsWeb w n) {r : List Int} (hr : r ∈ w) {x : Int} (hx : x ∈ r) (h1 : x ≠ 2 * t) (h2 : x ≠ 2 * t + 1) : nx (r.filter fun d => !decide (d.fdiv 2 = t)) x = skip (nextOf w) (2 * t) (2 * t + 1) x := by
  have nd := W.row_nodup hr
  have nd1 : (r.erase (2 * t)).Nodup := nd.erase _
  have e : (r.filter fun d => !decide (d.fdiv 2 = t)) = (r.erase (2 * t)).erase (2 * t + 1) := by
    rw [nd1.erase_eq_filter, nd.erase_eq_filter, List.filter_filter]
    refine List.filter_congr fun d hd => ?_
    have rd := in_rng W hr hd
    have := half_iff (t := t) rd.1
    by_cases c : d = 2 * t
    · have : d.fdiv 2 = t := this.mpr (.inl c)
      simp [this, c]
    · by_cases c2 : d = 2 * t + 1
      · have e1 : decide (d.fdiv 2 = t) = true := decide_eq_true (this.mpr (.inr c2))
        rw [e1]
        simp [c2]
      · have : ¬ d.fdiv 2 = t := fun z => (this.mp z).elim c c2
        simp [this, c, c2]
  have m1 : x ∈ r.erase (2 * t) := (List.mem_erase_of_ne h1).mpr hx
  have s1 := nx_erase nd hx h1
  rw [← next_nx W hr hx] at s1
  have na : nx r (2 * t) = nextOf w (2 * t) ∨ 2 * t ∉ r := by
    by_cases c : 2 * t ∈ r
    · exact .inl (next_nx W hr c).symm
    · exact .inr c
  have s1' : nx (r.erase (2 * t)) x = if nextOf w x = 2 * t then nextOf w (2 * t) else nextOf w x := by
    rw [s1]
    by_cases c : nextOf w x = 2 * t
    · rw [if_pos c, if_pos c]
      rcases na with z | z
      · exact z
      · exact (z (c ▸ next_in W hr hx)).elim
    · rw [if_neg c, if_neg c]
  rw [e, nx_erase nd1 m1 h2, s1']
  unfold skip
  by_cases c : (if nextOf w x = 2 * t then nextOf w (2 * t) else nextOf w x) = 2 * t + 1
  · rw [if_pos c, if_pos c]
    have mb : 2 * t + 1 ∈ r.erase (2 * t) := by
      have := RK.nx_mem nd1 m1
      rw [s1', c] at this
      exact this
    have mb' : 2 * t + 1 ∈ r := List.mem_of_mem_erase mb
    have s2 := nx_erase (a := 2 * t) nd mb' (by omega)
    rw [← next_nx W hr mb'] at s2
    rw [s2]
    by_cases c3 : nextOf w (2 * t + 1) = 2 * t
    · rw [if_pos c3, if_pos c3]
      rcases na with z | z
      · exact z
      · exact (z (c3 ▸ next_in W hr mb')).elim
    · rw [if_neg c3, if_neg c3]
  · rw [if_neg c, if_neg c]
end
end RN
/-! Struck here is joined inside out: the webs. -/
namespace RN
open PySem PySem.Spec L2 DL WA RM RB WB WC RP RD RB WF RC RI
section
variable {v : List (List Int)} {n : Nat} {t : Int}
def restR (v : List (List Int)) (t : Int) : List (List Int) := v.filter fun r => decide (2 * t ∉ r) && decide (2 * t + 1 ∉ r)
theorem rest_mem {r : List Int} : r ∈ restR v t ↔ r ∈ v ∧ 2 * t ∉ r ∧ 2 * t + 1 ∉ r := by
  unfold restR
  rw [List.mem_filter, Bool.and_eq_true, decide_eq_true_iff, decide_eq_true_iff]
variable (W : IsWeb v n) (ht : 0 ≤ t ∧ t < (n : Int)) (ap : Apart v t)
include W ht ap
theorem split_perm : v.Perm (rowOf v (2 * t) :: rowOf v (2 * t + 1) :: restR v t) := by
  obtain ⟨a1, a2⟩ := row_at W (x := 2 * t) (by omega)
  obtain ⟨b1, b2⟩ := row_at W (x := 2 * t + 1) (by omega)
  have ab : rowOf v (2 * t) ≠ rowOf v (2 * t + 1) := fun z => ap _ a1 ⟨a2, by rw [z]; exact b2⟩
  refine (List.perm_ext_iff_of_nodup (rows_nd W) ?_).mpr fun r => ?_
  · refine List.nodup_cons.mpr ⟨fun z => ?_, List.nodup_cons.mpr ⟨fun z => (rest_mem.mp z).2.2 b2, (rows_nd W).sublist List.filter_sublist⟩⟩
    rcases List.mem_cons.mp z with y | y
    · exact ab y
    · exact (rest_mem.mp y).2.1 a2
  · rw [List.mem_cons, List.mem_cons, rest_mem]
    constructor
    · intro hr
      by_cases ca : 2 * t ∈ r
      · exact .inl (RK.row_uniq W hr a1 ca a2)
      · by_cases cb : 2 * t + 1 ∈ r
        · exact .inr (.inl (RK.row_uniq W hr b1 cb b2))
        · exact .inr (.inr ⟨hr, ca, cb⟩)
    · rintro (rfl | rfl | h)
      · exact a1
      · exact b1
      · exact h.1
theorem flat_perm : v.flatten.Perm (2 * t :: (2 * t + 1) :: (joinR v t).flatten) := by
  obtain ⟨a1, a2⟩ := row_at W (x := 2 * t) (by omega)
  obtain ⟨b1, b2⟩ := row_at W (x := 2 * t + 1) (by omega)
  have p1 := (split_perm W ht ap).flatten
  have pa := (behind_perm a2).symm
  have pb := (behind_perm b2).symm
  refine p1.trans ?_
  have e : (joinR v t).flatten = (restR v t).flatten ++ (behind (rowOf v (2 * t)) (2 * t) ++ behind (rowOf v (2 * t + 1)) (2 * t + 1)) := by
    unfold joinR restR
    rw [List.flatten_append]
    simp
  rw [List.flatten_cons, List.flatten_cons, e]
  generalize behind (rowOf v (2 * t)) (2 * t) = A at *
  generalize behind (rowOf v (2 * t + 1)) (2 * t + 1) = B at *
  refine (pa.append (pb.append (List.Perm.refl _))).trans ?_
  show (2 * t :: (A ++ ((2 * t + 1) :: B ++ (restR v t).flatten))).Perm _
  refine List.Perm.cons _ ?_
  have q1 : (A ++ ((2 * t + 1) :: B ++ (restR v t).flatten)).Perm ((2 * t + 1) :: (A ++ (B ++ (restR v t).flatten))) := List.perm_middle
  refine q1.trans (List.Perm.cons _ ?_)
  rw [← List.append_assoc]
  exact List.perm_append_comm
theorem join_cut (H : Hangs v n) (h2 : 2 ≤ n) : Cut n t (joinR v t) where
  ne r hr := by
    unfold joinR at hr
    rcases List.mem_append.mp hr with m | m
    · exact W.ne r (List.mem_filter.mp m).1
    · rw [List.mem_singleton] at m
      subst m
      intro z
      obtain ⟨zA, zB⟩ := List.append_eq_nil_iff.mp z
      obtain ⟨a1, a2⟩ := row_at W (x := 2 * t) (by omega)
      obtain ⟨b1, b2⟩ := row_at W (x := 2 * t + 1) (by omega)
      have pa := behind_perm a2
      have pb := behind_perm b2
      rw [zA] at pa
      rw [zB] at pb
      refine not_all W H ht h2 fun r hr x hx px y hy => ?_
      rcases px with rfl | rfl
      · have : r = rowOf v (2 * t) := RK.row_uniq W hr a1 hx a2
        subst this
        exact .inl (by simpa using pa.mem_iff.mpr hy)
      · have : r = rowOf v (2 * t + 1) := RK.row_uniq W hr b1 hx b2
        subst this
        exact .inr (by simpa using pb.mem_iff.mpr hy)
  nd := by
    have := (flat_perm W ht ap).nodup_iff.mp W.nodup
    exact (List.nodup_cons.mp (List.nodup_cons.mp this).2).2
  mem d := by
    have p := flat_perm W ht ap
    have nd := p.nodup_iff.mp W.nodup
    obtain ⟨n1, nd⟩ := List.nodup_cons.mp nd
    obtain ⟨n2, _⟩ := List.nodup_cons.mp nd
    have m := p.mem_iff (a := d)
    rw [W.mem, List.mem_cons, List.mem_cons] at m
    constructor
    · intro h
      refine ⟨m.mpr (.inr (.inr h)), fun z => n1 ?_, fun z => n2 ?_⟩
      · exact List.mem_cons_of_mem _ (z ▸ h)
      · exact z ▸ h
    · rintro ⟨r, c1, c2⟩
      rcases m.mp r with z | z | z
      · exact (c1 z).elim
      · exact (c2 z).elim
      · exact z
theorem join_len : (joinR v t).length + 1 = v.length := by
  have := (split_perm W ht ap).length_eq
  unfold joinR
  unfold restR at this
  rw [List.length_append]
  simp only [List.length_cons, List.length_nil] at this ⊢
  omega
/-- the next where two rows are joined -/
theorem join_nx {x : Int} (hx : Lf n t x) : ∃ r ∈ joinR v t, x ∈ r ∧ nx r x = (if nextOf v x = 2 * t then (if nextOf v (2 * t + 1) = 2 * t + 1 then nextOf v (2 * t) else nextOf v (2 * t + 1)) else if nextOf v x = 2 * t + 1 then (if nextOf v (2 * t) = 2 * t then nextOf v (2 * t + 1) else nextOf v (2 * t)) else nextOf v x) := by
  obtain ⟨a1, a2⟩ := row_at W (x := 2 * t) (by omega)
  obtain ⟨b1, b2⟩ := row_at W (x := 2 * t + 1) (by omega)
  obtain ⟨x1, x2⟩ := row_at W hx.1
  have ndA := W.row_nodup a1
  have ndB := W.row_nodup b1
  have pa := behind_perm a2
  have pb := behind_perm b2
  have na := pa.nodup_iff.mpr ndA
  have nb := pb.nodup_iff.mpr ndB
  have nj : (behind (rowOf v (2 * t)) (2 * t) ++ behind (rowOf v (2 * t + 1)) (2 * t + 1)).Nodup := by
    refine List.nodup_append.mpr ⟨(List.nodup_cons.mp na).2, (List.nodup_cons.mp nb).2, fun y hy z hz e => ?_⟩
    subst e
    have y1 := pa.mem_iff.mp (List.mem_cons_of_mem _ hy)
    have y2 := pb.mem_iff.mp (List.mem_cons_of_mem _ hz)
    have := RK.row_uniq W a1 b1 y1 y2
    exact ap _ a1 ⟨a2, by rw [this]; exact b2⟩
  have nxA : ∀ y ∈ rowOf v (2 * t), nx (2 * t :: behind (rowOf v (2 * t)) (2 * t)) y = nextOf v y := fun y hy => by rw [nx_behind ndA a2 hy, next_nx W a1 hy]
  have nxB : ∀ y ∈ rowOf v (2 * t + 1), nx ((2 * t + 1) :: behind (rowOf v (2 * t + 1)) (2 * t + 1)) y = nextOf v y := fun y hy => by rw [nx_behind ndB b2 hy, next_nx W b1 hy]
  have mj : behind (rowOf v (2 * t)) (2 * t) ++ behind (rowOf v (2 * t + 1)) (2 * t + 1) ∈ joinR v t := by unfold joinR; exact List.mem_append_right _ (List.mem_singleton.mpr rfl)
  by_cases ca : 2 * t ∈ rowOf v x
  · have er : rowOf v x = rowOf v (2 * t) := RK.row_uniq W x1 a1 ca a2
    rw [er] at x2
    have xA : x ∈ behind (rowOf v (2 * t)) (2 * t) := by
      rcases List.mem_cons.mp (pa.mem_iff.mpr x2) with z | z
      · exact (hx.2.1 z).elim
      · exact z
    have nb2 : nextOf v x ≠ 2 * t + 1 := fun z => by
      have := next_in W a1 x2
      rw [z] at this
      exact ap _ a1 ⟨a2, this⟩
    refine ⟨_, mj, List.mem_append_left _ xA, ?_⟩
    rw [nx_join na nb nj xA, nxA x x2, nxA _ a2, nxB _ b2]
    by_cases c : nextOf v x = 2 * t
    · rw [if_pos c, if_pos c]
    · rw [if_neg c, if_neg c, if_neg nb2]
  · by_cases cb : 2 * t + 1 ∈ rowOf v x
    · have er : rowOf v x = rowOf v (2 * t + 1) := RK.row_uniq W x1 b1 cb b2
      rw [er] at x2
      have xB : x ∈ behind (rowOf v (2 * t + 1)) (2 * t + 1) := by
        rcases List.mem_cons.mp (pb.mem_iff.mpr x2) with z | z
        · exact (hx.2.2 z).elim
        · exact z
      have nb2 : nextOf v x ≠ 2 * t := fun z => by
        have := next_in W b1 x2
        rw [z] at this
        exact ap _ b1 ⟨this, b2⟩
      have nj2 : (behind (rowOf v (2 * t + 1)) (2 * t + 1) ++ behind (rowOf v (2 * t)) (2 * t)).Nodup := List.perm_append_comm.nodup_iff.mp nj
      refine ⟨_, mj, List.mem_append_right _ xB, ?_⟩
      rw [nx_swap (u := behind (rowOf v (2 * t + 1)) (2 * t + 1)) nj2 (List.mem_append_left _ xB), nx_join nb na nj2 xB, nxB x x2, nxB _ b2, nxA _ a2]
      by_cases c : nextOf v x = 2 * t + 1
      · rw [if_pos c, if_neg nb2]
      · rw [if_neg c, if_neg nb2]
    · refine ⟨rowOf v x, by unfold joinR; exact List.mem_append_left _ (rest_mem.mpr ⟨x1, ca, cb⟩), x2, ?_⟩
      have m := next_in W x1 x2
      have k1 : nextOf v x ≠ 2 * t := fun z => ca (by rw [← z]; exact m)
      have k2 : nextOf v x ≠ 2 * t + 1 := fun z => cb (by rw [← z]; exact m)
      rw [if_neg k1, if_neg k2, next_nx W x1 x2]
end
section
variable {w : List (List Int)} {n : Nat} {t : Int}
/-- a tie struck: inside out, its ends are drawn together -/
theorem strike_io (W : IsWeb w n) (H : Hangs w n) (ht : 0 ≤ t ∧ t < (n : Int)) (h2 : 2 ≤ n) (ap : Apart (io w n) t) : io (lessW t (cutR w t)) (n - 1) = lessW t (joinR (io w n) t) := by
  have h12 := W.le
  have C := cut_cut W H ht h2 ap
  have V : IsWeb (io w n) n := faces_web W
  have J := join_cut V ht ap (io_hangs W H) h2
  have CV := C.web ht h2 h12
  have JV := J.web ht h2 h12
  refine web_one (faces_web CV) (io_norm CV) JV (J.norm ht) fun y hy => ?_
  obtain ⟨x, hx, rfl⟩ := less_onto (n := n) ht hy
  have e1 := io_next CV hy
  have hx' := lf_other hx
  rw [show nextOf (facesOf (lessW t (cutR w t)) (2 * (n - 1))) (less t x) = nextOf (lessW t (cutR w t)) (otherOf (less t x)) from e1, ← less_other hx]
  obtain ⟨o1, o2⟩ := row_at W hx'.1
  have m1 : (rowOf w (otherOf x)).filter (fun d => !decide (d.fdiv 2 = t)) ∈ cutR w t := List.mem_map.mpr ⟨_, o1, rfl⟩
  have m2 : otherOf x ∈ (rowOf w (otherOf x)).filter (fun d => !decide (d.fdiv 2 = t)) := by
    refine List.mem_filter.mpr ⟨o2, ?_⟩
    have : ¬ (otherOf x).fdiv 2 = t := by rw [half_iff hx'.1.1, not_or]; exact hx'.2
    simp [this]
  rw [C.next ht h2 h12 m1 m2, cut_nx W o1 o2 hx'.2.1 hx'.2.2]
  obtain ⟨q, q1, q2, q3⟩ := join_nx V ht ap hx
  rw [J.next ht h2 h12 q1 q2, q3]
  congr 1
  obtain ⟨nb, na⟩ := next_other W ht
  have nx0 : nextOf (io w n) x = nextOf w (otherOf x) := io_next W hx.1
  rw [nb, na, nx0]
  have inj : ∀ {a b : Int}, (0 ≤ a ∧ a < 2 * (n : Int)) → (0 ≤ b ∧ b < 2 * (n : Int)) → nextOf w a = nextOf w b → a = b := fun ha hb e => next_inj W ha hb e
  have x1 := hx'.2.1
  have x2 := hx'.2.2
  have rx := hx'.1
  -- the darts 2t and 2t+1 have no face in one
  have f1 : nextOf w (2 * t) ≠ 2 * t := fun z => by
    obtain ⟨m1, m2⟩ := row_at V (x := 2 * t + 1) (by omega)
    have := next_in V m1 m2
    rw [nb, z] at this
    exact ap _ m1 ⟨this, m2⟩
  have f2 : nextOf w (2 * t + 1) ≠ 2 * t + 1 := fun z => by
    obtain ⟨m1, m2⟩ := row_at V (x := 2 * t) (by omega)
    have := next_in V m1 m2
    rw [na, z] at this
    exact ap _ m1 ⟨m2, this⟩
  unfold skip
  by_cases c1 : nextOf w (otherOf x) = 2 * t
  · have c2 : nextOf w (2 * t) ≠ 2 * t := f1
    have c3 : ¬ nextOf w (2 * t + 1) = 2 * t := fun z => x2 (inj rx (by omega) (c1.trans z.symm))
    by_cases c4 : nextOf w (2 * t) = 2 * t + 1
    · simp [c1, c4, c3]
    · simp [c1, c4]
  · by_cases c5 : nextOf w (otherOf x) = 2 * t + 1
    · have d1 : ¬ 2 * t + 1 = 2 * t := by omega
      simp [c5, d1]
    · simp [c1, c5]
end
end RN
/-! What is struck or joined hangs together; how many places, faces. -/
namespace RN
open PySem PySem.Spec L2 DL WA RM RB WB WC RP RD RB WF RC RI
section
variable {v : List (List Int)} {n : Nat} {t : Int}
theorem join_hangs (W : IsWeb v n) (ht : 0 ≤ t ∧ t < (n : Int)) (ap : Apart v t) (H : Hangs v n) (h2 : 2 ≤ n) : Hangs (lessW t (joinR v t)) (n - 1) := by
  have h12 := W.le
  have J := join_cut W ht ap H h2
  have V := J.web ht h2 h12
  intro P rows others a b ha hb pa
  obtain ⟨a1, a2⟩ := row_at W (x := 2 * t) (by omega)
  obtain ⟨b1, b2⟩ := row_at W (x := 2 * t + 1) (by omega)
  have pA := behind_perm a2
  have pB := behind_perm b2
  have mj : behind (rowOf v (2 * t)) (2 * t) ++ behind (rowOf v (2 * t + 1)) (2 * t + 1) ∈ joinR v t := by unfold joinR; exact List.mem_append_right _ (List.mem_singleton.mpr rfl)
  have inrow : ∀ q ∈ joinR v t, ∀ x ∈ q, ∀ y ∈ q, P (less t x) → P (less t y) := fun q hq x hx y hy px => by
    have m : turnRow (q.map (less t)) ∈ lessW t (joinR v t) := (sortRows_perm _).mem_iff.mpr (List.mem_map.mpr ⟨_, List.mem_map.mpr ⟨q, hq, rfl⟩, rfl⟩)
    exact rows _ m _ ((turnRow_perm _).mem_iff.mpr (List.mem_map.mpr ⟨x, hx, rfl⟩)) _ ((turnRow_perm _).mem_iff.mpr (List.mem_map.mpr ⟨y, hy, rfl⟩)) px
  generalize hA : behind (rowOf v (2 * t)) (2 * t) = A at *
  generalize hB : behind (rowOf v (2 * t + 1)) (2 * t + 1) = B at *
  -- what is asked of the darts that are gone
  let R : Int → Prop := fun x => (Lf n t x ∧ P (less t x)) ∨ ((x = 2 * t ∨ x = 2 * t + 1) ∧ ∃ y ∈ A ++ B, P (less t y))
  have lfA : ∀ y ∈ A ++ B, Lf n t y := fun y hy => J.row mj hy
  obtain ⟨x, hx, rfl⟩ := less_onto (n := n) ht ha
  obtain ⟨z, hz, rfl⟩ := less_onto (n := n) ht hb
  have main := H R (fun r hr x hx y hy rx => ?_) (fun d hd rd => ?_) x z hx.1 hz.1 (.inl ⟨hx, pa⟩)
  · rcases main with ⟨_, p⟩ | ⟨h, _⟩
    · exact p
    · exact (h.elim hz.2.1 hz.2.2).elim
  · by_cases ca : 2 * t ∈ r
    · have er : r = rowOf v (2 * t) := RK.row_uniq W hr a1 ca a2
      subst er
      have inA : ∀ u ∈ rowOf v (2 * t), u = 2 * t ∨ u ∈ A := fun u hu => List.mem_cons.mp (pA.mem_iff.mpr hu)
      have some_ : ∃ u ∈ A ++ B, P (less t u) := by
        rcases rx with ⟨lx, px⟩ | ⟨_, h⟩
        · rcases inA x hx with rfl | m
          · exact (lx.2.1 rfl).elim
          · exact ⟨x, List.mem_append_left _ m, px⟩
        · exact h
      rcases inA y hy with rfl | m
      · exact .inr ⟨.inl rfl, some_⟩
      · obtain ⟨u, hu, pu⟩ := some_
        have my := List.mem_append_left B m
        exact .inl ⟨lfA y my, inrow _ mj u hu y my pu⟩
    · by_cases cb : 2 * t + 1 ∈ r
      · have er : r = rowOf v (2 * t + 1) := RK.row_uniq W hr b1 cb b2
        subst er
        have inB : ∀ u ∈ rowOf v (2 * t + 1), u = 2 * t + 1 ∨ u ∈ B := fun u hu => List.mem_cons.mp (pB.mem_iff.mpr hu)
        have some_ : ∃ u ∈ A ++ B, P (less t u) := by
          rcases rx with ⟨lx, px⟩ | ⟨_, h⟩
          · rcases inB x hx with rfl | m
            · exact (lx.2.2 rfl).elim
            · exact ⟨x, List.mem_append_right _ m, px⟩
          · exact h
        rcases inB y hy with rfl | m
        · exact .inr ⟨.inr rfl, some_⟩
        · obtain ⟨u, hu, pu⟩ := some_
          have my := List.mem_append_right A m
          exact .inl ⟨lfA y my, inrow _ mj u hu y my pu⟩
      · have lf : ∀ u ∈ r, Lf n t u := fun u hu => ⟨in_rng W hr hu, fun e => ca (e ▸ hu), fun e => cb (e ▸ hu)⟩
        rcases rx with ⟨lx, px⟩ | ⟨h, _⟩
        · exact .inl ⟨lf y hy, inrow r (by unfold joinR; exact List.mem_append_left _ (rest_mem.mpr ⟨hr, ca, cb⟩)) x hx y hy px⟩
        · rcases h with rfl | rfl
          · exact (ca hx).elim
          · exact (cb hx).elim
  · rcases rd with ⟨ld, pd⟩ | ⟨h, q⟩
    · refine .inl ⟨lf_other ld, ?_⟩
      rw [less_other ld]
      exact others _ (less_in ht ld) pd
    · rcases h with rfl | rfl
      · exact .inr ⟨.inr (otherOf_even t), q⟩
      · exact .inr ⟨.inl (otherOf_odd t), q⟩
theorem cut_hangs (W : IsWeb v n) (ht : 0 ≤ t ∧ t < (n : Int)) (ap : Apart (io v n) t) (H : Hangs v n) (h2 : 2 ≤ n) : Hangs (lessW t (cutR v t)) (n - 1) := by
  have h12 := W.le
  have C := cut_cut W H ht h2 ap
  have CV := C.web ht h2 h12
  have h := join_hangs (faces_web W) ht ap (io_hangs W H) h2
  rw [← show io (lessW t (cutR v t)) (n - 1) = lessW t (joinR (facesOf v (2 * n)) t) from strike_io W H ht h2 ap] at h
  have := io_hangs (faces_web CV) h
  rwa [show io (facesOf (lessW t (cutR v t)) (2 * (n - 1))) (n - 1) = lessW t (cutR v t) from io_io CV (C.norm ht)] at this
/-- how many places, faces: a tie struck -/
theorem cut_lens (W : IsWeb v n) (ht : 0 ≤ t ∧ t < (n : Int)) (ap : Apart (io v n) t) (H : Hangs v n) (h2 : 2 ≤ n) : (lessW t (cutR v t)).length = v.length ∧ (io (lessW t (cutR v t)) (n - 1)).length + 1 = (io v n).length := by
  have C := cut_cut W H ht h2 ap
  refine ⟨?_, ?_⟩
  · rw [C.len ht]
    unfold cutR
    rw [List.length_map]
  · rw [strike_io W H ht h2 ap, (join_cut (faces_web W) ht ap (io_hangs W H) h2).len ht]
    exact join_len (faces_web W) ht ap
end
end RN
/-! Webs made tie by tie have one part and no handle. -/
namespace RK
open PySem PySem.Spec L2 DL WA RM WB WC RP RD RB WF RC RI RH
theorem apart_le {E : Int → Int → Prop} {m : Nat} {L M : List Int} (rng : ∀ x ∈ L, 0 ≤ x ∧ x < (m : Int)) (apart : L.Pairwise fun x y => ¬ Cl E x y) (b : Rep E m M) : L.length ≤ M.length := by
  have ex : ∀ x : Int, ∃ y : Int, x ∈ L → y ∈ M ∧ Cl E y x := fun x => by
    by_cases c : x ∈ L
    · obtain ⟨y, hy, t⟩ := b.all x (rng x c)
      exact ⟨y, fun _ => ⟨hy, t⟩⟩
    · exact ⟨0, fun h => absurd h c⟩
  obtain ⟨φ, hφ⟩ := Classical.axiomOfChoice ex
  have nd : (L.map φ).Nodup := List.pairwise_map.mpr (apart.imp_of_mem fun {x y} hx hy no e => no (((hφ x hx).2.symm).trans (e ▸ (hφ y hy).2)))
  have := RE.len_sub (b := M) nd fun z hz => by
    obtain ⟨x, hx, rfl⟩ := List.mem_map.1 hz
    exact (hφ x hx).1
  rwa [List.length_map] at this
/-- what is changed along one ring alone leaves as many -/
theorem cnt_keep {f g : Int → Int} {m : Nat} {d : Int} (pf : Pm f m) (hd : 0 ≤ d ∧ d < (m : Int))
    (off : ∀ x, 0 ≤ x ∧ x < (m : Int) → ¬ Cl (St f m) d x → g x = f x)
    (on : ∀ x, 0 ≤ x ∧ x < ((m + 2 : Nat) : Int) → (x < (m : Int) → Cl (St f m) d x) → (m : Int) ≤ g x ∨ Cl (St f m) d (g x)) {k j : Nat} (a : Cnt (St f m) m k) (b : Cnt (St g (m + 2)) (m + 2) j) : k ≤ j := by
  obtain ⟨L, r, rfl⟩ := a
  obtain ⟨M, s, rfl⟩ := b
  obtain ⟨d', hd', td⟩ := r.all d hd
  obtain ⟨l1, l2, e⟩ := List.append_of_mem hd'
  have ap := r.apart
  rw [e] at ap
  have p := List.pairwise_append.mp ap
  have base : (l1 ++ l2).Pairwise fun x y => ¬ Cl (St f m) x y := List.pairwise_append.mpr ⟨p.1, (List.pairwise_cons.1 p.2.1).2, fun x hx y hy => p.2.2 x hx y (List.mem_cons_of_mem _ hy)⟩
  have sub : ∀ x, x ∈ l1 ++ l2 → (0 ≤ x ∧ x < (m : Int)) ∧ ¬ Cl (St f m) d x := fun x hx => by
    refine ⟨r.rng x (by rw [e]; simp at hx ⊢; rcases hx with z | z <;> simp [z]), fun t => ?_⟩
    have t := td.trans t
    rcases List.mem_append.1 hx with z | z
    · exact p.2.2 x z d' (by simp) t.symm
    · exact (List.pairwise_cons.1 p.2.1).1 x z t
  -- a ring off d stays as it is
  have inv : ∀ x, (0 ≤ x ∧ x < (m : Int)) → ¬ Cl (St f m) d x → ∀ u v, St g (m + 2) u v → (((0 ≤ u ∧ u < (m : Int)) ∧ Cl (St f m) x u) ↔ ((0 ≤ v ∧ v < (m : Int)) ∧ Cl (St f m) x v)) := by
    rintro x hx nx u v ⟨hu, rfl⟩
    by_cases c : u < (m : Int) → Cl (St f m) d u
    · constructor
      · rintro ⟨h1, h2⟩
        exact absurd ((c h1.2).trans h2.symm) nx
      · rintro ⟨h1, h2⟩
        rcases on u hu c with z | z
        · omega
        · exact absurd (z.trans h2.symm) nx
    · have lt : u < (m : Int) := Classical.byContradiction fun z => c fun y => absurd y z
      have no : ¬ Cl (St f m) d u := fun z => c fun _ => z
      have eg := off u ⟨hu.1, lt⟩ no
      have st : Cl (St f m) u (f u) := Cl.of ⟨⟨hu.1, lt⟩, rfl⟩
      rw [eg]
      constructor
      · rintro ⟨h1, h2⟩
        exact ⟨pf.rng u ⟨hu.1, lt⟩, h2.trans st⟩
      · rintro ⟨h1, h2⟩
        exact ⟨⟨hu.1, lt⟩, h2.trans st.symm⟩
  have := apart_le (E := St g (m + 2)) (m := m + 2) (L := (m : Int) :: (l1 ++ l2)) (fun x hx => by
    rcases List.mem_cons.1 hx with rfl | z
    · omega
    · have := (sub x z).1; omega) (List.pairwise_cons.mpr ⟨fun x hx t => ?_, base.imp_of_mem fun {x y} hx hy no t => ?_⟩) s
  · rw [e]
    simp at this ⊢
    omega
  · obtain ⟨rx, nx⟩ := sub x hx
    have := ((t _ (inv x rx nx)).mpr ⟨rx, Cl.refl x⟩).1
    omega
  · obtain ⟨rx, nx⟩ := sub x hx
    exact no ((t _ (inv x rx nx)).mp ⟨rx, Cl.refl x⟩).2
section
variable {w : List (List Int)} {n : Nat}
theorem along_pm (W : IsWeb w n) : Pm (along w) (2 * n) where
  rng x h := by have := RM.along_in W (d := x) (by omega); omega
  inj x y hx hy e := RM.along_inj W (by omega) (by omega) e
theorem faces_cnt (W : IsWeb w n) : Cnt (St (along w) (2 * n)) (2 * n) (io w n).length :=
  cnt_congr (fun x y _ _ => ⟨Cl.mono fun u v e => Cl.of ⟨e.1, by rw [e.2]; have := e.1; exact io_next W (by omega)⟩, Cl.mono fun u v e => Cl.of ⟨e.1, by rw [e.2]; have := e.1; exact (io_next W (by omega)).symm⟩⟩) (web_cnt (faces_web W))
/-- all darts hang together -/
def One (w : List (List Int)) (n : Nat) : Prop := ∀ x y, (0 ≤ x ∧ x < 2 * (n : Int)) → (0 ≤ y ∧ y < 2 * (n : Int)) → Tog w n x y
theorem one_reps (W : IsWeb w n) (h : One w n) : Reps w n [0] := ⟨fun x hx => by rw [List.mem_singleton.1 hx]; have := W.pos; omega, List.pairwise_singleton _ _, fun y hy => ⟨0, by simp, h 0 y (by have := W.pos; omega) hy⟩⟩
theorem clo_put {d f : Int} {s : List (List Int)} {P : Int → Prop} (c : Clo (w.map (putRow d f) ++ s) (n + 1) P) : Clo w n P := by
  have sub : ∀ {r : List Int} {x : Int}, x ∈ r → x ∈ putRow d f r := fun {r x} h => by
    by_cases hd : d ∈ r
    · exact (putRow_perm hd).mem_iff.mpr (List.mem_cons_of_mem _ h)
    · have e : putRow d f r = r := by unfold putRow; rw [if_neg hd]
      rw [e]; exact h
  exact ⟨fun r hr x hx y hy => c.1 _ (List.mem_append_left _ (List.mem_map.mpr ⟨r, hr, rfl⟩)) x (sub hx) y (sub hy), fun x hx => c.2 x (by omega)⟩
theorem clo_put2 {d f e g : Int} {P : Int → Prop} (c : Clo ((w.map (putRow d f)).map (putRow e g)) (n + 1) P) : Clo w n P := by
  have sub : ∀ {d f : Int} {r : List Int} {x : Int}, x ∈ r → x ∈ putRow d f r := fun {d f r x} h => by
    by_cases hd : d ∈ r
    · exact (putRow_perm hd).mem_iff.mpr (List.mem_cons_of_mem _ h)
    · have e : putRow d f r = r := by unfold putRow; rw [if_neg hd]
      rw [e]; exact h
  exact ⟨fun r hr x hx y hy => c.1 _ (List.mem_map.mpr ⟨_, List.mem_map.mpr ⟨r, hr, rfl⟩, rfl⟩) x (sub (sub hx)) y (sub (sub hy)), fun x hx => c.2 x (by omega)⟩
theorem one_step {v : List (List Int)} (V : IsWeb v (n + 1)) (h : One w n) (h1 : 1 ≤ n) (old : ∀ P, Clo v (n + 1) P → Clo w n P) (new : ∃ d, (0 ≤ d ∧ d < 2 * (n : Int)) ∧ Tog v (n + 1) ((2 * n : Nat) : Int) d) : One v (n + 1) := by
  have base : ∀ x y, (0 ≤ x ∧ x < 2 * (n : Int)) → (0 ≤ y ∧ y < 2 * (n : Int)) → Tog v (n + 1) x y := fun x y hx hy P c => h x y hx hy P (old P c)
  obtain ⟨d, hd, t⟩ := new
  have t2 : Tog v (n + 1) ((2 * n : Nat) : Int) ((2 * n + 1 : Nat) : Int) := by
    have := Tog.other (w := v) (n := n + 1) (x := ((2 * n : Nat) : Int)) (by omega)
    rcases other_split (k := n) ((2 * n : Nat) : Int) with ⟨_, e⟩ | ⟨h, _⟩ | ⟨h, _⟩
    · rw [e] at this
      rwa [show ((2 * n + 1 : Nat) : Int) = 2 * (n : Int) + 1 by omega]
    · omega
    · exact absurd (by omega) h
  have all : ∀ x, (0 ≤ x ∧ x < 2 * ((n + 1 : Nat) : Int)) → Tog v (n + 1) d x := fun x hx => by
    by_cases c : x < 2 * (n : Int)
    · exact base d x hd ⟨hx.1, c⟩
    · by_cases e : x = ((2 * n : Nat) : Int)
      · rw [e]; exact t.symm
      · rw [show x = ((2 * n + 1 : Nat) : Int) by omega]
        exact t.symm.trans t2
  exact fun x y hx hy => (all x hx).symm.trans (all y hy)
theorem io_pos (W : IsWeb w n) : 1 ≤ (io w n).length := by
  have V : IsWeb (io w n) n := faces_web W
  have := V.len
  have h1 := W.pos
  cases h : io w n with
  | nil => rw [h] at this; simp at this; omega
  | cons a l => simp
theorem grown_flat : ∀ {rows : List (List Int)} {n : Nat}, Grown rows n → n ≤ 12 → One rows n ∧ rows.length + (io rows n).length = 2 + n := by
  intro rows n g
  induction g with
  | two =>
    intro le
    have W : IsWeb [[0], [1]] 1 := Grown.two.web (by decide)
    have t : Tog [[0], [1]] 1 0 1 := Tog.other (x := 0) (by decide)
    have o : One [[0], [1]] 1 := fun x y hx hy => by
      have a : x = 0 ∨ x = 1 := by omega
      have b : y = 0 ∨ y = 1 := by omega
      rcases a with rfl | rfl <;> rcases b with rfl | rfl
      · exact Tog.refl _
      · exact t
      · exact t.symm
      · exact Tog.refl _
    obtain ⟨h, e⟩ := euler W (one_reps W o)
    have := io_pos W
    refine ⟨o, ?_⟩
    simp at e ⊢
    omega
  | loop =>
    intro le
    have W : IsWeb [[0, 1]] 1 := Grown.loop.web (by decide)
    have t : Tog [[0, 1]] 1 0 1 := Tog.other (x := 0) (by decide)
    have o : One [[0, 1]] 1 := fun x y hx hy => by
      have a : x = 0 ∨ x = 1 := by omega
      have b : y = 0 ∨ y = 1 := by omega
      rcases a with rfl | rfl <;> rcases b with rfl | rfl
      · exact Tog.refl _
      · exact t
      · exact t.symm
      · exact Tog.refl _
    obtain ⟨h, e⟩ := euler W (one_reps W o)
    have := io_pos W
    refine ⟨o, ?_⟩
    simp at e ⊢
    omega
  | grow g h0 h1 ih =>
    rename_i w n d
    intro le
    obtain ⟨o, f⟩ := ih (by omega)
    have W : IsWeb w n := g.web (by omega)
    have V : IsWeb (grownR w n d) (n + 1) := (g.grow h0 h1).web le
    have hd : 0 ≤ d ∧ d < 2 * (n : Int) := ⟨h0, h1⟩
    obtain ⟨r, hr, dr⟩ := (rows_of W).at (d := d) (by omega)
    have o' : One (grownR w n d) (n + 1) := one_step V o W.pos (fun P c => clo_put c) ⟨d, hd, Tog.row (r := putRow d ((2 * n : Nat) : Int) r) (List.mem_append_left _ (List.mem_map.mpr ⟨r, hr, rfl⟩)) ((putRow_perm dr).mem_iff.mpr List.mem_cons_self) ((putRow_perm dr).mem_iff.mpr (List.mem_cons_of_mem _ dr))⟩
    refine ⟨o', ?_⟩
    obtain ⟨h, e⟩ := euler V (one_reps V o')
    have keep : (io w n).length ≤ (io (grownR w n d) (n + 1)).length := by
      refine cnt_keep (d := d) (along_pm W) (by omega) (fun x hx no => ?_) (fun x hx on => ?_) (faces_cnt W) (faces_cnt V)
      · show nextOf _ (otherOf x) = nextOf _ (otherOf x)
        have ox := WA.other_in (m := n) (d := x) (by omega)
        rw [grow_old W V ox, if_neg]
        exact fun z => no ((Cl.of ⟨hx, rfl⟩ : Cl (St (along w) (2 * n)) x (along w x)).trans (by
          show Cl _ (nextOf w (otherOf x)) d
          rw [z]; exact Cl.refl d)).symm
      · show _ ≤ nextOf _ (otherOf x) ∨ Cl _ d (nextOf _ (otherOf x))
        rcases other_split (k := n) x with ⟨_, e⟩ | ⟨_, e⟩ | ⟨a, b⟩
        · rw [e, show 2 * (n : Int) + 1 = ((2 * n + 1 : Nat) : Int) by omega, grow_odd V]
          exact .inl (by omega)
        · rw [e, show 2 * (n : Int) = ((2 * n : Nat) : Int) by omega, grow_even W V hd]
          exact .inr (Cl.refl d)
        · have rx : 0 ≤ x ∧ x < 2 * (n : Int) := by omega
          rw [grow_old W V (WA.other_in rx)]
          by_cases c : nextOf w (otherOf x) = d
          · rw [if_pos c]; exact .inl (Int.le_refl _)
          · rw [if_neg c]; exact .inr ((on (by omega)).trans (Cl.of ⟨by omega, rfl⟩))
    have l1 : (grownR w n d).length = w.length + 1 := by unfold grownR; simp
    simp at e
    show (grownR w n d).length + (io (grownR w n d) (n + 1)).length = _
    omega
  | draw g h0 h1 k he ih =>
    rename_i w n d e
    intro le
    obtain ⟨o, f⟩ := ih (by omega)
    have W : IsWeb w n := g.web (by omega)
    have V : IsWeb (drawnR w n d e) (n + 1) := (g.draw h0 h1 k he).web le
    have hd : 0 ≤ d ∧ d < 2 * (n : Int) := ⟨h0, h1⟩
    have re : 0 ≤ e ∧ e < 2 * (n : Int) := by rw [he]; exact it_in W hd k
    have de : Cl (St (along w) (2 * n)) d e := by rw [he]; exact st_it (along_pm W) (by omega) k
    obtain ⟨r, hr, dr⟩ := (rows_of W).at (d := d) (by omega)
    have sub : ∀ {d f : Int} {r : List Int} {x : Int}, x ∈ r → x ∈ putRow d f r := fun {d f r x} h => by
      by_cases hd : d ∈ r
      · exact (putRow_perm hd).mem_iff.mpr (List.mem_cons_of_mem _ h)
      · have e : putRow d f r = r := by unfold putRow; rw [if_neg hd]
        rw [e]; exact h
    have o' : One (drawnR w n d e) (n + 1) := one_step V o W.pos (fun P c => clo_put2 c) ⟨d, hd, Tog.row (r := putRow e ((2 * n + 1 : Nat) : Int) (putRow d ((2 * n : Nat) : Int) r)) (List.mem_map.mpr ⟨_, List.mem_map.mpr ⟨r, hr, rfl⟩, rfl⟩) (sub ((putRow_perm dr).mem_iff.mpr List.mem_cons_self)) (sub ((putRow_perm dr).mem_iff.mpr (List.mem_cons_of_mem _ dr)))⟩
    refine ⟨o', ?_⟩
    obtain ⟨h, e'⟩ := euler V (one_reps V o')
    have keep : (io w n).length ≤ (io (drawnR w n d e) (n + 1)).length := by
      refine cnt_keep (d := d) (along_pm W) (by omega) (fun x hx no => ?_) (fun x hx on => ?_) (faces_cnt W) (faces_cnt V)
      · show nextOf _ (otherOf x) = nextOf _ (otherOf x)
        have ox := WA.other_in (m := n) (d := x) (by omega)
        have step : Cl (St (along w) (2 * n)) x (nextOf w (otherOf x)) := Cl.of ⟨hx, rfl⟩
        rw [draw_old W V hd re ox, if_neg fun z => no (by rw [z] at step; exact step.symm), if_neg fun z => no (by rw [z] at step; exact de.trans step.symm)]
      · show _ ≤ nextOf _ (otherOf x) ∨ Cl _ d (nextOf _ (otherOf x))
        rcases other_split (k := n) x with ⟨_, e2⟩ | ⟨_, e2⟩ | ⟨a, b⟩
        · rw [e2, show 2 * (n : Int) + 1 = ((2 * n + 1 : Nat) : Int) by omega, draw_odd W V hd re]
          exact .inr de
        · rw [e2, show 2 * (n : Int) = ((2 * n : Nat) : Int) by omega, draw_even W V hd]
          by_cases c : d = e
          · rw [if_pos c]; exact .inl (by omega)
          · rw [if_neg c]; exact .inr (Cl.refl d)
        · have rx : 0 ≤ x ∧ x < 2 * (n : Int) := by omega
          rw [draw_old W V hd re (WA.other_in rx)]
          by_cases c : nextOf w (otherOf x) = d
          · rw [if_pos c]; exact .inl (Int.le_refl _)
          · rw [if_neg c]
            by_cases c2 : nextOf w (otherOf x) = e
            · rw [if_pos c2]; exact .inl (by omega)
            · rw [if_neg c2]; exact .inr ((on (by omega)).trans (Cl.of ⟨by omega, rfl⟩))
    have l1 : (drawnR w n d e).length = w.length := by unfold drawnR; simp
    simp at e'
    show (drawnR w n d e).length + (io (drawnR w n d e) (n + 1)).length = _
    omega
end
end RK
/-! Parts, handles, flatness, by the program. -/
namespace RH
open PySem PySem.Spec L2 DL WA RM WB WC RP RD RB WF RC RI
open RE (spI)
section
variable {w : List (List Int)} {n : Nat}
structure Po (w : List (List Int)) (n : Nat) (ps : List (List Int)) (xs left : List Int) : Prop where
  len : xs.length = ps.length
  rng : ∀ x ∈ xs, 0 ≤ x ∧ x < 2 * (n : Int)
  apart : xs.Pairwise fun x y => ¬ Tog w n x y
  nd : left.Nodup
  sub : ∀ q ∈ left, 0 ≤ q ∧ q < (w.length : Int)
  spec : ∀ y, 0 ≤ y ∧ y < 2 * (n : Int) → (spI w y ∈ left ↔ ∀ x ∈ xs, ¬ Tog w n x y)
  few : ps.length + left.length ≤ w.length
  small : ∀ s ∈ ps, ∀ p ∈ s, 0 ≤ p ∧ p < (w.length : Int)
theorem Po.next {ps : List (List Int)} {xs left s : List Int} {x0 : Int} (h : Po w n ps xs left) (h0 : 0 ≤ x0 ∧ x0 < 2 * (n : Int)) (m : spI w x0 ∈ left) (sr : ∀ p ∈ s, 0 ≤ p ∧ p < (w.length : Int)) (ss : ∀ x, 0 ≤ x ∧ x < 2 * (n : Int) → (spI w x ∈ s ↔ Tog w n x0 x)) :
    Po w n (ps ++ [s]) (xs ++ [x0]) (left.filter fun q => decide (q ∉ s)) ∧ (left.filter fun q => decide (q ∉ s)).length < left.length := by
  have ms : spI w x0 ∈ s := (ss x0 h0).mpr (Tog.refl x0)
  have less : (left.filter fun q => decide (q ∉ s)).length < left.length := by
    refine Nat.lt_of_le_of_ne (List.length_filter_le _ _) fun e => ?_
    have := List.length_filter_eq_length_iff.mp e _ m
    exact of_decide_eq_true this ms
  have f := h.few
  refine ⟨⟨by simp [h.len], fun x hx => (List.mem_append.1 hx).elim (h.rng x) fun z => by rw [List.mem_singleton.1 z]; exact h0, ?_, h.nd.filter _, fun q hq => h.sub q (List.mem_filter.1 hq).1, fun y hy => ?_, by rw [List.length_append, List.length_singleton]; omega, fun t ht => (List.mem_append.1 ht).elim (h.small t) fun z => by rw [List.mem_singleton.1 z]; exact sr⟩, less⟩
  · refine List.pairwise_append.mpr ⟨h.apart, List.pairwise_singleton _ _, fun a ha b hb => ?_⟩
    rw [List.mem_singleton.1 hb]
    exact (h.spec x0 h0).mp m a ha
  · rw [List.mem_filter, h.spec y hy, decide_eq_true_iff, ss y hy]
    constructor
    · rintro ⟨a, b⟩ x hx
      rcases List.mem_append.1 hx with z | z
      · exact a x z
      · rw [List.mem_singleton.1 z]; exact b
    · intro a
      exact ⟨fun x hx => a x (List.mem_append_left _ hx), a x0 (by simp)⟩
theorem Po.reps {ps : List (List Int)} {xs : List Int} (h : Po w n ps xs []) : Reps w n xs := ⟨h.rng, h.apart, fun y hy => Classical.byContradiction fun no => by
  have := (h.spec y hy).mpr fun x hx t => no ⟨x, hx, t⟩
  exact List.not_mem_nil this⟩
def PoI (w : List (List Int)) (n : Nat) (k : Nat) (ρ : Fm) : Prop := ∃ ps xs left o3, ρ = [some (webD w), some (.lst (ps.map rowD)), some (.lst (intsD left)), o3, none] ∧ Po w n ps xs left ∧ k = left.length
theorem parts_ok (W : IsWeb w n) : ∃ (ps : List (List Int)) (L : List Int), d_parts_of [webD w] = some (webD ps, [some (webD w)]) ∧ Reps w n L ∧ L.length = ps.length ∧ ps.length ≤ w.length ∧ ∀ s ∈ ps, ∀ p ∈ s, 0 ≤ p ∧ p < (w.length : Int) := by
  have lw := W.rows
  have okw : okR (w.length : Int) = true ∧ (w.length : Int) ≤ 16777216 := ⟨okR_of' (by omega) (by omega), by omega⟩
  have lnw : dLen [webD w] = some (.int (w.length : Nat)) := by
    show some (D.int ((w.map rowD).length : Nat)) = _
    rw [List.length_map]
  have main : Ok (d_parts_of [webD w]) fun z => ∃ (ps : List (List Int)) (L : List Int), z = (webD ps, [some (webD w)]) ∧ Reps w n L ∧ L.length = ps.length ∧ ps.length ≤ w.length ∧ ∀ s ∈ ps, ∀ p ∈ s, 0 ≤ p ∧ p < (w.length : Int) := by
    simp [d_parts_of, b_parts_of, denOf, lnw, okw, iota_up, big_ok, ok_bind]
    refine ok_mono (ok_while (P := fun z => ∃ ps xs o3, z = (.nx, [some (webD w), some (.lst (ps.map rowD)), some (.lst []), o3, none]) ∧ Po w n ps xs []) (PoI w n) ?_ (k := w.length) (by unfold fuel; omega)
      ⟨[], [], up w.length, none, rfl, ⟨rfl, by simp, List.Pairwise.nil, up_nodup _, fun q hq => up_mem.mp hq, fun y hy => ⟨fun _ x hx => absurd hx List.not_mem_nil, fun _ => up_mem.mpr (sp_in W hy)⟩, by simp [up_length], by simp⟩, by rw [up_length]⟩) ?_
    · rintro k ρ ⟨ps, xs, left, o3, rfl, h, rfl⟩
      have f := h.few
      cases left with
      | nil =>
        simp [big_ok]
        exact ⟨ps, rfl, xs, h⟩
      | cons q0 rest =>
        have q0r := h.sub q0 (by simp)
        obtain ⟨r, hr, _, _, dr, _⟩ := RE.row_at W q0r.1 q0r.2
        obtain ⟨x0, hx0⟩ : ∃ x, x ∈ r := List.exists_mem_of_ne_nil _ (W.ne r (List.mem_of_getElem? hr))
        obtain ⟨sp, rx⟩ := dr x0 hx0
        obtain ⟨s, e1, sr, snd, ss⟩ := part_from_ok W rx
        rw [sp] at e1
        obtain ⟨nx, less⟩ := h.next rx (by rw [sp]; simp) sr ss
        have s0 : dSubs (.lst (intsD (q0 :: rest))) (.int 0) = some (.int q0) := dSubs_seq rfl (by decide) rfl rfl
        have is := imm_row s
        have iw := imm_rows w
        have ap := append_l (ds := ps.map rowD) (y := rowD s) (big_lt (by rw [List.length_map]; omega))
        have more : (ps ++ [s]).map rowD = ps.map rowD ++ [rowD s] := by simp
        have nv : dNe (.lst (intsD (q0 :: rest))) (.lst []) = some (.bl true) := by rw [ne_void]; rfl
        have fl : frzL (intsD (q0 :: rest)) = some (intsD (q0 :: rest)) := frzL_id _ (immL_ints _)
        have il := immL_ints (q0 :: rest)
        have lf : ((q0 :: rest).filter fun q => decide (q ∉ s)).length ≤ 100 := by
          have := nx.few
          omega
        generalize hl : q0 :: rest = left at *
        clear hl
        generalize hA : ps.map rowD = A at ap more
        simp [nv, s0, e1, is, iw, ap, fl, il, wipeF, big_ok, ok_bind, -List.map_append]
        refine ok_lcFil (emb := D.int) D.int (fun q => decide (q ∉ s)) (fun q hq => ?_) ?_
        · have ni : dNotIn (.int q) (rowD s) = some (.bl (!decide (q ∈ s))) := RF.notIn_row q s
          obtain ⟨Y, hY⟩ : ∃ Y : Fm, Y = [some (webD w), some (.lst (A ++ [rowD s])), some (.flst (intsD left)), some (rowD s), some (.int q)] := ⟨_, rfl⟩
          exact ⟨Y, by simp [hY], Y, by simp [hY, ni], fun _ => by simp [hY, wipeF], fun _ => ⟨.var 4, Y, Y, by simp [hY], by simp [hY], by simp [hY, wipeF]⟩⟩
        · have e2 : (left.filter fun q => decide (q ∉ s)).map D.int = intsD (left.filter fun q => decide (q ∉ s)) := rfl
          rw [e2]
          generalize left.filter (fun q => decide (q ∉ s)) = left' at nx less lf
          simp [big_ok (n := left'.length) (by omega)]
          exact ⟨left'.length, less, ps ++ [s], xs ++ [x0], left', _, by rw [more], nx, rfl⟩
    · rintro ⟨o, ρ⟩ ⟨ps, xs, o3, e, h⟩
      cases e
      have tp := tuple_l (imm_rows ps)
      simp [tp]
      exact ⟨ps, rfl, xs, h.reps, h.len, by have := h.few; simp at this; omega, fun s hs p hp => h.small s hs p hp⟩
  obtain ⟨z, e, ps, L, rfl, h⟩ := main
  exact ⟨ps, L, e, h⟩
end
end RH
/-! Handles, flatness; the law's faces. -/
namespace RH
open PySem PySem.Spec L2 DL WA RM WB WC RP RD RB WF RC RI
open RE (spI)
section
variable {w : List (List Int)} {n : Nat} {L : List Int}
def hdl (w : List (List Int)) (n k : Nat) : Int := (2 * (k : Int) + n - w.length - (io w n).length).fdiv 2
theorem parts_len (W : IsWeb w n) (R : Reps w n L) : ∃ ps : List (List Int), d_parts_of [webD w] = some (webD ps, [some (webD w)]) ∧ dLen [webD ps] = some (.int (L.length : Nat)) := by
  obtain ⟨ps, M, e, R', l, _⟩ := parts_ok W
  refine ⟨ps, e, ?_⟩
  show some (D.int ((ps.map rowD).length : Nat)) = _
  rw [List.length_map, ← l, reps_len R' R]
theorem handles_ok (W : IsWeb w n) (R : Reps w n L) : d_handles [webD w] = some (.int (hdl w n L.length), [some (webD w)]) := by
  obtain ⟨ps, e, l⟩ := parts_len W R
  have ti := RM.ties_ok W
  have fo := faces_ok W
  have iw := imm_rows w
  have ip := imm_rows ps
  have ifc := imm_rows (io w n)
  have l1 : dLen [webD w] = some (.int (w.length : Nat)) := by
    show some (D.int ((w.map rowD).length : Nat)) = _
    rw [List.length_map]
  have l2 : dLen [webD (io w n)] = some (.int ((io w n).length : Nat)) := by
    show some (D.int (((io w n).map rowD).length : Nat)) = _
    rw [List.length_map]
  have m2 : ∀ x : Int, dMul (.int 2) (.int x) = some (.int (2 * x)) := fun x => mul_l (by decide) (by decide)
  unfold hdl
  unfold io at *
  generalize facesOf w (2 * n) = f at *
  simp [d_handles, b_handles, denOf, e, l, ti, fo, l1, l2, iw, ip, ifc, m2]
theorem flat_ok (W : IsWeb w n) (R : Reps w n L) : d_is_flat [webD w] = some (.bl (decide (L.length = 1) && decide (hdl w n L.length = 0)), [some (webD w)]) := by
  obtain ⟨ps, e, l⟩ := parts_len W R
  have h := handles_ok W R
  have iw := imm_rows w
  have ip := imm_rows ps
  generalize hdl w n L.length = x at *
  by_cases c : L.length = 1
  · have c' : ((L.length : Nat) : Int) = 1 := by omega
    simp [d_is_flat, b_is_flat, denOf, e, l, h, iw, ip, c]
  · have c' : ¬ ((L.length : Nat) : Int) = 1 := by omega
    simp [d_is_flat, b_is_flat, denOf, e, l, h, iw, ip, c, c']
end
/-! ### rings -/
section
variable {rows : List (List Int)} {n : Nat} (W : IsWeb rows n) {x y : D} {emb : List Int → D} (hx : Reads x y emb rows)
include W hx
theorem ring_ok {d : Int} (h : 0 ≤ d ∧ d < 2 * (n : Int)) : ∃ j, Ring rows n d j ∧ j ≤ 2 * n ∧ d__law_ring [x, .int d] = some (.lst (intsD (chain (along rows) d j)), [some y, some (.int d)]) := by
  obtain ⟨j, R, hj⟩ := ring_of W h
  have hn := W.le
  refine ⟨j, R, hj, ?_⟩
  have main : Ok (d__law_ring [x, .int d]) fun z => z = (.lst (intsD (chain (along rows) d j)), [some y, some (.int d)]) := by
    have oth : dXor (.int d) (.int 1) = some (.int (otherOf d)) := congrArg (fun z => some (D.int z)) (RM.xor_one (by omega) (by omega))
    have g0 := next_ok W hx (W.mem.mpr (RM.other_in W h))
    have e1 : nextOf rows (otherOf d) = it (along rows) d 1 := rfl
    have c1 : intsD (chain (along rows) d (0 + 1)) = [.int d] := by simp [chain, it]
    rw [e1] at g0
    have imy := hx.imm
    have hxa := hx.again
    have first : ∀ a b c : Option D, (if imm x = true then if imm x = true then [some x, a, b, c] else [none, a, b, c] else List.set (if imm x = true then [some x, a, b, c] else [none, a, b, c]) 0 (some y)) = [some y, a, b, c] := fun a b c => by
      by_cases hi : imm x = true
      · have := frz_id x hi
        rw [hx.frz] at this
        cases this
        simp [hi]
      · simp [hi]
    simp [RH.d__law_ring, RH.b__law_ring, denOf, oth, g0, big_ok, ok_bind, first]
    refine ok_mono (ok_while (P := fun z => ∃ a, z = (.nx, [some y, some (.int d), some (.lst (intsD (chain (along rows) d j))), a])) (Ri3 rows y d j) ?_ (k := j - 1) (by unfold fuel; omega) ⟨0, by have := R.pos; omega, by rw [c1]⟩) ?_
    · rintro k ρ ⟨i, hij, rfl⟩
      by_cases hk : k = 0
      · have ej : it (along rows) d (i + 1) = d := by rw [show i + 1 = j by omega]; exact R.back
        simp [ej]
        rw [show i + 1 = j by omega]
      · have ej := ring_new R (i := i) (by omega)
        have ink := it_in W h (i + 1)
        have oth : dXor (.int (it (along rows) d (i + 1))) (.int 1) = some (.int (otherOf (it (along rows) d (i + 1)))) := congrArg (fun z => some (D.int z)) (RM.xor_one (by omega) (by omega))
        have g := next_ok W hxa (W.mem.mpr (RM.other_in W ink))
        have e2 : nextOf rows (otherOf (it (along rows) d (i + 1))) = it (along rows) d (i + 2) := rfl
        rw [e2] at g
        have ap := append_l (ds := intsD (chain (along rows) d (i + 1))) (y := .int (it (along rows) d (i + 1))) (big_lt (by simp [chain_len]; omega))
        simp [ej, ap, oth, g, imy]
        refine ⟨k - 1, by omega, i + 1, by omega, ?_⟩
        rw [chain_succ (along rows) d (i + 1)]
        simp
    · rintro z ⟨a, rfl⟩
      simp
  obtain ⟨z, e, rfl⟩ := main
  exact e
end
/-! ### all faces, by the law -/
end RH
/-! Webs by draws from a dict's feed: any, with rows in order; flat ones. -/
namespace RH
open PySem PySem.Spec L2 DL WA RM WB WC RP RD RB WF RC RI
end RH
/-! Turns by draws, webs called by them, flat webs by draws, from a dict's feed. -/
namespace RH
open PySem PySem.Spec L2 DL WA RM WB WC RP RD RB WF RC RI
def TuI (n : Nat) (p : Nat) (acc : List D) (ρ : Fm) : Prop := ∃ (f : D) (left T : List Int), acc = intsD T ∧ ρ = [some f, some (.int n), some (.lst (intsD left)), none] ∧ IsFeed f ∧ Named n (namesOf T) left ∧ left.length = n - p ∧ T.length = p
theorem turn_ok {d : D} {n : Nat} (h : IsFeed d) (hn : n ≤ 12) : ∃ (T : List Int) (f : D), d__law_turn [d, .int n] = some (rowD T, [some f, some (.int n)]) ∧ Named n (namesOf T) [] ∧ T.length = n ∧ IsFeed f := by
  have main : Ok (d__law_turn [d, .int n]) fun z => ∃ (T : List Int) (f : D), z = (rowD T, [some f, some (.int n)]) ∧ Named n (namesOf T) [] ∧ T.length = n ∧ IsFeed f := by
    have im := h.imm
    have ok1 : okR (n : Int) = true := okR_of' (by omega) (by omega)
    have le1 : (n : Int) ≤ 16777216 := by omega
    simp [d__law_turn, b__law_turn, denOf, ok1, le1, wipeF, ok_bind]
    have io : iota 0 n = (List.range n).map fun (i : Nat) => D.int (i : Int) := by simp [iota]
    rw [io]
    refine ok_lc (emb := fun (i : Nat) => D.int (i : Int)) (xs := List.range n) (TuI n) (fun p x acc ρ hx hI => ?_) (fun acc ρ hI => ?_) ⟨d, up n, [], rfl, by rw [← iota_up, io], h, named_begin n, by simp [up_length], rfl⟩
    · obtain ⟨f, left, T, rfl, rfl, hf, N, hl, hT⟩ := hI
      have lt := (List.getElem?_eq_some_iff.mp hx).1
      rw [List.length_range] at lt
      have imf := hf.imm
      obtain ⟨i5, f5, e5, p5, q5, hf5, im5⟩ := RM.draw_eq hf (m := (left.length : Int)) (by omega) (by omega)
      obtain ⟨c5, g5, m5⟩ := pop_ints (ns := left) (i := i5) p5 (by omega) (by omega)
      obtain ⟨u, f6, e6, p6, q6, hf6, im6⟩ := RM.draw_eq hf5 (m := 2) (by decide) (by decide)
      have := List.length_eraseIdx_of_lt (l := left) (i := i5.toNat) (by omega)
      have m2 : dMul (.int 2) (.int c5) = some (.int (2 * c5)) := mul_l (by decide) (by decide)
      simp [e5, imf, im5, m5, e6, im6, m2, wipeF]
      exact ⟨f6, left.eraseIdx i5.toNat, T ++ [2 * c5 + u], by simp, by simp, hf6, turn_step N g5 (by omega), by omega, by simp [hT]⟩
    · obtain ⟨f, left, T, rfl, rfl, hf, N, hl, hT⟩ := hI
      rw [List.length_range] at hl hT
      have ln : left = [] := List.eq_nil_of_length_eq_zero (by omega)
      subst ln
      simp [hT, big_ok (n := n) (by omega), tuple_l, immL_ints]
      exact ⟨T, f, ⟨rfl, rfl⟩, N, hT, hf⟩
  obtain ⟨z, e, T, f, rfl, r⟩ := main
  exact ⟨T, f, e, r⟩
/-! ### put just ahead -/
def PtI (rows : List (List Int)) (d f : Int) (p : Nat) (ρ : Fm) : Prop := ∃ o4 o5, ρ = [some (.flst (rows.map flR)), some (.int d), some (.int f), some (.lst (((rows.take p).map (putRow d f)).map flR)), o4, o5]
theorem put_ok {x : D} {rows : List (List Int)} {f d : Int} (hx : frzD x = some (.flst (rows.map flR))) (hl : rows.length ≤ 1000) (hr : ∀ r ∈ rows, r.length ≤ 1000) :
    d__law_put [x, .int d, .int f] = some (.lst ((rows.map (putRow d f)).map flR), [some (.flst (rows.map flR)), some (.int d), some (.int f)]) := by
  have main : Ok (d__law_put [x, .int d, .int f]) fun z => z = (.lst ((rows.map (putRow d f)).map flR), [some (.flst (rows.map flR)), some (.int d), some (.int f)]) := by
    have im := immL_flR rows
    simp [d__law_put, b__law_put, denOf, hx, im, big_ok, ok_bind]
    refine ok_mono (ok_at (P := fun z => z.1 = .nx ∧ PtI rows d f rows.length z.2) (emb := flR) rows (PtI rows d f) ?_ (fun ρ h => ⟨rfl, h⟩) ⟨none, none, rfl⟩) ?_
    · rintro p r ρ hp ⟨o4, o5, rfl⟩
      have rl := hr r (List.mem_of_getElem? hp)
      have lt := (List.getElem?_eq_some_iff.mp hp).1
      have tk : rows.take (p + 1) = rows.take p ++ [r] := by rw [List.take_add_one, hp]; rfl
      have rin := in_l (x := flR r) (d := d) (.inr rfl)
      have ap := append_l (ds := ((rows.take p).map (putRow d f)).map flR) (y := flR (putRow d f r)) (big_lt (by simp; omega))
      have more : ((rows.take (p + 1)).map (putRow d f)).map flR = ((rows.take p).map (putRow d f)).map flR ++ [flR (putRow d f r)] := by rw [tk]; simp
      unfold PtI
      rw [more]
      by_cases hm : d ∈ r
      · have ix := index_l (x := flR r) (.inr rfl) hm
        have le := List.idxOf_le_length (l := r) (a := d)
        have c1 := cut_to (intsD r) (r.idxOf d) (by simpa using le)
        have c2 := cut_from (intsD r) (r.idxOf d) (by simpa using le)
        rw [← List.map_take] at c1
        rw [← List.map_drop] at c2
        have k1 := cat_l (a := intsD (r.take (r.idxOf d))) (b := [.int f]) (immL_ints _) rfl (big_ok (by simp; omega))
        have k2 := cat_l (a := intsD (r.take (r.idxOf d)) ++ [.int f]) (b := intsD (r.drop (r.idxOf d))) (by rw [immL_append', immL_ints]; rfl) (immL_ints _) (big_ok (by simp; omega))
        have pr : intsD (r.take (r.idxOf d)) ++ [.int f] ++ intsD (r.drop (r.idxOf d)) = intsD (putRow d f r) := by
          unfold putRow
          rw [if_pos hm]
          simp
        rw [pr] at k2
        have fz : frzL (intsD (putRow d f r)) = some (intsD (putRow d f r)) := frzL_id _ (immL_ints _)
        have ir := immL_ints r
        generalize ((rows.take p).map (putRow d f)).map flR = A at ap ⊢
        have ap' : mAppend (.lst A) [.flst (intsD (putRow d f r))] = some (.lst (A ++ [.flst (intsD (putRow d f r))]), .non) := ap
        obtain ⟨Z, hZ⟩ : ∃ Z, Z = intsD (putRow d f r) := ⟨_, rfl⟩
        rw [← hZ] at k2 fz ap'
        simp [rin, hm, ap_index, ap_methR, ix, ir, c1, c2, k1, k2, fz, ap', big_ok, -List.map_take, -List.map_drop, -List.map_append, -List.map_map]
        exact hZ
      · have pr : putRow d f r = r := by unfold putRow; rw [if_neg hm]
        rw [pr] at ap ⊢
        have fr : frzD (flR r) = some (flR r) := frz_id _ (immL_ints r)
        have ir : imm (flR r) = true := immL_ints r
        generalize ((rows.take p).map (putRow d f)).map flR = A at ap ⊢
        simp [rin, hm, fr, ir, ap, big_ok, -frz_flst]
    · rintro ⟨o, ρ⟩ ⟨ho, o4, o5, e⟩
      have ho : o = .nx := ho
      subst ho
      have e : ρ = _ := e
      subst e
      simp
  obtain ⟨z, e, rfl⟩ := main
  exact e
end RH
/-! Webs called by turns, flat webs by draws, from a dict's feed. -/
namespace RH
open PySem PySem.Spec L2 DL WA RM WB WC RP RD RB WF RC RI
theorem called_ok {x y : D} {emb : List Int → D} {rows : List (List Int)} {n : Nat} {T : List Int} (W : IsWeb rows n) (hx : Reads x y emb rows) (N : Named n (namesOf T) []) (hT : T.length = n) :
    d__law_called [x, rowD T] = some (webD (calledWeb (namesOf T) rows), [some y, some (rowD T)]) := by
  have lw := W.rows
  have hn := W.le
  have fT : frzD (rowD T) = some (.tup (intsD T)) := frz_id _ (imm_row T)
  have lN := names_len T
  obtain ⟨pm, _⟩ := N.whole
  have rg : ∀ d ∈ T, 0 ≤ d ∧ d < 24 := fun d hd => by
    have := up_mem.mp (pm.mem_iff.mp (mem_names.mpr (.inl hd)))
    omega
  have fx := hx.frz
  have iy := hx.imm
  obtain ⟨hz, hc⟩ := hx
  have main : Ok (d__law_called [x, rowD T]) fun z => z = (webD (calledWeb (namesOf T) rows), [some y, some (rowD T)]) := by
    simp [d__law_called, b__law_called, denOf, big_ok, fT, ok_bind]
    refine ok_mono (ok_at (P := fun z => z.1 = .nx ∧ ∃ o3, z.2 = [some x, some (rowD T), some (.lst (intsD (namesOf T))), o3, none]) (emb := D.int) T (fun p ρ => ∃ o3, ρ = [some x, some (rowD T), some (.lst (intsD (namesOf (T.take p)))), o3, none]) ?_ (fun ρ ⟨o3, e⟩ => ⟨rfl, o3, by rw [e, List.take_length]⟩) ⟨none, rfl⟩) ?_
    · rintro p d ρ hp ⟨o3, rfl⟩
      have rd := rg d (List.mem_of_getElem? hp)
      have ot : dXor (.int d) (.int 1) = some (.int (otherOf d)) := congrArg (fun z => some (D.int z)) (RM.xor_one rd.1 rd.2)
      have lp := (List.getElem?_eq_some_iff.mp hp).1
      have ln := names_len (T.take p)
      rw [List.length_take] at ln
      have ex := ext_two (namesOf (T.take p)) d (otherOf d) (by omega)
      have isl : isLst (.lst (intsD (namesOf (T.take p)))) = true := rfl
      have nx := names_take T p d hp
      rw [nx]
      generalize namesOf (T.take p) = A at ex isl
      simp [ot, big_ok, isl, ex]
    · rintro ⟨o, ρ⟩ ⟨ho, o3, e⟩
      have ho : o = .nx := ho
      subst ho
      have e : ρ = _ := e
      subst e
      obtain ⟨C, hC⟩ : ∃ C, C = namesOf T := ⟨_, rfl⟩
      rw [← hC] at lN ⊢
      have get : ∀ d, 0 ≤ d ∧ d < 2 * (n : Int) → dSubs (.lst (intsD C)) (.int d) = some (.int (callBy C d)) := fun d hd => by
        have lt : d.toNat < C.length := by omega
        have at_ : C[d.toNat]? = some (callBy C d) := by
          have g : C[d.toNat]? = some C[d.toNat] := List.getElem?_eq_getElem lt
          rw [callBy_at hd.1 g]
          exact g
        exact dSubs_seq (ds := intsD C) rfl hd.1 (by rw [List.getElem?_map, at_]; rfl) rfl
      have fin : ∀ (acc : List D) (o3 : Option D), acc = (rows.map fun r => r.map (callBy C)).map lstR → acc.length ≤ sizeLine ∧ ∃ o, RM.d__law_begun [.lst acc] = some (webD (calledWeb C rows), o) := fun acc o3 e => by
        obtain ⟨⟨v, o⟩, bg, hv⟩ := RM.begun_ok (rows := rows.map fun r => r.map (callBy C)) (fun r hr => by
          obtain ⟨q, hq, rfl⟩ := List.mem_map.1 hr
          have := W.row hq
          exact ⟨fun z => W.ne q hq (List.map_eq_nil_iff.mp z), by simp; omega⟩) (by simp; omega)
        have hv : v = webD (calledWeb C rows) := hv
        subst hv
        rw [e]
        exact ⟨big_ok (by simp; omega), o, bg⟩
      have im := imm_rows (calledWeb C rows)
      have more : ∀ p r, rows[p]? = some r → ((rows.take (p + 1)).map fun r => r.map (callBy C)).map lstR = ((rows.take p).map fun r => r.map (callBy C)).map lstR ++ [lstR (r.map (callBy C))] := fun p r hp => by
        rw [show rows.take (p + 1) = rows.take p ++ [r] by rw [List.take_add_one, hp]; rfl, List.map_append, List.map_append]; rfl
      have inner : ∀ (r : List Int), r ∈ rows → ∀ q : D, imm q = true → lcD [3] (fgName 3) fYes (fOp dSubs (fVar 2) (fVar 3)) (intsD r) [some y, some (rowD T), some (.lst (intsD C)), none, some q] = some (intsD (r.map (callBy C)), [some y, some (rowD T), some (.lst (intsD C)), none, some q]) := fun r hr q iq => by
        have lc : lcD [3] (fgName 3) fYes (fOp dSubs (fVar 2) (fVar 3)) (intsD r) [some y, some (rowD T), some (.lst (intsD C)), none, some q] = some (r.map (fun d => D.int (callBy C d)), [some y, some (rowD T), some (.lst (intsD C)), none, some q]) := by
          refine lcD_all (emb := D.int) fun d hd => ?_
          have g := get d (W.mem.mp (List.mem_flatten.mpr ⟨r, hr, hd⟩))
          obtain ⟨A, hA⟩ : ∃ A : Fm, A = [some y, some (rowD T), some (.lst (intsD C)), some (.int d), some q] := ⟨_, rfl⟩
          exact ⟨A, by simp [hA], .val (.int (callBy C d)), A, A, by simp [hA, g], rfl, by simp [hA, wipeF]⟩
        have e : r.map (fun d => D.int (callBy C d)) = intsD (r.map (callBy C)) := by
          show _ = (r.map (callBy C)).map D.int
          rw [List.map_map]; rfl
        rw [e] at lc
        exact lc
      rcases hc with ⟨rfl, rfl⟩ | ⟨rfl, rfl⟩
      · simp [fx, immL_flR, wipeF, ok_bind, -List.map_map]
        refine ok_lc (emb := flR) (xs := rows) (fun p acc ρ => ∃ o3, acc = ((rows.take p).map fun r => r.map (callBy C)).map lstR ∧ ρ = [some (.flst (rows.map flR)), some (rowD T), some (.lst (intsD C)), o3, none]) (fun p r acc ρ hp hI => ?_) (fun acc ρ hI => ?_) ⟨o3, rfl, rfl⟩
        · obtain ⟨o3, rfl, rfl⟩ := hI
          have hr := List.mem_of_getElem? hp
          have fr : frzD (flR r) = some (flR r) := frz_id _ (immL_ints r)
          have ir : imm (flR r) = true := immL_ints r
          have lc := inner r hr (flR r) ir
          have lr := W.row hr
          have ll : (r.map (callBy C)).length = r.length := by simp
          rw [more p r hp]
          generalize r.map (callBy C) = Q at lc ll
          generalize ((rows.take p).map fun r => r.map (callBy C)).map lstR = Z
          have il := immL_ints r
          simp [fr, ir, il, wipeF, lc, ll, big_ok (n := r.length) (by omega), -frz_flst]
        · obtain ⟨o3, rfl, rfl⟩ := hI
          rw [List.take_length]
          obtain ⟨le, o, bg⟩ := fin _ o3 rfl
          generalize (rows.map fun r => r.map (callBy C)).map lstR = Z at le bg
          simp [le, bg, im]
      · simp [fx, imm_rows, wipeF, ok_bind, -List.map_map]
        refine ok_lc (emb := rowD) (xs := rows) (fun p acc ρ => ∃ o3, acc = ((rows.take p).map fun r => r.map (callBy C)).map lstR ∧ ρ = [some (webD rows), some (rowD T), some (.lst (intsD C)), o3, none]) (fun p r acc ρ hp hI => ?_) (fun acc ρ hI => ?_) ⟨o3, rfl, rfl⟩
        · obtain ⟨o3, rfl, rfl⟩ := hI
          have hr := List.mem_of_getElem? hp
          have fr : frzD (rowD r) = some (.tup (intsD r)) := frz_id _ (immL_ints r)
          have ir : imm (rowD r) = true := immL_ints r
          have lc := inner r hr (.tup (intsD r)) ir
          have lr := W.row hr
          have ll : (r.map (callBy C)).length = r.length := by simp
          rw [more p r hp]
          generalize r.map (callBy C) = Q at lc ll
          generalize ((rows.take p).map fun r => r.map (callBy C)).map lstR = Z
          have il := immL_ints r
          simp [fr, ir, il, wipeF, lc, ll, big_ok (n := r.length) (by omega), -frz_tup]
        · obtain ⟨o3, rfl, rfl⟩ := hI
          rw [List.take_length]
          obtain ⟨le, o, bg⟩ := fin _ o3 rfl
          generalize (rows.map fun r => r.map (callBy C)).map lstR = Z at le bg
          simp [le, bg, im]
  obtain ⟨z, e, rfl⟩ := main
  exact e
end RH
/-! Flat webs by draws, from a dict's feed. -/
namespace RH
open PySem PySem.Spec L2 DL WA RM WB WC RP RD RB WF RC RI
def FwI (mo : Int) (many : Nat) (p : Nat) (ρ : Fm) : Prop := ∃ (f x : D) (rows : List (List Int)) (o3 o5 o6 o7 o8 : Option D) (g : Int), ρ = [some f, some (.int mo), some (.int (many : Int)), some (.int g), some x, o5, o6, o7, o8] ∧ IsFeed f ∧ RowsD x rows ∧ Grown rows (p + 1)
theorem flat_web_ok {d : D} {mo : Int} (h : IsFeed d) (h1 : 1 ≤ mo) (h2 : mo ≤ 12) : ∃ (rows : List (List Int)) (n : Nat) (T : List Int) (f : D), d__law_flat_web [d, .int mo] = some (webD (calledWeb (namesOf T) rows), [some f, some (.int mo)]) ∧ Grown rows n ∧ (n : Int) ≤ mo ∧ 1 ≤ n ∧ Named n (namesOf T) [] ∧ T.length = n ∧ IsFeed f := by
  have main : Ok (d__law_flat_web [d, .int mo]) fun z => ∃ (rows : List (List Int)) (n : Nat) (T : List Int) (f : D), z = (webD (calledWeb (namesOf T) rows), [some f, some (.int mo)]) ∧ Grown rows n ∧ (n : Int) ≤ mo ∧ 1 ≤ n ∧ Named n (namesOf T) [] ∧ T.length = n ∧ IsFeed f := by
    have im := h.imm
    obtain ⟨mm, f1, e1, p1, q1, hf1, im1⟩ := RM.draw_eq h (m := mo) (by omega) (by omega)
    obtain ⟨many, hm⟩ : ∃ many : Nat, 1 + mm = (many : Int) := ⟨(1 + mm).toNat, by omega⟩
    obtain ⟨g, f2, e2, p2, q2, hf2, im2⟩ := RM.draw_eq hf1 (m := 4) (by decide) (by decide)
    obtain ⟨b, f3, e3, p3, q3, hf3, im3⟩ := RM.draw_eq hf2 (m := 3) (by decide) (by decide)
    have ok1 : okR 1 = true := rfl
    have okm : okR (many : Int) = true := okR_of' (by omega) (by omega)
    have m1 : 1 ≤ many := by omega
    simp [d__law_flat_web, b__law_flat_web, denOf, e1, im, im1, hm, e2, im2, e3, im3, ok_bind]
    refine ok_mono (P := fun z => ∃ rows : List (List Int), z = (.val (.lst (rows.map lstR)), [some f3, some (.int mo), some (.int (many : Int)), some (.int g), none, none, none, none, none]) ∧ Grown rows 1) ?_ ?_
    · by_cases c : b = 0
      · simp [c, big_ok]
        exact ⟨[[0, 1]], rfl, .loop⟩
      · simp [c, big_ok]
        exact ⟨[[0], [1]], rfl, .two⟩
    · rintro z ⟨rows0, rfl, G0⟩
      simp [ok1, okm, ok_bind]
      have ln : iota 1 (many - 1) = (List.range (many - 1)).map fun (i : Nat) => D.int (1 + (i : Int)) := by simp [iota]
      rw [ln]
      refine ok_mono (ok_at (P := fun z => z.1 = .nx ∧ FwI mo many (many - 1) z.2) (emb := fun (i : Nat) => D.int (1 + (i : Int))) (List.range (many - 1)) (FwI mo many) ?_ (fun ρ h => ⟨rfl, by rwa [List.length_range] at h⟩) ⟨f3, _, rows0, none, none, none, none, none, g, rfl, hf3, .inl rfl, G0⟩) ?_
      · rintro p i ρ hi ⟨f, x, rows, o3, o5, o6, o7, o8, g, rfl, hf, hx, G⟩
        have ip : i = p ∧ p < many - 1 := by
          have lt := (List.getElem?_eq_some_iff.mp hi).1
          rw [List.length_range] at lt
          rw [List.getElem?_range lt] at hi
          exact ⟨(Option.some.inj hi).symm, lt⟩
        obtain ⟨rfl, hp⟩ := ip
        have W := G.web (by omega)
        have hl := W.rows
        have imf := hf.imm
        obtain ⟨t, ht⟩ : ∃ t : Int, 2 * (1 + (i : Int)) = t := ⟨_, rfl⟩
        have t1 : ((2 * (i + 1) : Nat) : Int) = t := by omega
        have t2 : ((2 * (i + 1) + 1 : Nat) : Int) = t + 1 := by omega
        have m2 : dMul (.int 2) (.int (1 + (i : Int))) = some (.int t) := by rw [← ht]; exact mul_l (by decide) (by decide)
        obtain ⟨one, f4, e4, p4, q4, hf4, im4⟩ := RM.draw_eq hf (m := t) (by omega) (by omega)
        obtain ⟨b5, f5, e5, p5, q5, hf5, im5⟩ := RM.draw_eq hf4 (m := 5) (by decide) (by decide)
        have one_in : 0 ≤ one ∧ one < 2 * ((i + 1 : Nat) : Int) := by omega
        obtain ⟨j, R, hj, rg⟩ := ring_ok W (rowsD_reads hx) one_in
        have hlr : ∀ r ∈ rows, r.length ≤ 1000 := fun r hr => by have := W.row hr; omega
        have laid0 := put_ok (x := x) (rows := rows) (f := t) (d := one) hx.frz (by omega) hlr
        have laid := put_ok (x := .flst (rows.map flR)) (rows := rows) (f := t) (d := one) (by simp [frz_fl]) (by omega) hlr
        have imr := immL_flR rows
        have R1 : Rows (rows.map (putRow one t)) (2 * (i + 1) + 1) := by
          have := (rows_of W).put (d := one) one_in
          rwa [t1] at this
        have few1 := R1.few
        have hjp := R.pos
        obtain ⟨i8, f6, e6, p6, q6, hf6, im6⟩ := RM.draw_eq hf5 (m := (j : Int)) (by omega) (by omega)
        have cs := dSubs_seq (x := .lst (intsD (chain (along rows) one j))) (ds := intsD (chain (along rows) one j)) (i := i8) (d := .int (it (along rows) one i8.toNat)) rfl p6 (by
          rw [List.getElem?_map]
          have : (chain (along rows) one j)[i8.toNat]? = some (it (along rows) one i8.toNat) := by unfold chain; rw [List.getElem?_map, List.getElem?_range (by omega)]; rfl
          rw [this]; rfl) rfl
        have laid2 := put_ok (x := .lst ((rows.map (putRow one t)).map flR)) (rows := rows.map (putRow one t)) (f := t + 1) (d := it (along rows) one i8.toNat) (by simp [frz_fl, -List.map_map]) (by simp; omega) fun r hr => by have := R1.row hr; omega
        have cat := cat_rows (a := rows.map (putRow one t)) (b := [[t + 1]]) (by simp; omega)
        have cat' : dAdd (.lst ((rows.map (putRow one t)).map flR)) (.lst [.flst [.int (t + 1)]]) = some (.lst ((rows.map (putRow one t) ++ [[t + 1]]).map flR)) := cat
        have GG := G.grow one_in.1 one_in.2
        rw [t1, t2] at GG
        have GD := G.draw one_in.1 one_in.2 i8.toNat rfl
        rw [t1, t2] at GD
        have chl := chain_len (along rows) one j
        generalize hC : chain (along rows) one j = ch at rg cs chl
        generalize hE : it (along rows) one i8.toNat = e0 at cs laid2 GD
        generalize hA : (rows.map (putRow one t)) ++ [[t + 1]] = RA at cat' GG
        generalize hB : (rows.map (putRow one t)).map (putRow e0 (t + 1)) = RB' at laid2 GD
        generalize hQ : (rows.map (putRow one t)).map flR = Q at cat' laid laid0 laid2
        by_cases c : b5 ≤ g
        · rcases hx with rfl | rfl | rfl <;>
            (simp [m2, imf, e4, im4, e5, im5, c, laid0, cat', imr, big_ok, ok_bind, -List.map_map]
             exact ⟨f5, _, RA, none, _, _, _, _, g, rfl, hf5, .inr (.inl rfl), GG⟩)
        · rcases hx with rfl | rfl | rfl <;>
            (simp [m2, imf, e4, im4, e5, im5, c, rg, chl, e6, im6, cs, laid, laid2, imr, big_ok, ok_bind, -List.map_map]
             exact ⟨f6, _, RB', none, _, _, _, _, g, rfl, hf6, .inr (.inl rfl), GD⟩)
      · rintro ⟨o, ρ⟩ ⟨ho, f, x, rows, o3, o5, o6, o7, o8, g, e, hf, hx, G⟩
        have ho : o = .nx := ho
        subst ho
        have e : ρ = _ := e
        subst e
        rw [show many - 1 + 1 = many by omega] at G
        have W := G.web (by omega)
        have imf := hf.imm
        obtain ⟨T, f9, e9, N, hT, hf9⟩ := turn_ok hf (n := many) (by omega)
        have im9 := hf9.imm
        have ca := called_ok W (rowsD_reads hx) N hT
        have iT := imm_row T
        have iw := imm_rows (calledWeb (namesOf T) rows)
        have imr := immL_flR rows
        rcases hx with rfl | rfl | rfl <;>
          (simp [imf, e9, im9, ca, iT, iw, imr, ok_bind, -List.map_map]
           exact ⟨rows, many, T, f9, ⟨rfl, rfl⟩, G, by omega, m1, N, hT, hf9⟩)
  obtain ⟨z, e, rows, n, T, f, rfl, r⟩ := main
  exact ⟨rows, n, T, f, e, r⟩
end RH
/-! meanings that many laws share; printed by gen.py, then kept -/
/-! Small facts that the laws of webs want. -/
namespace RH
open PySem PySem.Spec L2 DL WA RM WB WC RP RD RB WF RC RI
section
variable {w : List (List Int)} {n : Nat}
theorem repr_web (W : IsWeb w n) : dRepr [webD w] = some (.str (toP (webD w)).shown) := repr_nice W.nice (by decide) (by decide)
theorem called_len (f : Int → Int) (w : List (List Int)) : (calledF f w).length = w.length := by
  unfold calledF
  rw [(sortRows_perm _).length_eq]
  simp
end
end RH
/-! Places that hang together, by their least. -/
namespace RJ
open PySem PySem.Spec L2 DL WA RM WB WC RP RD RB WF RC RI RH
open RE (spI)
theorem up_lt : ∀ k : Nat, (up k).Pairwise (· < ·)
  | 0 => List.Pairwise.nil
  | k + 1 => by
    rw [up_succ]
    refine List.pairwise_append.mpr ⟨up_lt k, List.pairwise_singleton _ _, fun a ha b hb => ?_⟩
    rw [List.mem_singleton.1 hb]
    exact (up_mem.mp ha).2
theorem head_le {a : Int} {l : List Int} (h : (a :: l).Pairwise (· < ·)) {x : Int} (hx : x ∈ a :: l) : a ≤ x := by
  rcases List.mem_cons.1 hx with rfl | z
  · exact Int.le_refl _
  · exact Int.le_of_lt ((List.pairwise_cons.1 h).1 x z)
section
variable {w : List (List Int)} {n : Nat}
def Twp (w : List (List Int)) (n : Nat) (p q : Int) : Prop := ∃ x y : Int, (0 ≤ x ∧ x < 2 * (n : Int)) ∧ (0 ≤ y ∧ y < 2 * (n : Int)) ∧ spI w x = p ∧ spI w y = q ∧ Tog w n x y
open Classical in
/-- two places hang together -/
noncomputable def tw (w : List (List Int)) (n : Nat) (p q : Int) : Bool := decide (Twp w n p q)
open Classical in
theorem tw_iff {p q : Int} : tw w n p q = true ↔ Twp w n p q := by
  unfold tw
  exact decide_eq_true_iff
theorem tw_sp (W : IsWeb w n) {x y : Int} (hx : 0 ≤ x ∧ x < 2 * (n : Int)) (hy : 0 ≤ y ∧ y < 2 * (n : Int)) : tw w n (spI w x) (spI w y) = true ↔ Tog w n x y := by
  rw [tw_iff]
  constructor
  · rintro ⟨u, v, hu, hv, eu, ev, t⟩
    exact ((sp_row W hx hu eu.symm).trans t).trans (sp_row W hv hy ev)
  · intro t
    exact ⟨x, y, hx, hy, rfl, rfl, t⟩
theorem dart_at (W : IsWeb w n) {p : Int} (h : 0 ≤ p ∧ p < (w.length : Int)) : ∃ x, (0 ≤ x ∧ x < 2 * (n : Int)) ∧ spI w x = p := by
  obtain ⟨r, hr, _, _, dr, _⟩ := RE.row_at W h.1 h.2
  obtain ⟨x0, hx0⟩ : ∃ x, x ∈ r := List.exists_mem_of_ne_nil _ (W.ne r (List.mem_of_getElem? hr))
  exact ⟨x0, (dr x0 hx0).2, (dr x0 hx0).1⟩
theorem tw_self (W : IsWeb w n) {p : Int} (h : 0 ≤ p ∧ p < (w.length : Int)) : tw w n p p = true := by
  obtain ⟨x, hx, rfl⟩ := dart_at W h
  exact (tw_sp W hx hx).mpr (Tog.refl x)
theorem tw_symm {p q : Int} (h : tw w n p q = true) : tw w n q p = true := by
  obtain ⟨x, y, hx, hy, a, b, t⟩ := tw_iff.mp h
  exact tw_iff.mpr ⟨y, x, hy, hx, b, a, t.symm⟩
theorem tw_trans (W : IsWeb w n) {p q r : Int} (h : tw w n p q = true) (k : tw w n q r = true) : tw w n p r = true := by
  obtain ⟨x, y, hx, hy, rfl, rfl, t⟩ := tw_iff.mp h
  obtain ⟨u, v, hu, hv, e, rfl, t2⟩ := tw_iff.mp k
  exact tw_iff.mpr ⟨x, v, hx, hv, rfl, rfl, (t.trans (sp_row W hy hu e.symm)).trans t2⟩
theorem tw_rng (W : IsWeb w n) {p q : Int} (h : tw w n p q = true) : (0 ≤ p ∧ p < (w.length : Int)) ∧ 0 ≤ q ∧ q < (w.length : Int) := by
  obtain ⟨x, y, hx, hy, rfl, rfl, t⟩ := tw_iff.mp h
  exact ⟨sp_in W hx, sp_in W hy⟩
theorem tw_both (W : IsWeb w n) {p q r : Int} (h : tw w n p q = true) : tw w n p r = tw w n q r := by
  rw [Bool.eq_iff_iff]
  exact ⟨fun k => tw_trans W (tw_symm h) k, fun k => tw_trans W h k⟩
/-- the places that hang together with one -/
noncomputable def partOf (w : List (List Int)) (n : Nat) (p : Int) : List Int := (up w.length).filter (tw w n p)
theorem part_mem (W : IsWeb w n) {p q : Int} : q ∈ partOf w n p ↔ tw w n p q = true := by
  unfold partOf
  rw [List.mem_filter, up_mem]
  exact ⟨fun h => h.2, fun h => ⟨(tw_rng W h).2, h⟩⟩
theorem part_lt (p : Int) : (partOf w n p).Pairwise (· < ·) := (up_lt _).filter _
theorem part_same (W : IsWeb w n) {p q : Int} (h : tw w n p q = true) : partOf w n p = partOf w n q := by
  unfold partOf
  exact List.filter_congr fun r _ => tw_both W h
/-- the least place that hangs together with one -/
noncomputable def lp (w : List (List Int)) (n : Nat) (p : Int) : Int := (partOf w n p).headD 0
theorem lp_tw (W : IsWeb w n) {p : Int} (h : 0 ≤ p ∧ p < (w.length : Int)) : tw w n p (lp w n p) = true := by
  have m := (part_mem W).mpr (tw_self W h)
  unfold lp
  cases e : partOf w n p with
  | nil => rw [e] at m; exact absurd m List.not_mem_nil
  | cons a l => exact (part_mem W).mp (by rw [e]; exact List.mem_cons_self)
theorem lp_le (W : IsWeb w n) {p q : Int} (h : tw w n p q = true) : lp w n p ≤ q := by
  have m := (part_mem W).mpr h
  have s := part_lt (w := w) (n := n) p
  unfold lp
  cases e : partOf w n p with
  | nil => rw [e] at m; exact absurd m List.not_mem_nil
  | cons a l =>
    rw [e] at m s
    exact head_le s m
theorem lp_same (W : IsWeb w n) {p q : Int} (h : tw w n p q = true) : lp w n p = lp w n q := by
  unfold lp
  rw [part_same W h]
theorem lp_rng (W : IsWeb w n) {p : Int} (h : 0 ≤ p ∧ p < (w.length : Int)) : 0 ≤ lp w n p ∧ lp w n p < (w.length : Int) := (tw_rng W (lp_tw W h)).2
noncomputable def isMin (w : List (List Int)) (n : Nat) (p : Int) : Bool := decide (lp w n p = p)
/-- the least places of the parts -/
noncomputable def mins (w : List (List Int)) (n : Nat) : List Int := (up w.length).filter (isMin w n)
end
end RJ
/-! meanings that many laws share; printed by gen.py, then kept -/
namespace RJ
open PySem L2 DL
end RJ
/-! Webs side by side. -/
namespace RJ
open PySem PySem.Spec L2 DL WA RM WB WC RP RD RB WF RC RI RH
def LsF (x : D) (rows : List (List Int)) : Prop := x = .lst (rows.map flR) ∨ x = .flst (rows.map flR)
theorem LsF.frz {x : D} {rows : List (List Int)} (h : LsF x rows) : frzD x = some (.flst (rows.map flR)) := by
  have := RB.frz_fl rows
  rcases h with rfl | rfl <;> simp [this]
end RJ
/-! Webs side by side: parts and faces add up. -/
namespace RK
open PySem PySem.Spec L2 DL WA RM WB WC RP RD RB WF RC RI RH RJ
/-- along a row, or to the other dart -/
def TE (w : List (List Int)) (n : Nat) : Int → Int → Prop := fun u v => (0 ≤ u ∧ u < 2 * (n : Int)) ∧ (v = nextOf w u ∨ v = otherOf u)
/-! ### side by side -/
theorem nx_map {r : List Int} {c x : Int} (nd : r.Nodup) (hx : x ∈ r) : nx (r.map fun d => d + c) (x + c) = nx r x + c := by
  have ⟨j, hj⟩ := List.mem_iff_getElem?.mp hx
  have nd' : (r.map fun d => d + c).Nodup := List.pairwise_map.mpr (nd.imp fun {a b} h e => h (by omega))
  have a := nx_at nd hj
  have b := nx_at nd' (i := j) (x := x + c) (by rw [List.getElem?_map, hj]; rfl)
  rw [List.length_map] at b
  by_cases l : j + 1 < r.length
  · have h := b.1 l
    rw [List.getElem?_map, a.1 l] at h
    exact (Option.some.inj h).symm
  · have h := b.2 l
    rw [List.getElem?_map, a.2 l] at h
    exact (Option.some.inj h).symm
end RK
/-! A tie of a flat web lies not in one row and one face. -/
namespace RN
open PySem PySem.Spec L2 DL WA RM RB WB WC RP RD RB WF RC RI RH
section
variable {v : List (List Int)} {n : Nat} {t : Int}
theorem hangs_one (H : Hangs v n) : RK.One v n := fun x y hx hy => fun P c px => H P c.1 c.2 x y hx hy px
end
end RN
/-! The program's parts: of each least place its part. -/
namespace RJ
open PySem PySem.Spec L2 DL WA RM WB WC RP RD RB WF RC RI RH
open RE (spI)
section
variable {w : List (List Int)} {n : Nat}
structure Pa (w : List (List Int)) (n : Nat) (A left : List Int) : Prop where
  all : left = (up w.length).filter fun q => A.all fun a => !tw w n a q
  min : A ++ left.filter (isMin w n) = mins w n
theorem Pa.one (W : IsWeb w n) {A rest : List Int} {q0 : Int} (h : Pa w n A (q0 :: rest)) : Pa w n (A ++ [q0]) ((q0 :: rest).filter fun q => decide (q ∉ partOf w n q0)) ∧ ((q0 :: rest).filter fun q => decide (q ∉ partOf w n q0)).length < (q0 :: rest).length := by
  have lt : (q0 :: rest).Pairwise (· < ·) := by rw [h.all]; exact (up_lt _).filter _
  have mem : ∀ q, q ∈ q0 :: rest ↔ (0 ≤ q ∧ q < (w.length : Int)) ∧ ∀ a ∈ A, tw w n a q = false := fun q => by
    rw [h.all, List.mem_filter, up_mem, List.all_eq_true]
    simp only [Bool.not_eq_true']
  obtain ⟨r0, a0⟩ := (mem q0).mp List.mem_cons_self
  have self : tw w n q0 q0 = true := tw_self W r0
  have inp : q0 ∈ partOf w n q0 := (part_mem W).mpr self
  have m0 : lp w n q0 = q0 := by
    have t := lp_tw W r0
    have le := lp_le W self
    have : lp w n q0 ∈ q0 :: rest := (mem _).mpr ⟨lp_rng W r0, fun a ha => by
      cases e : tw w n a (lp w n q0) with
      | false => rfl
      | true =>
        have := tw_trans W e (tw_symm t)
        rw [a0 a ha] at this
        cases this⟩
    have := head_le lt this
    omega
  have is0 : isMin w n q0 = true := by unfold isMin; exact decide_eq_true m0
  have no : (decide (q0 ∉ partOf w n q0)) = false := decide_eq_false fun z => z inp
  constructor
  · constructor
    · conv => lhs; rw [h.all]
      rw [List.filter_filter]
      apply List.filter_congr
      intro q _
      rw [List.all_append]
      simp only [List.all_cons, List.all_nil, Bool.and_true]
      have : decide (q ∉ partOf w n q0) = !tw w n q0 q := by
        have pm := part_mem W (p := q0) (q := q)
        cases e : tw w n q0 q with
        | true =>
          rw [e] at pm
          exact decide_eq_false fun z => z (pm.mpr rfl)
        | false =>
          rw [e] at pm
          exact decide_eq_true fun z => by cases pm.mp z
      rw [this, Bool.and_comm]
    · have m := h.min
      rw [List.filter_cons_of_pos is0] at m
      rw [List.filter_cons_of_neg (by rw [no]; decide), List.append_assoc, ← m]
      congr 1
      show q0 :: _ = q0 :: _
      congr 1
      rw [List.filter_filter]
      apply List.filter_congr
      intro q hq
      by_cases c : isMin w n q = true
      · rw [c, Bool.true_and]
        refine decide_eq_true fun hp => ?_
        have e := lp_same W ((part_mem W).mp hp)
        rw [m0, of_decide_eq_true (show decide (lp w n q = q) = true from c)] at e
        have := (List.pairwise_cons.1 lt).1 q hq
        omega
      · have c : isMin w n q = false := by cases e : isMin w n q with
          | false => rfl
          | true => exact absurd e c
        rw [c, Bool.false_and]
  · rw [List.filter_cons_of_neg (by rw [no]; decide)]
    have := List.length_filter_le (fun q => decide (q ∉ partOf w n q0)) rest
    rw [List.length_cons]
    omega
def PaI (w : List (List Int)) (n : Nat) (k : Nat) (ρ : Fm) : Prop := ∃ A left o3, ρ = [some (webD w), some (.lst ((A.map (partOf w n)).map rowD)), some (.lst (intsD left)), o3, none] ∧ Pa w n A left ∧ k = left.length
end
end RJ
/-! Marks: at each tie both ends take the lesser; after so many turns each place has its least. -/
namespace RJ
open PySem PySem.Spec L2 DL WA RM WB WC RP RD RB WF RC RI RH
open RE (spI)
section
variable {w : List (List Int)} {n : Nat}
def mk (w : List (List Int)) (σ : Int → Int) (d : Int) : Int → Int := fun x => if x = spI w (otherOf d) then min (σ (spI w d)) (σ (spI w (otherOf d))) else if x = spI w d then min (σ (spI w d)) (σ (spI w (otherOf d))) else σ x
end
end RJ
/-! Parts by the law's own marks. -/
namespace RJ
open PySem PySem.Spec L2 DL WA RM WB WC WD WE RP RD RB WF RC RI RH
open RE (spI)
@[simp] theorem ap_keysI {fe : FE} {ρ : Fm} : fKeysI fe ρ = (fe ρ).bind fun x => (cont x.2 x.1).bind fun d => match d with
  | .fdic kvs => some (keysD kvs, x.2)
  | _ => none := rfl
end RJ
/-! meanings that many laws share; printed by gen.py, then kept -/
namespace RN
open PySem L2 DL
end RN
/-! Things of any kind, dicts among them, that are small enough to be shown. -/
namespace DL
open PySem PySem.Spec L2
structure Fit (k w : Nat) (d : D) : Prop where
  no : noExc d = true
  shows : (toP d).showable = true
  deep : (toP d).depth ≤ k
  short : (toP d).leavesShort 13 = true
  big : (toP d).bulk ≤ w
theorem Fit.mono {k k' w w' : Nat} {d : D} (h : Fit k w d) (hk : k ≤ k') (hw : w ≤ w') : Fit k' w' d := ⟨h.no, h.shows, Nat.le_trans h.deep hk, h.short, Nat.le_trans h.big hw⟩
end DL
/-! Reading: what may end with an exception. -/
namespace DL
open PySem PySem.Spec L2
section
variable {ρ : Fm} {fe : FE} {fr : FA} {ft : FT} {fs : FS} {fg : FG} {f g : FSX} {fx gx : FEX} {ax : FAX} {den : DenX} {i : Nat}
@[simp] theorem ap_xA : xA fr ρ = (fr ρ).map fun x => (.ok x.1, x.2) := rfl
@[simp] theorem ap_xS : xS fs ρ = (fs ρ).map fun x => (.go x.1, x.2) := rfl
@[simp] theorem ap_xSeq : xSeq f g ρ = (f ρ).bind fun x => match x.1 with
  | .go .nx => g x.2
  | o => some (o, x.2) := rfl
@[simp] theorem ap_xIfS : xIfS ft f g ρ = (ft ρ).bind fun x => if x.1 then f x.2 else g x.2 := rfl
@[simp] theorem ap_xRet : xRet fx ρ = (fx ρ).bind fun x => match x.1 with
  | .ok r => (take1 x.2 r).map fun y => (.go (.ret y.1), y.2)
  | .up e => some (.up e, x.2) := rfl
@[simp] theorem ap_xAsg : xAsg fx fg ρ = (fx ρ).bind fun x => match x.1 with
  | .ok r => (take1 x.2 r).bind fun y => (fg y.1 y.2).map fun ρ3 => (.go .nx, ρ3)
  | .up e => some (.up e, x.2) := rfl
@[simp] theorem ap_xDrop : xDrop fx ρ = (fx ρ).map fun x => match x.1 with
  | .ok _ => (.go .nx, x.2)
  | .up e => (.up e, x.2) := rfl
@[simp] theorem ap_xCons : xCons fx ax ρ = (fx ρ).bind fun x => match x.1 with
  | .ok r => (ax x.2).map fun y => match y.1 with
    | .ok rs => (.ok (r :: rs), y.2)
    | .up e => (.up e, y.2)
  | .up e => some (.up e, x.2) := rfl
@[simp] theorem ap_xTup : xTup ax ρ = (ax ρ).bind fun x => match x.1 with
  | .ok rs => (takes x.2 rs).bind fun y => if y.1.length ≤ sizeLine then some (.ok (.val (.tup y.1)), y.2) else none
  | .up e => some (.up e, x.2) := rfl
@[simp] theorem ap_xCall : xCall den ax ρ = (ax ρ).bind fun x => match x.1 with
  | .up e => some (.up e, x.2)
  | .ok rs => (takes x.2 rs).bind fun y => (den y.1).map fun z => match z.1 with
    | .val r => (.ok (.val r), giveBack rs y.1 z.2 y.2)
    | .up e => (.up e, giveBack rs y.1 z.2 y.2) := rfl
@[simp] theorem ap_xRaise {x : Str} {fs : List Str} : xRaise x fs fr ρ = (fr ρ).bind fun z => (takes z.2 z.1).bind fun y => if immL y.1 = true ∧ y.1.length = fs.length then some (.up ⟨x, ((fs.map fun f => (.inr f : Key)).zip y.1).reverse⟩, y.2) else none := rfl
@[simp] theorem ap_fTry {ys : List Str} : fTry f ys fs ρ = (f ρ).bind fun x => match x.1 with
  | .go o => some (o, x.2)
  | .up e => if e.cls ∈ ys then fs x.2 else none := rfl
@[simp] theorem ap_fFld {a dd : Addr} {c f : Str} {kvs : List (Key × D)} (h : slot ρ i = some (.exc a c dd kvs)) : fFld a dd i f ρ = if (kvs.all fun kv => kv.1.isRight) = true then (kvGet kvs (.inr f)).bind fun d => if imm d = true then some (.val d, ρ) else none else none := by
  unfold fFld
  rw [h]
  by_cases q : (kvs.all fun kv => kv.1.isRight) = true
  · rw [if_pos q]
    exact if_pos ⟨rfl, rfl, q⟩
  · rw [if_neg q]
    exact if_neg fun z => q z.2.2
@[simp] theorem imm_exc {a dd : Addr} {c : Str} {kvs : List (Key × D)} : imm (.exc a c dd kvs) = immK kvs := rfl
end
end DL
/-! A tie struck, its ends drawn together: the program. -/
namespace RN
open PySem PySem.Spec L2 DL WA WB WC RM RB WF RC RI RH
end RN
/-! The program's without, together. -/
namespace RN
open PySem PySem.Spec L2 DL WA WB WC RM RB WF RC RI RH
section
variable {w : List (List Int)} {n : Nat} {t : Int}
theorem spot_same (V : IsWeb w n) {a b : Int} (ha : 0 ≤ a ∧ a < 2 * (n : Int)) (hb : 0 ≤ b ∧ b < 2 * (n : Int)) : spotOf w a = spotOf w b ↔ ∃ r ∈ w, a ∈ r ∧ b ∈ r := by
  obtain ⟨p, r, hp, hd, e, _⟩ := V.at (V.mem.mpr ha)
  obtain ⟨q, s, hq, hd2, e2, _⟩ := V.at (V.mem.mpr hb)
  constructor
  · intro z
    have : p = q := by omega
    subst this
    rw [hp] at hq
    cases hq
    exact ⟨r, List.mem_of_getElem? hp, hd, hd2⟩
  · rintro ⟨x, hx, ax, bx⟩
    obtain ⟨i, hi⟩ := List.getElem?_of_mem hx
    rw [V.place hi ax, V.place hi bx]
variable (W : IsWeb w n) (ht : 0 ≤ t ∧ t < (n : Int))
include W ht
end
end RN
/-! The program's together. -/
namespace RN
open PySem PySem.Spec L2 DL WA WB WC RM RB WF RC RI RH
end RN
/-! A ring told by the law; one part. -/
namespace RN
open PySem PySem.Spec L2 DL WA RM RB WB WC WD RP RD RB WF RC RI RH RJ RK
section
variable {w : List (List Int)} {n : Nat}
theorem along_io (W : IsWeb w n) {x : Int} (hx : 0 ≤ x ∧ x < 2 * (n : Int)) : along w x = nextOf (io w n) x := (io_next W hx).symm
/-- a ring is a row inside out -/
theorem ring_mem (W : IsWeb w n) {d : Int} {j : Nat} (hd : 0 ≤ d ∧ d < 2 * (n : Int)) (R : Ring w n d j) {y : Int} (hy : 0 ≤ y ∧ y < 2 * (n : Int)) : y ∈ chain (along w) d j ↔ ∃ r ∈ io w n, d ∈ r ∧ y ∈ r := by
  have V : IsWeb (io w n) n := faces_web W
  obtain ⟨m1, m2⟩ := row_at V hd
  have mem : ∀ z, z ∈ chain (along w) d j ↔ ∃ i, i < j ∧ it (along w) d i = z := fun z => by
    unfold chain
    simp
  constructor
  · intro h
    refine ⟨_, m1, m2, ?_⟩
    obtain ⟨i, hi, rfl⟩ := (mem y).mp h
    clear h hy hi
    induction i with
    | zero => exact m2
    | succ i ih =>
      have e : it (along w) d (i + 1) = along w (it (along w) d i) := rfl
      rw [e, along_io W (RM.it_in W hd i)]
      exact next_in V m1 ih
  · rintro ⟨r, hr, hdr, hyr⟩
    refine row_of_next (P := fun z => z ∈ chain (along w) d j) V (fun x hx px => ?_) r hr d hdr y hyr ((mem d).mpr ⟨0, R.pos, rfl⟩)
    obtain ⟨i, hi, rfl⟩ := (mem x).mp px
    show nextOf (io w n) _ ∈ _
    rw [← along_io W hx]
    by_cases c : i + 1 < j
    · exact (mem _).mpr ⟨i + 1, c, rfl⟩
    · have : i + 1 = j := by omega
      have e : along w (it (along w) d i) = it (along w) d j := by rw [← this]; rfl
      rw [e, R.back]
      exact (mem d).mpr ⟨0, R.pos, rfl⟩
end
end RN
/-! A row of places called by a drawn shift. -/
namespace RC
open PySem PySem.Spec L2 DL WA RM WB WC RP RD RB WF
/-! ### a row of places -/
/-! ### what is asked -/
theorem sum_len {w : List (List Int)} {n : Nat} (W : IsWeb w n) : (w.map fun r => (r.length : Int)).sum = 2 * n := by
  have := W.len
  rw [List.length_flatten] at this
  have c : ∀ l : List (List Int), (l.map fun r => ((r.length : Nat) : Int)).sum = ((l.map List.length).sum : Nat) := fun l => by
    induction l with
    | nil => rfl
    | cons a l ih => simp [ih]
  rw [c, this]; simp
end RC
/-! Flat webs: what is struck or joined is flat; rows that hold a dart. -/
namespace RN
open PySem PySem.Spec L2 DL WA WB WC RM RP RD RB WF RC RI RH
/-- a flat web, in one part -/
structure Flat (w : List (List Int)) (n : Nat) : Prop where
  web : IsWeb w n
  norm : Norm w
  hangs : Hangs w n
  flat : w.length + (io w n).length = 2 + n
section
variable {w : List (List Int)} {n : Nat} {t : Int}
theorem Flat.cut (F : Flat w n) (ht : 0 ≤ t ∧ t < (n : Int)) (h2 : 2 ≤ n) (ap : Apart (io w n) t) : Flat (lessW t (cutR w t)) (n - 1) := by
  have C := cut_cut F.web F.hangs ht h2 ap
  obtain ⟨l1, l2⟩ := cut_lens F.web ht ap F.hangs h2
  have := F.flat
  exact ⟨C.web ht h2 F.web.le, C.norm ht, cut_hangs F.web ht ap F.hangs h2, by omega⟩
theorem flat_of {rows : List (List Int)} {T : List Int} (G : Grown rows n) (h12 : n ≤ 12) (N : Named n (namesOf T) []) : Flat (calledWeb (namesOf T) rows) n := by
  have W0 := G.web h12
  have W : IsWeb (calledWeb (namesOf T) rows) n := called_web (rows_of W0) W0.pos W0.le N
  refine ⟨W, by rw [called_F]; exact norm_called W0 (named_calls N), called_hangs (grown_hangs G h12) (rows_of W0) N, ?_⟩
  obtain ⟨_, e⟩ := RK.grown_flat G h12
  rw [called_F, ← io_called W0 (named_calls N), called_len, called_len, e]
end
end RN
/-! Reading: exceptions handed on. -/
namespace DL
open PySem PySem.Spec L2
section
variable {ρ : Fm} {fo : FE} {fr : FA} {i : Nat}
@[simp] theorem ap_fIsE {a dd : Addr} {c : Str} {told : Option Bool} : fIsE a c dd told i ρ = match slot ρ i with
  | some (.exc a' _ dd' _) => if a' = a ∧ dd' = dd then told.map fun b => (.val (.bl b), ρ) else none
  | _ => none := rfl
@[simp] theorem ap_countB : fCountB fo fr ρ = ((fo ρ).bind fun x => (cont x.2 x.1).bind lstOf).bind fun _ => fMethR dCntB fo fr ρ := rfl
end
/-- whether a refusal is of a class beside its own two -/
def strangeB (a : Addr) (c : Str) (dd : Addr) (o1 o2 o3 o4 o5 o6 o7 o8 o9 o0 : Option Bool) : FS := fSeq (fAsg (fLst (fCons (fIsE a c dd o1 0) (fCons (fIsE a c dd o2 0) (fCons (fIsE a c dd o3 0) (fCons (fIsE a c dd o4 0) (fNil)))))) (fgName 1)) (fSeq (fAsg (fOp dAdd (fVar 1) (fLst (fCons (fIsE a c dd o5 0) (fCons (fIsE a c dd o6 0) (fCons (fIsE a c dd o7 0) (fCons (fIsE a c dd o8 0) (fNil))))))) (fgName 1)) (fRet (fBl (fOr (fTest (fOp dNe (fCountB (fVar 1) (fCons (fC (.bl true)) (fNil))) (fC (.int 1)))) (fTest (fBl (fOr (fTest (fBl (fNot (fTest (fIsE a c dd o9 0))))) (fTest (fBl (fNot (fTest (fIsE a c dd o0 0))))))))))))
theorem strange_ok {a dd : Addr} {c c' : Str} {kvs : List (Key × D)} (im : immK kvs = true) {b1 b2 b3 b4 b5 b6 b7 b8 : Bool} (h : ([b1, b2, b3, b4, b5, b6, b7, b8].count true) = 1) :
    denOf 2 1 [1, 1] (strangeB a c dd (some b1) (some b2) (some b3) (some b4) (some b5) (some b6) (some b7) (some b8) (some true) (some true)) [.exc a c' dd kvs] = some (.bl false, [some (.exc a c' dd kvs)]) := by
  have cn : dCntB (.lst [.bl b1, .bl b2, .bl b3, .bl b4, .bl b5, .bl b6, .bl b7, .bl b8]) [.bl true] = some (.int 1) := by
    show some (D.int (([b1, b2, b3, b4, b5, b6, b7, b8].count true : Nat) : Int)) = _
    rw [h]; rfl
  have cat : dAdd (.lst [.bl b1, .bl b2, .bl b3, .bl b4]) (.lst [.bl b5, .bl b6, .bl b7, .bl b8]) = some (.lst [.bl b1, .bl b2, .bl b3, .bl b4, .bl b5, .bl b6, .bl b7, .bl b8]) := by
    show (if (immL [D.bl b1, .bl b2, .bl b3, .bl b4] && immL [D.bl b5, .bl b6, .bl b7, .bl b8]) = true ∧ ([D.bl b1, .bl b2, .bl b3, .bl b4].length + [D.bl b5, .bl b6, .bl b7, .bl b8].length) ≤ sizeLine then some (D.lst ([D.bl b1, .bl b2, .bl b3, .bl b4] ++ [D.bl b5, .bl b6, .bl b7, .bl b8])) else none) = _
    rw [if_pos ⟨rfl, big_ok (by simp)⟩]
    rfl
  have l0 : lstOf (.lst [.bl b1, .bl b2, .bl b3, .bl b4, .bl b5, .bl b6, .bl b7, .bl b8]) = some [.bl b1, .bl b2, .bl b3, .bl b4, .bl b5, .bl b6, .bl b7, .bl b8] := rfl
  have e1 : dNe (.int 1) (.int 1) = some (.bl false) := rfl
  simp [strangeB, denOf, big_ok, cat, ap_methR, cn, im, l0, e1]
end DL
/-! meanings that many laws share; printed by gen.py, then kept -/
namespace RT
open PySem L2 DL
end RT
/-! The law's less; refusals by NoTie; flat webs are told flat. -/
namespace RT
open PySem PySem.Spec L2 DL WA WB WC RM RP RD RB WF RC RI RH RN
theorem flat_reps {w : List (List Int)} {n : Nat} (F : Flat w n) : Reps w n [0] where
  rng x hx := by
    have := F.web.pos
    rw [List.mem_singleton] at hx
    omega
  apart := List.pairwise_singleton _ _
  all y hy := ⟨0, List.mem_singleton_self _, hangs_one F.hangs 0 y (by have := F.web.pos; omega) hy⟩
theorem flat_told {w : List (List Int)} {n : Nat} (F : Flat w n) : RH.d_is_flat [webD w] = some (.bl true, [some (webD w)]) := by
  have e := flat_ok F.web (flat_reps F)
  have f := F.flat
  have h : hdl w n [(0 : Int)].length = 0 := by
    unfold hdl
    have : (2 * (([(0 : Int)].length : Nat) : Int) + n - w.length - (io w n).length) = 0 := by
      simp
      omega
    rw [this]
    rfl
  rw [h] at e
  simpa using e
end RT
/-! What the law is told: the web, or the refusal. -/
namespace RT
open PySem PySem.Spec L2 DL WA WB WC RM RP RD RB WF RC RI RH RN
noncomputable def toldB (den : DenX) (st : Addr → Str → Addr → Den) : FS := fSeq (fAsg (fTup (fCons (fC (.str "none")) (fNil))) (fgName 2)) (fSeq (fTryAs (xAsg (xCall den (xA (fCons (fVar 0) (fCons (fVar 1) (fNil))))) (fgName 2)) ["NoTie"] 3 (fun a c dd => fAsg (fTup (fCons (fC (.str "tie")) (fCons (fFld a dd 3 "tie") (fCons (fCallD (st a c dd) (fCons (fVar 3) (fNil))) (fNil))))) (fgName 2))) (fRet (fVar 2)))
section
variable {w : List (List Int)} {t : Int} {den : DenX} {st : Addr → Str → Addr → Den}
theorem told_go {V : List (List Int)} (h : den [webD w, .int t] = some (.val (webD V), [some (webD w), some (.int t)])) : denOf 4 2 [2, 2, 3, 2] (toldB den st) [webD w, .int t] = some (webD V, [some (webD w), some (.int t)]) := by
  have iw := imm_rows w
  have iV := imm_rows V
  have e := fTryAs_go (fb := xAsg (xCall den (xA (fCons (fVar 0) (fCons (fVar 1) fNil)))) (fgName 2)) (ys := ["NoTie"]) (i := 3)
      (fs := fun a c dd => fAsg (fTup (fCons (fC (.str "tie")) (fCons (fFld a dd 3 "tie") (fCons (fCallD (st a c dd) (fCons (fVar 3) (fNil))) (fNil))))) (fgName 2))
      (ρ := [some (webD w), some (.int t), some (.tup [.str "none"]), none]) (ρ1 := [some (webD w), some (.int t), some (webD V), none]) (o := .nx)
      (by simp [h, iw])
  simp [toldB, denOf, big_ok, e, iw, iV]
end
theorem web_cons {V : List (List Int)} {m : Nat} (W : IsWeb V m) : ∃ r V', V = r :: V' := by
  match V, W.len, W.pos with
  | [], l, p =>
    simp at l
    omega
  | r :: V', _, _ => exact ⟨r, V', rfl⟩
end RT
/-! A flat web with a tie grown, with a tie drawn in along a face: flat again. -/
namespace RT
open PySem PySem.Spec L2 DL WA WB WC RM RP RD RB WF RC RI RH RN
open RK (One grownR drawnR St Cl along_pm faces_cnt cnt_keep)
/-- rows begun with their least, in order -/
def begW (v : List (List Int)) : List (List Int) := sortRows (v.map turnRow)
section
variable {v : List (List Int)} {m : Nat} (V : IsWeb v m)
theorem one_hangs (o : One v m) : Hangs v m := fun P row oth a b ha hb pa => o a b ha hb P ⟨row, oth⟩ pa
include V
theorem beg_web : IsWeb (begW v) m := ((rows_of V).begun).web V.pos V.le
theorem beg_norm : Norm (begW v) := norm_begun fun r hr => ⟨V.row_nodup hr, V.ne r hr⟩
theorem beg_len : (begW v).length = v.length := by
  unfold begW
  rw [(sortRows_perm _).length_eq, List.length_map]
theorem beg_io : (io (begW v) m).length = (io v m).length := by
  have e := io_called V (calls_id m)
  unfold begW
  rw [← called_id, ← e, called_len]
theorem beg_hangs (h : Hangs v m) : Hangs (begW v) m := fun P row oth => h P (fun r hr x hx y hy => by
  have mr : turnRow r ∈ begW v := (sortRows_perm _).mem_iff.mpr (List.mem_map.mpr ⟨r, hr, rfl⟩)
  exact row _ mr x ((turnRow_perm r).mem_iff.mpr hx) y ((turnRow_perm r).mem_iff.mpr hy)) oth
theorem flat_beg (o : One v m) (e : v.length + (io v m).length = 2 + m) : Flat (begW v) m := ⟨beg_web V, beg_norm V, beg_hangs V (one_hangs o), by rw [beg_len V, beg_io V]; exact e⟩
end
section
variable {w : List (List Int)} {n : Nat} {d e : Int}
theorem put_in {d f : Int} {r : List Int} {x : Int} (h : x ∈ r) : x ∈ putRow d f r := putRow_sub h
theorem grown_web (W : IsWeb w n) (h : n < 12) (hd : 0 ≤ d ∧ d < 2 * (n : Int)) : IsWeb (grownR w n d) (n + 1) := by
  have R := ((rows_of W).put (d := d) (by omega)).grow
  exact R.web (by omega) (by omega)
theorem drawn_web (W : IsWeb w n) (h : n < 12) (hd : 0 ≤ d ∧ d < 2 * (n : Int)) (he : 0 ≤ e ∧ e < 2 * (n : Int)) : IsWeb (drawnR w n d e) (n + 1) := by
  have R := ((rows_of W).put (d := d) (by omega)).put (d := e) (by omega)
  exact R.web (by omega) (by omega)
variable (F : Flat w n) (h : n < 12) (hd : 0 ≤ d ∧ d < 2 * (n : Int))
include F h hd
theorem grown_flat : One (grownR w n d) (n + 1) ∧ (grownR w n d).length = w.length + 1 ∧ (io (grownR w n d) (n + 1)).length = (io w n).length := by
  have W := F.web
  have V := grown_web W h hd
  obtain ⟨r, hr, dr⟩ := (rows_of W).at (d := d) (by omega)
  have o' : One (grownR w n d) (n + 1) := RK.one_step V (hangs_one F.hangs) W.pos (fun P c => RK.clo_put c) ⟨d, hd, Tog.row (r := putRow d ((2 * n : Nat) : Int) r) (List.mem_append_left _ (List.mem_map.mpr ⟨r, hr, rfl⟩)) ((putRow_perm dr).mem_iff.mpr List.mem_cons_self) (put_in dr)⟩
  obtain ⟨k, e⟩ := RK.euler V (RK.one_reps V o')
  have keep : (io w n).length ≤ (io (grownR w n d) (n + 1)).length := by
    refine cnt_keep (d := d) (along_pm W) (by omega) (fun x hx no => ?_) (fun x hx on => ?_) (faces_cnt W) (faces_cnt V)
    · have ox := WA.other_in (m := n) (d := x) (by omega)
      have st : Cl (St (along w) (2 * n)) x (nextOf w (otherOf x)) := Cl.of ⟨hx, rfl⟩
      show nextOf _ (otherOf x) = nextOf _ (otherOf x)
      rw [RK.grow_old W V ox, if_neg]
      intro z
      rw [z] at st
      exact no st.symm
    · show _ ≤ nextOf _ (otherOf x) ∨ Cl _ d (nextOf _ (otherOf x))
      rcases RK.other_split (k := n) x with ⟨_, e⟩ | ⟨_, e⟩ | ⟨a, b⟩
      · refine .inl ?_
        rw [e, show 2 * (n : Int) + 1 = ((2 * n + 1 : Nat) : Int) by omega, RK.grow_odd V]
        omega
      · refine .inr ?_
        rw [e, show 2 * (n : Int) = ((2 * n : Nat) : Int) by omega, RK.grow_even W V hd]
        exact Cl.refl d
      · have rx : 0 ≤ x ∧ x < 2 * (n : Int) := by omega
        rw [RK.grow_old W V (WA.other_in rx)]
        by_cases c : nextOf w (otherOf x) = d
        · exact .inl (by rw [if_pos c]; omega)
        · exact .inr (by rw [if_neg c]; exact (on (by omega)).trans (Cl.of ⟨by omega, rfl⟩))
  have l1 : (grownR w n d).length = w.length + 1 := by unfold grownR; simp
  have f := F.flat
  simp at e
  exact ⟨o', l1, by omega⟩
/-- the corners lie along one face -/
theorem drawn_flat (de : Cl (St (along w) (2 * n)) d e) (he : 0 ≤ e ∧ e < 2 * (n : Int)) : One (drawnR w n d e) (n + 1) ∧ (drawnR w n d e).length = w.length ∧ (io (drawnR w n d e) (n + 1)).length = (io w n).length + 1 := by
  have W := F.web
  have V := drawn_web W h hd he
  obtain ⟨r, hr, dr⟩ := (rows_of W).at (d := d) (by omega)
  have o' : One (drawnR w n d e) (n + 1) := RK.one_step V (hangs_one F.hangs) W.pos (fun P c => RK.clo_put2 c) ⟨d, hd, Tog.row (r := putRow e ((2 * n + 1 : Nat) : Int) (putRow d ((2 * n : Nat) : Int) r)) (List.mem_map.mpr ⟨_, List.mem_map.mpr ⟨r, hr, rfl⟩, rfl⟩) (put_in ((putRow_perm dr).mem_iff.mpr List.mem_cons_self)) (put_in (put_in dr))⟩
  obtain ⟨k, e'⟩ := RK.euler V (RK.one_reps V o')
  have keep : (io w n).length ≤ (io (drawnR w n d e) (n + 1)).length := by
    refine cnt_keep (d := d) (along_pm W) (by omega) (fun x hx no => ?_) (fun x hx on => ?_) (faces_cnt W) (faces_cnt V)
    · have ox := WA.other_in (m := n) (d := x) (by omega)
      have st : Cl (St (along w) (2 * n)) x (nextOf w (otherOf x)) := Cl.of ⟨hx, rfl⟩
      show nextOf _ (otherOf x) = nextOf _ (otherOf x)
      rw [RK.draw_old W V hd he ox, if_neg, if_neg]
      · intro z
        rw [z] at st
        exact no (de.trans st.symm)
      · intro z
        rw [z] at st
        exact no st.symm
    · show _ ≤ nextOf _ (otherOf x) ∨ Cl _ d (nextOf _ (otherOf x))
      rcases RK.other_split (k := n) x with ⟨_, q⟩ | ⟨_, q⟩ | ⟨a, b⟩
      · refine .inr ?_
        rw [q, show 2 * (n : Int) + 1 = ((2 * n + 1 : Nat) : Int) by omega, RK.draw_odd W V hd he]
        exact de
      · rw [q, show 2 * (n : Int) = ((2 * n : Nat) : Int) by omega, RK.draw_even W V hd]
        by_cases c : d = e
        · exact .inl (by rw [if_pos c]; omega)
        · exact .inr (by rw [if_neg c]; exact Cl.refl d)
      · have rx : 0 ≤ x ∧ x < 2 * (n : Int) := by omega
        rw [RK.draw_old W V hd he (WA.other_in rx)]
        by_cases c : nextOf w (otherOf x) = d
        · exact .inl (by rw [if_pos c]; omega)
        · rw [if_neg c]
          by_cases c2 : nextOf w (otherOf x) = e
          · exact .inl (by rw [if_pos c2]; omega)
          · exact .inr (by rw [if_neg c2]; exact (on (by omega)).trans (Cl.of ⟨by omega, rfl⟩))
  have l1 : (drawnR w n d e).length = w.length := by unfold drawnR; simp
  have f := F.flat
  simp at e'
  exact ⟨o', l1, by omega⟩
end
section
variable {w : List (List Int)} {n : Nat} {d e : Int} (F : Flat w n) (h : n < 12) (hd : 0 ≤ d ∧ d < 2 * (n : Int))
include F h hd
theorem Flat.drawn (de : Cl (St (along w) (2 * n)) d e) (he : 0 ≤ e ∧ e < 2 * (n : Int)) : Flat (begW (drawnR w n d e)) (n + 1) := by
  obtain ⟨o, a, b⟩ := drawn_flat F h hd de he
  have := F.flat
  exact flat_beg (drawn_web F.web h hd he) o (by omega)
end
end RT
/-! The program puts a dart ahead; a tie grown. -/
namespace RT
open PySem PySem.Spec L2 DL WA WB WC RM RP RD RB WF RC RI RH RN
open RK (One grownR drawnR)
theorem cat_t {a b : List D} (ia : immL a = true) (ib : immL b = true) (h : a.length + b.length ≤ sizeLine) : dAdd (.tup a) (.tup b) = some (.tup (a ++ b)) := by
  show (if (immL a && immL b) = true ∧ a.length + b.length ≤ sizeLine then some (D.tup (a ++ b)) else none) = _
  rw [if_pos ⟨by rw [ia, ib]; rfl, h⟩]
section
variable {d f : Int} {rows : List (List Int)} (hl : rows.length ≤ 1000) (hr : ∀ r ∈ rows, r.length ≤ 1000)
def PaB : FS := fIfS (fTest (fOp dIn (fVar 1) (fVar 4))) (fSeq (fAsg (fIndex (fVar 4) (fCons (fVar 1) (fNil))) (fgName 5)) (fDrop (fMut isLst mAppend (fpVar 3) (fCons (fOp dAdd (fOp dAdd (fCut (fVar 4) (foNone) (foSome (fVar 5))) (fTup (fCons (fVar 2) (fNil)))) (fCut (fVar 4) (foSome (fVar 5)) (foNone))) (fNil))))) (fDrop (fMut isLst mAppend (fpVar 3) (fCons (fVar 4) (fNil))))
def PaI (rows : List (List Int)) (d f : Int) (y : D) (p : Nat) (ρ : Fm) : Prop := ∃ o4 o5, ρ = [some y, some (.int d), some (.int f), some (.lst (((rows.take p).map (putRow d f)).map rowD)), o4, o5]
include hl hr
theorem put_step (y : D) (p : Nat) (r : List Int) (ρ : Fm) (hp : rows[p]? = some r) (h : PaI rows d f y p ρ) : Ok (fgName 4 (rowD r) ρ) fun ρ1 => Ok (PaB ρ1) fun x => x.1 = .nx ∧ PaI rows d f y (p + 1) x.2 := by
  obtain ⟨o4, o5, rfl⟩ := h
  have rl := hr r (List.mem_of_getElem? hp)
  have lt := (List.getElem?_eq_some_iff.mp hp).1
  have tk : rows.take (p + 1) = rows.take p ++ [r] := by rw [List.take_add_one, hp]; rfl
  have rin := in_row d r
  have ap := append_l (ds := ((rows.take p).map (putRow d f)).map rowD) (y := rowD (putRow d f r)) (big_lt (by simp; omega))
  have more : ((rows.take (p + 1)).map (putRow d f)).map rowD = ((rows.take p).map (putRow d f)).map rowD ++ [rowD (putRow d f r)] := by rw [tk]; simp
  unfold PaI
  rw [more]
  by_cases hm : d ∈ r
  · have ix := index_t hm
    have le := List.idxOf_le_length (l := r) (a := d)
    have c1 := cut_to (intsD r) (r.idxOf d) (by simpa using le)
    have c2 := cut_from (intsD r) (r.idxOf d) (by simpa using le)
    rw [← List.map_take] at c1
    rw [← List.map_drop] at c2
    have k1 := cat_t (a := intsD (r.take (r.idxOf d))) (b := [.int f]) (immL_ints _) rfl (big_ok (by simp; omega))
    have k2 := cat_t (a := intsD (r.take (r.idxOf d)) ++ [.int f]) (b := intsD (r.drop (r.idxOf d))) (by rw [immL_append', immL_ints]; rfl) (immL_ints _) (big_ok (by simp; omega))
    have pr : intsD (r.take (r.idxOf d)) ++ [.int f] ++ intsD (r.drop (r.idxOf d)) = intsD (putRow d f r) := by
      unfold putRow
      rw [if_pos hm]
      simp
    rw [pr] at k2
    have ir := immL_ints r
    generalize ((rows.take p).map (putRow d f)).map rowD = A at ap ⊢
    have ap' : mAppend (.lst A) [.tup (intsD (putRow d f r))] = some (.lst (A ++ [.tup (intsD (putRow d f r))]), .non) := ap
    obtain ⟨Z, hZ⟩ : ∃ Z, Z = intsD (putRow d f r) := ⟨_, rfl⟩
    show Ok (fgName 4 (.tup (intsD r)) _) _
    have rin : dIn (.int d) (.tup (intsD r)) = some (.bl (decide (d ∈ r))) := rin
    have e1 : rowD (putRow d f r) = .tup Z := by rw [hZ]; rfl
    rw [e1]
    rw [← hZ] at k2 ap'
    simp [PaB, rin, hm, ap_index, ap_methR, ix, ir, c1, c2, k1, k2, ap', big_ok, -List.map_take, -List.map_drop, -List.map_append, -List.map_map]
  · have pr : putRow d f r = r := by unfold putRow; rw [if_neg hm]
    rw [pr] at ap ⊢
    have ir : imm (rowD r) = true := immL_ints r
    have rin : dIn (.int d) (rowD r) = some (.bl false) := by rw [rin, decide_eq_false hm]
    generalize rowD r = R at *
    generalize ((rows.take p).map (putRow d f)).map rowD = A at ap ⊢
    simp [PaB, rin, ap, ir]
theorem put_t : RU.d_put_ahead [webD rows, .int d, .int f] = some (.lst ((rows.map (putRow d f)).map rowD), [some (webD rows), some (.int d), some (.int f)]) := by
  have main : Ok (RU.d_put_ahead [webD rows, .int d, .int f]) fun z => z = (.lst ((rows.map (putRow d f)).map rowD), [some (webD rows), some (.int d), some (.int f)]) := by
    have iw := imm_rows rows
    have fw := frzL_id _ (imm_rows rows)
    have st := fun p r ρ hp h => put_step (d := d) (f := f) hl hr (webD rows) p r ρ hp h
    have bj : RU.b_put_ahead = fSeq (fAsg (fLst fNil) (fgName 3)) (fSeq (fFor (fSeqI (fFrz (fVar 0))) (fgName 4) PaB) (fRet (fVar 3))) := rfl
    generalize PaB = G at *
    simp [RU.d_put_ahead, bj, denOf, webD, iw, fw, big_ok, ok_bind, -List.map_map]
    refine ok_mono (ok_at (P := fun z => z.1 = .nx ∧ PaI rows d f (webD rows) rows.length z.2) (emb := rowD) rows (PaI rows d f (webD rows)) (fun p r ρ hp h => ok_mono (st p r ρ hp h) fun ρ1 h1 => ok_mono h1 fun x hx => by
      obtain ⟨o, ρ2⟩ := x
      obtain ⟨ho, hx⟩ := hx
      have ho : o = .nx := ho
      subst ho
      exact hx) (fun ρ h => ⟨rfl, h⟩) ⟨none, none, rfl⟩) ?_
    rintro ⟨fl, ρ⟩ ⟨ho, o4, o5, e⟩
    have ho : fl = .nx := ho
    subst ho
    have e : ρ = _ := e
    rw [List.take_length] at e
    subst e
    obtain ⟨Z, hZ⟩ : ∃ Z, Z = (rows.map (putRow d f)).map rowD := ⟨_, rfl⟩
    rw [← hZ]
    simp
  obtain ⟨z, e, rfl⟩ := main
  exact e
theorem put_f : RU.d_put_ahead [.lst (rows.map rowD), .int d, .int f] = some (.lst ((rows.map (putRow d f)).map rowD), [some (.flst (rows.map rowD)), some (.int d), some (.int f)]) := by
  have main : Ok (RU.d_put_ahead [.lst (rows.map rowD), .int d, .int f]) fun z => z = (.lst ((rows.map (putRow d f)).map rowD), [some (.flst (rows.map rowD)), some (.int d), some (.int f)]) := by
    have iw := imm_rows rows
    have fw := frzL_id _ (imm_rows rows)
    have st := fun p r ρ hp h => put_step (d := d) (f := f) hl hr (.flst (rows.map rowD)) p r ρ hp h
    have bj : RU.b_put_ahead = fSeq (fAsg (fLst fNil) (fgName 3)) (fSeq (fFor (fSeqI (fFrz (fVar 0))) (fgName 4) PaB) (fRet (fVar 3))) := rfl
    generalize PaB = G at *
    simp [RU.d_put_ahead, bj, denOf, iw, fw, big_ok, ok_bind, -List.map_map]
    refine ok_mono (ok_at (P := fun z => z.1 = .nx ∧ PaI rows d f (.flst (rows.map rowD)) rows.length z.2) (emb := rowD) rows (PaI rows d f (.flst (rows.map rowD))) (fun p r ρ hp h => ok_mono (st p r ρ hp h) fun ρ1 h1 => ok_mono h1 fun x hx => by
      obtain ⟨o, ρ2⟩ := x
      obtain ⟨ho, hx⟩ := hx
      have ho : o = .nx := ho
      subst ho
      exact hx) (fun ρ h => ⟨rfl, h⟩) ⟨none, none, rfl⟩) ?_
    rintro ⟨fl, ρ⟩ ⟨ho, o4, o5, e⟩
    have ho : fl = .nx := ho
    subst ho
    have e : ρ = _ := e
    rw [List.take_length] at e
    subst e
    obtain ⟨Z, hZ⟩ : ∃ Z, Z = (rows.map (putRow d f)).map rowD := ⟨_, rfl⟩
    rw [← hZ]
    simp
  obtain ⟨z, e, rfl⟩ := main
  exact e
end
end RT
/-! The program's grown. -/
namespace RT
open PySem PySem.Spec L2 DL WA WB WC RM RP RD RB WF RC RI RH RN
open RK (One grownR drawnR)
theorem begun_tl {rows : List (List Int)} (h : ∀ r ∈ rows, r ≠ [] ∧ r.length ≤ 1000) (hl : rows.length ≤ 1000) :
    RM.d__law_begun [.lst (rows.map rowD)] = some (webD (sortRows (rows.map turnRow)), [some (.flst (rows.map rowD))]) := by
  have main : Ok (RM.d__law_begun [.lst (rows.map rowD)]) fun z => z = (webD (sortRows (rows.map turnRow)), [some (.flst (rows.map rowD))]) := by
    simp [RM.d__law_begun, RM.b__law_begun, denOf, frzL_tups, imm_rows, big_ok, ok_bind, -List.map_map]
    refine ok_mono (ok_at (P := fun x => ∃ o2 o3, x = (.nx, [some (.flst (rows.map rowD)), some (.lst ((rows.map turnRow).map rowD)), o2, o3])) (emb := rowD) rows (fun p ρ => ∃ o2 o3, ρ = [some (.flst (rows.map rowD)), some (.lst (((rows.take p).map turnRow).map rowD)), o2, o3]) ?_ (fun ρ ⟨o2, o3, e⟩ => ⟨o2, o3, by rw [List.take_length] at e; rw [e]⟩) ⟨_, _, rfl⟩) ?_
    · rintro p q ρ hp ⟨o2, o3, rfl⟩
      obtain ⟨hq, hq2⟩ := h q (List.mem_of_getElem? hp)
      have lp := (List.getElem?_eq_some_iff.mp hp).1
      have mn := min_of (x := rowD q) (ns := q) rfl hq
      have ix := index_t (ns := q) (least_mem hq)
      have le := List.idxOf_le_length (l := q) (a := least q)
      have a : cut (intsD q) (some ((q.idxOf (least q) : Nat) : Int)) none = intsD (q.drop (q.idxOf (least q))) := (cut_from (intsD q) (q.idxOf (least q)) (by simpa using le)).trans List.map_drop.symm
      have b : cut (intsD q) none (some ((q.idxOf (least q) : Nat) : Int)) = intsD (q.take (q.idxOf (least q))) := (cut_to (intsD q) (q.idxOf (least q)) (by simpa using le)).trans List.map_take.symm
      have cat : dAdd (.tup (intsD (q.drop (q.idxOf (least q))))) (.tup (intsD (q.take (q.idxOf (least q))))) = some (.tup (intsD (turnRow q))) := by
        show (if (immL (intsD (q.drop (q.idxOf (least q)))) && immL (intsD (q.take (q.idxOf (least q))))) = true ∧ (intsD (q.drop (q.idxOf (least q)))).length + (intsD (q.take (q.idxOf (least q)))).length ≤ sizeLine then some (D.tup (intsD (q.drop (q.idxOf (least q))) ++ intsD (q.take (q.idxOf (least q))))) else none) = _
        rw [if_pos ⟨by rw [immL_ints, immL_ints]; rfl, big_ok (by simp; omega)⟩, ← List.map_append]
        rfl
      have tk : rows.take (p + 1) = rows.take p ++ [q] := by rw [List.take_add_one, hp]; rfl
      have more : ((rows.take (p + 1)).map turnRow).map rowD = ((rows.take p).map turnRow).map rowD ++ [rowD (turnRow q)] := by
        rw [tk, List.map_append, List.map_append]; rfl
      have tp : dTuple [.tup (intsD (turnRow q))] = some (.tup (intsD (turnRow q))) := if_pos (immL_ints _)
      have few : (((rows.take p).map turnRow).map rowD).length < sizeLine := big_lt (by simp; omega)
      have ap := append_l (ds := ((rows.take p).map turnRow).map rowD) (y := .tup (intsD (turnRow q))) few
      rw [more]
      generalize q.drop (q.idxOf (least q)) = U at a cat
      generalize q.take (q.idxOf (least q)) = V at b cat
      generalize ((rows.take p).map turnRow).map rowD = A at ap ⊢
      have it := immL_ints (turnRow q)
      unfold rowD at mn
      simp [ap_index, ap_methR, rowD, mn, ix]
      generalize q.idxOf (least q) = k at a b
      simp [a, b, cat, tp, ap, it]
    · rintro x ⟨o2, o3, rfl⟩
      have sr := sorted_rows (w := rows.map turnRow) fun r hr => by
        obtain ⟨q, hq, rfl⟩ := List.mem_map.mp hr
        exact turn_ne (h q hq).1
      have tp := tuple_l (imm_rows (sortRows (rows.map turnRow)))
      simp [sr, tp, webD, -List.map_map]
  obtain ⟨z, e, rfl⟩ := main
  exact e
/-- too many -/
def tooMany (x : Str) : XD := ⟨"TooMany", [(.inr "word", .str x)]⟩
section
variable {w : List (List Int)} {n : Nat} {d : Int} (W : IsWeb w n)
include W
theorem hold_no (h : n = 12) : RU.d_hold_room [webD w] = some (.up (tooMany "ties"), [some (webD w)]) := by
  have iw := imm_rows w
  have ti := RM.ties_ok W
  have c : ((12 : Nat) : Int) = 12 := rfl
  subst h
  rw [c] at ti
  simp [RU.d_hold_room, RU.b_hold_room, denX, ti, iw, tooMany]
theorem hold_ok (h : n < 12) : RU.d_hold_room [webD w] = some (.val .non, [some (webD w)]) := by
  have iw := imm_rows w
  have ti := RM.ties_ok W
  have c : ¬ (12 : Int) ≤ (n : Int) := by omega
  simp [RU.d_hold_room, RU.b_hold_room, denX, ti, iw, c]
end
end RT
/-! A tree, tie by tie; a feed of a list; refusals by their class. -/
namespace RT
open PySem PySem.Spec L2 DL WA WB WC RM RP RD RB WF RC RI RH RN
open RK (One grownR drawnR)
/-! ### a tree, tie by tie -/
/-- the law begins rows that stand still -/
theorem begun_fl {rows : List (List Int)} (h : ∀ r ∈ rows, r ≠ [] ∧ r.length ≤ 1000) (hl : rows.length ≤ 1000) : ∃ o, RM.d__law_begun [.lst (rows.map flR)] = some (webD (begW rows), [o]) := by
  obtain ⟨⟨z, o⟩, e, hz⟩ := RM.begun_ok h hl
  have hz : z = webD (begW rows) := hz
  subst hz
  have same : RM.d__law_begun [.lst (rows.map flR)] = RM.d__law_begun [.lst (rows.map lstR)] := by
    have f1 : frzL (rows.map flR) = some (rows.map flR) := frzL_id _ (immL_flR rows)
    have f2 : frzL (rows.map lstR) = some (rows.map flR) := RM.frzL_rows rows
    have i1 := immL_flR rows
    simp [RM.d__law_begun, RM.b__law_begun, denOf, f1, f2, i1, big_ok]
  rw [same]
  have e2 := e
  unfold RM.d__law_begun denOf at e2
  obtain ⟨⟨fl, ρ⟩, _, e2⟩ := Option.bind_eq_some_iff.mp e2
  have : ∃ o1, o = [o1] := by cases fl <;> cases e2 <;> exact ⟨_, rfl⟩
  obtain ⟨o1, rfl⟩ := this
  exact ⟨o1, e⟩
end RT
/-! A new tie struck or drawn together again. -/
namespace RT
open PySem PySem.Spec L2 DL WA WB WC RM RP RD RB WF RC RI RH RN
open RK (One grownR drawnR St Cl along_pm)
end RT
/-! A tie drawn in: what is told, what is due. -/
namespace K11
open PySem PySem.Spec L2 DL WA WB WC RM RP RD RB WF RC RI RH RN RT
open RK (One grownR drawnR Cl)
theorem strangeA (a dd : Addr) (kvs : List (Key × D)) (im : immK kvs = true) : d__law_strange a "NoAlong" dd [.exc a "NoAlong" dd kvs] = some (.bl false, [some (.exc a "NoAlong" dd kvs)]) :=
  strange_ok (b1 := false) (b2 := true) (b3 := false) (b4 := false) (b5 := false) (b6 := false) (b7 := false) (b8 := false) im (by decide)
theorem strangeM (a dd : Addr) (kvs : List (Key × D)) (im : immK kvs = true) : d__law_strange a "TooMany" dd [.exc a "TooMany" dd kvs] = some (.bl false, [some (.exc a "TooMany" dd kvs)]) :=
  strange_ok (b1 := false) (b2 := false) (b3 := false) (b4 := false) (b5 := false) (b6 := false) (b7 := true) (b8 := false) im (by decide)
abbrev MT : D := .tup [.str "many", .str "ties", .bl false]
abbrev AT (e : Int) : D := .tup [.str "along", .int e, .bl false]
/-- the corners lie along one face -/
abbrev Same (w : List (List Int)) (n : Nat) (d e : Int) : Prop := spotOf (facesOf w (2 * n)) d = spotOf (facesOf w (2 * n)) e
section
variable {w : List (List Int)} {n : Nat} {d e : Int} (W : IsWeb w n)
include W
theorem drawn_no (h : n = 12) : d_drawn_in [webD w, .int d, .int e] = some (.up (tooMany "ties"), [some (webD w), some (.int d), some (.int e)]) := by
  have iw := imm_rows w
  have hh := hold_no W h
  have hh : d_hold_room [webD w] = some (.up (tooMany "ties"), [some (webD w)]) := hh
  simp [d_drawn_in, b_drawn_in, denX, hh, iw]
variable (hd : 0 ≤ d ∧ d < 2 * (n : Int)) (he : 0 ≤ e ∧ e < 2 * (n : Int)) (h : n < 12)
include hd he h
theorem drawn_out (c : ¬ Same w n d e) : d_drawn_in [webD w, .int d, .int e] = some (.up ⟨"NoAlong", [(.inr "dart", .int e)]⟩, [some (webD w), some (.int d), some (.int e)]) := by
  have iw := imm_rows w
  have hh := hold_ok W h
  have hh : d_hold_room [webD w] = some (.val .non, [some (webD w)]) := hh
  have f1 := RM.face_of_ok W (d := d) (W.mem.mpr (by omega))
  have f2 := RM.face_of_ok W (d := e) (W.mem.mpr (by omega))
  have f1 : d_face_of [webD w, .int d] = _ := f1
  have f2 : d_face_of [webD w, .int e] = _ := f2
  have nE : dNe (.int (spotOf (facesOf w (2 * n)) d : Nat)) (.int (spotOf (facesOf w (2 * n)) e : Nat)) = some (.bl true) := by
    show some (D.bl (!decide (V.int _ = V.int _))) = _
    rw [decide_eq_false fun z => c (by have := V.int.inj z; omega)]; rfl
  generalize spotOf (facesOf w (2 * n)) d = P at *
  generalize spotOf (facesOf w (2 * n)) e = Q at *
  simp [d_drawn_in, b_drawn_in, denX, hh, iw, f1, f2, nE]
theorem drawn_go (c : Same w n d e) : d_drawn_in [webD w, .int d, .int e] = some (.val (webD (begW (drawnR w n d e))), [some (webD w), some (.int d), some (.int e)]) := by
  have iw := imm_rows w
  have hh := hold_ok W h
  have hh : d_hold_room [webD w] = some (.val .non, [some (webD w)]) := hh
  have ti := RM.ties_ok W
  have ti : d_ties_in [webD w] = _ := ti
  have lw := W.rows
  have m2 : ∀ z : Int, dMul (.int 2) (.int z) = some (.int (2 * z)) := fun z => mul_l (by decide) (by decide)
  have f1 := RM.face_of_ok W (d := d) (W.mem.mpr (by omega))
  have f2 := RM.face_of_ok W (d := e) (W.mem.mpr (by omega))
  have f1 : d_face_of [webD w, .int d] = _ := f1
  have f2 : d_face_of [webD w, .int e] = _ := f2
  rw [← c] at f2
  have V := drawn_web W h hd he
  have lv := V.rows
  have ll : ∀ r ∈ w, r.length ≤ 24 := fun r hr => W.row hr
  have p := put_t (d := d) (f := 2 * (n : Int)) (rows := w) (by omega) (fun r hr => by have := W.row hr; omega)
  have p : d_put_ahead [webD w, .int d, .int (2 * (n : Int))] = _ := p
  have p2 := put_f (d := e) (f := 2 * (n : Int) + 1) (rows := w.map (putRow d (2 * (n : Int)))) (by simp; omega) (fun r hr => by
    obtain ⟨q, hq, rfl⟩ := List.mem_map.mp hr
    have := ll q hq
    by_cases c : d ∈ q
    · rw [RK.put_len c]; omega
    · unfold putRow
      rw [if_neg c]; omega)
  have bg := begun_tl (rows := drawnR w n d e) (fun r hr => ⟨V.ne r hr, by have := V.row hr; omega⟩) (by omega)
  have bg : d_begun_rows [.lst ((drawnR w n d e).map rowD)] = some (webD (begW (drawnR w n d e)), [some (.flst ((drawnR w n d e).map rowD))]) := bg
  have eD : ((w.map (putRow d (2 * (n : Int)))).map (putRow e (2 * (n : Int) + 1))).map rowD = (drawnR w n d e).map rowD := by
    unfold drawnR
    rw [show ((2 * n : Nat) : Int) = 2 * (n : Int) by omega, show ((2 * n + 1 : Nat) : Int) = 2 * (n : Int) + 1 by omega]
  rw [eD] at p2
  have p2 : d_put_ahead [.lst ((w.map (putRow d (2 * (n : Int)))).map rowD), .int e, .int (2 * (n : Int) + 1)] = _ := p2
  generalize (w.map (putRow d (2 * (n : Int)))).map rowD = P at *
  generalize (drawnR w n d e).map rowD = G at *
  generalize begW (drawnR w n d e) = Z at *
  generalize spotOf (facesOf w (2 * n)) d = S at *
  simp [d_drawn_in, b_drawn_in, denX, hh, iw, f1, f2, ti, m2, p, p2, bg, big_ok]
end
noncomputable section
def t0 : FS := fAsg (fTup (fCons (fC (.str "none")) (fNil))) (fgName 3)
def t1 : FS := fTryAs (xAsg (xCall d_drawn_in (xA (fCons (fVar 0) (fCons (fVar 1) (fCons (fVar 2) (fNil)))))) (fgName 3)) ((["NoAlong"] : List Str) ++ (["TooMany"] : List Str)) 4 (fun a c dd => if c ∈ (["NoAlong"] : List Str) then fAsg (fTup (fCons (fC (.str "along")) (fCons (fFld a dd 4 "dart") (fCons (fCallD (d__law_strange a c dd) (fCons (fVar 4) (fNil))) (fNil))))) (fgName 3) else fAsg (fTup (fCons (fC (.str "many")) (fCons (fFld a dd 4 "word") (fCons (fCallD (d__law_strange a c dd) (fCons (fVar 4) (fNil))) (fNil))))) (fgName 3))
def t2 : FS := fRet (fVar 3)
def t : FS := fSeq t0 (fSeq t1 t2)
end
theorem told_split : d__law_told = denOf 5 3 [3, 3, 4, 3, 3] t := rfl
section
variable {x : D} {d e : Int}
theorem told_by {z : D} (ix : imm x = true) (iz : imm z = true) (g : t1 [some x, some (.int d), some (.int e), some (.tup [.str "none"]), none] = some (.nx, [some x, some (.int d), some (.int e), some z, none])) :
    d__law_told [x, .int d, .int e] = some (z, [some x, some (.int d), some (.int e)]) := by
  have s0 : t0 [some x, some (.int d), some (.int e), none, none] = some (.nx, [some x, some (.int d), some (.int e), some (.tup [.str "none"]), none]) := by
    simp [t0, big_ok]
  have s2 : t2 [some x, some (.int d), some (.int e), some z, none] = some (.ret z, [some x, some (.int d), some (.int e), some z, none]) := by
    simp [t2, iz]
  have run : t [some x, some (.int d), some (.int e), none, none] = some (.ret z, [some x, some (.int d), some (.int e), some z, none]) := by
    unfold t
    rw [ap_seq, s0]
    show fSeq t1 t2 _ = _
    rw [ap_seq, g]
    exact s2
  rw [told_split]
  generalize t = tt at *
  simp [denOf, run]
theorem told_many (ix : imm x = true) (h : d_drawn_in [x, .int d, .int e] = some (.up (tooMany "ties"), [some x, some (.int d), some (.int e)])) :
    d__law_told [x, .int d, .int e] = some (MT, [some x, some (.int d), some (.int e)]) := by
  have g := fTryAs_up (fb := xAsg (xCall d_drawn_in (xA (fCons (fVar 0) (fCons (fVar 1) (fCons (fVar 2) (fNil)))))) (fgName 3)) (ys := (["NoAlong"] : List Str) ++ (["TooMany"] : List Str)) (i := 4)
      (fs := fun a c dd => if c ∈ (["NoAlong"] : List Str) then fAsg (fTup (fCons (fC (.str "along")) (fCons (fFld a dd 4 "dart") (fCons (fCallD (d__law_strange a c dd) (fCons (fVar 4) (fNil))) (fNil))))) (fgName 3) else fAsg (fTup (fCons (fC (.str "many")) (fCons (fFld a dd 4 "word") (fCons (fCallD (d__law_strange a c dd) (fCons (fVar 4) (fNil))) (fNil))))) (fgName 3))
      (ρ := [some x, some (.int d), some (.int e), some (.tup [.str "none"]), none]) (ρ1 := [some x, some (.int d), some (.int e), some (.tup [.str "none"]), none]) (x := ⟨"TooMany", [(.inr "word", .str "ties")]⟩) (r := (.nx, [some x, some (.int d), some (.int e), some MT, none]))
      (by
        have h : d_drawn_in [x, .int d, .int e] = some (.up ⟨"TooMany", [(.inr "word", .str "ties")]⟩, [some x, some (.int d), some (.int e)]) := h
        simp [h, ix]) (by decide) (by simp) (fun a dd => by
        have nm : ¬ ("TooMany" : Str) ∈ (["NoAlong"] : List Str) := by decide
        have ff : ∀ o3 : Option D, fFld a dd 4 "word" [some x, some (.int d), some (.int e), o3, some (.exc a "TooMany" dd [(.inr "word", .str "ties")])] = some (.val (.str "ties"), [some x, some (.int d), some (.int e), o3, some (.exc a "TooMany" dd [(.inr "word", .str "ties")])]) := fun o3 => by
          rw [ap_fFld rfl]; rfl
        have s := strangeM a dd [(.inr "word", .str "ties")] rfl
        have ik : imm (.exc a "TooMany" dd [(.inr "word", .str "ties")]) = true := rfl
        refine ⟨[some x, some (.int d), some (.int e), some MT, some (.exc a "TooMany" dd [(.inr "word", .str "ties")])], ?_, rfl⟩
        show (if ("TooMany" : Str) ∈ (["NoAlong"] : List Str) then (_ : FS) else (_ : FS)) _ = _
        rw [if_neg nm]
        generalize D.exc a "TooMany" dd [(.inr "word", .str "ties")] = XX at *
        simp [ff, s, ik, big_ok])
  exact told_by ix rfl g
theorem told_along (ix : imm x = true) (h : d_drawn_in [x, .int d, .int e] = some (.up ⟨"NoAlong", [(.inr "dart", .int e)]⟩, [some x, some (.int d), some (.int e)])) :
    d__law_told [x, .int d, .int e] = some (AT e, [some x, some (.int d), some (.int e)]) := by
  have g := fTryAs_up (fb := xAsg (xCall d_drawn_in (xA (fCons (fVar 0) (fCons (fVar 1) (fCons (fVar 2) (fNil)))))) (fgName 3)) (ys := (["NoAlong"] : List Str) ++ (["TooMany"] : List Str)) (i := 4)
      (fs := fun a c dd => if c ∈ (["NoAlong"] : List Str) then fAsg (fTup (fCons (fC (.str "along")) (fCons (fFld a dd 4 "dart") (fCons (fCallD (d__law_strange a c dd) (fCons (fVar 4) (fNil))) (fNil))))) (fgName 3) else fAsg (fTup (fCons (fC (.str "many")) (fCons (fFld a dd 4 "word") (fCons (fCallD (d__law_strange a c dd) (fCons (fVar 4) (fNil))) (fNil))))) (fgName 3))
      (ρ := [some x, some (.int d), some (.int e), some (.tup [.str "none"]), none]) (ρ1 := [some x, some (.int d), some (.int e), some (.tup [.str "none"]), none]) (x := ⟨"NoAlong", [(.inr "dart", .int e)]⟩) (r := (.nx, [some x, some (.int d), some (.int e), some (AT e), none]))
      (by simp [h, ix]) (by show ("NoAlong" : Str) ∈ _; decide) (by simp) (fun a dd => by
        have nm : ("NoAlong" : Str) ∈ (["NoAlong"] : List Str) := by decide
        have ff : ∀ o3 : Option D, fFld a dd 4 "dart" [some x, some (.int d), some (.int e), o3, some (.exc a "NoAlong" dd [(.inr "dart", .int e)])] = some (.val (.int e), [some x, some (.int d), some (.int e), o3, some (.exc a "NoAlong" dd [(.inr "dart", .int e)])]) := fun o3 => by
          rw [ap_fFld rfl]; rfl
        have s := strangeA a dd [(.inr "dart", .int e)] rfl
        have ik : imm (.exc a "NoAlong" dd [(.inr "dart", .int e)]) = true := rfl
        refine ⟨[some x, some (.int d), some (.int e), some (AT e), some (.exc a "NoAlong" dd [(.inr "dart", .int e)])], ?_, rfl⟩
        show (if ("NoAlong" : Str) ∈ (["NoAlong"] : List Str) then (_ : FS) else (_ : FS)) _ = _
        rw [if_pos nm]
        generalize D.exc a "NoAlong" dd [(.inr "dart", .int e)] = XX at *
        simp [ff, s, ik, big_ok])
  exact told_by ix rfl g
theorem told_go {z : D} (ix : imm x = true) (iz : imm z = true) (h : d_drawn_in [x, .int d, .int e] = some (.val z, [some x, some (.int d), some (.int e)])) :
    d__law_told [x, .int d, .int e] = some (z, [some x, some (.int d), some (.int e)]) := by
  have g := fTryAs_go (fb := xAsg (xCall d_drawn_in (xA (fCons (fVar 0) (fCons (fVar 1) (fCons (fVar 2) (fNil)))))) (fgName 3)) (ys := (["NoAlong"] : List Str) ++ (["TooMany"] : List Str)) (i := 4)
      (fs := fun a c dd => if c ∈ (["NoAlong"] : List Str) then fAsg (fTup (fCons (fC (.str "along")) (fCons (fFld a dd 4 "dart") (fCons (fCallD (d__law_strange a c dd) (fCons (fVar 4) (fNil))) (fNil))))) (fgName 3) else fAsg (fTup (fCons (fC (.str "many")) (fCons (fFld a dd 4 "word") (fCons (fCallD (d__law_strange a c dd) (fCons (fVar 4) (fNil))) (fNil))))) (fgName 3))
      (ρ := [some x, some (.int d), some (.int e), some (.tup [.str "none"]), none]) (ρ1 := [some x, some (.int d), some (.int e), some z, none]) (o := .nx)
      (by simp [h, ix])
  exact told_by ix iz g
end
/-! ### what is due -/
noncomputable section
def u0 : FS := fAsg (fCall dSum (fCons (fLc [5] (fSeqI (fFrz (fVar 0))) (fgName 5) (fYes) (fCall dLen (fCons (fVar 5) (fNil)))) (fNil))) (fgName 3)
def u1 : FS := fIfS (fTest (fOp dEq (fVar 3) (fC (.int 24)))) (fRet (fTup (fCons (fC (.str "many")) (fCons (fC (.str "ties")) (fCons (fC (.bl false)) (fNil)))))) (fSkip)
def u2 : FS := fIfS (fTest (fOp dNotIn (fVar 2) (fCallD d__law_ring (fCons (fVar 0) (fCons (fVar 1) (fNil)))))) (fRet (fTup (fCons (fC (.str "along")) (fCons (fVar 2) (fCons (fC (.bl false)) (fNil)))))) (fSkip)
def u3 : FS := fAsg (fCallD d__law_put (fCons (fLc [5] (fSeqI (fFrz (fVar 0))) (fgName 5) (fYes) (fCall dList (fCons (fVar 5) (fNil)))) (fCons (fVar 1) (fCons (fVar 3) (fNil))))) (fgName 4)
def u4 : FS := fRet (fCallD d__law_begun (fCons (fCallD d__law_put (fCons (fVar 4) (fCons (fVar 2) (fCons (fOp dAdd (fVar 3) (fC (.int 1))) (fNil))))) (fNil)))
def u : FS := fSeq u0 (fSeq u1 (fSeq u2 (fSeq u3 u4)))
end
theorem due_split : d__law_due = denOf 6 3 [3, 4] u := rfl
open Classical in
noncomputable def dueD (w : List (List Int)) (n : Nat) (d e : Int) : D := if n = 12 then MT else if Same w n d e then webD (begW (drawnR w n d e)) else AT e
section
variable {w : List (List Int)} {n : Nat} {d e : Int} (W : IsWeb w n) (hd : 0 ≤ d ∧ d < 2 * (n : Int)) (he : 0 ≤ e ∧ e < 2 * (n : Int))
include W hd he
theorem told_ok : d__law_told [webD w, .int d, .int e] = some (dueD w n d e, [some (webD w), some (.int d), some (.int e)]) := by
  have iw := imm_rows w
  have := W.le
  unfold dueD
  by_cases h : n = 12
  · rw [if_pos h]; exact told_many iw (drawn_no W h)
  · rw [if_neg h]
    by_cases c : Same w n d e
    · rw [if_pos c]; exact told_go iw (imm_rows _) (drawn_go W hd he (by omega) c)
    · rw [if_neg c]; exact told_along iw (drawn_out W hd he (by omega) c)
theorem due_ok : d__law_due [webD w, .int d, .int e] = some (dueD w n d e, [some (webD w), some (.int d), some (.int e)]) := by
  have iw : imm (webD w) = true := imm_rows w
  have fw := frzL_id _ (imm_rows w)
  have iww := imm_rows w
  have lw := W.rows
  have n12 := W.le
  have n1 := W.pos
  have sm := RC.sum_len W
  have lw2 : (w.map fun r => (r.length : Int)).length ≤ sizeLine := big_ok (by rw [List.length_map]; omega)
  have lc : lcD [5] (fgName 5) fYes (fCall dLen (fCons (fVar 5) fNil)) (w.map rowD) [some (webD w), some (.int d), some (.int e), none, none, none] = some (w.map (fun r => D.int (r.length : Nat)), [some (webD w), some (.int d), some (.int e), none, none, none]) := by
    refine lcD_all (vs := [5]) (fg := fgName 5) (emb := rowD) (z := fun r => D.int (r.length : Nat)) (xs := w) fun r _ => ?_
    have lr : dLen [rowD r] = some (.int r.length) := by simp [rowD]
    generalize webD w = WW
    exact ⟨[some WW, some (.int d), some (.int e), none, none, some (rowD r)], by simp, .val (.int r.length), _, _, by simp [lr]; rfl, rfl, by simp [wipeF]⟩
  have l1 : w.map (fun r => D.int (r.length : Nat)) = intsD (w.map fun r => (r.length : Int)) := by simp
  have s0 : u0 [some (webD w), some (.int d), some (.int e), none, none, none] = some (.nx, [some (webD w), some (.int d), some (.int e), some (.int (2 * (n : Int))), none, none]) := by
    rw [l1] at lc
    have ww : webD w = .tup (w.map rowD) := rfl
    rw [ww] at lc ⊢
    generalize (w.map fun r => (r.length : Int)) = LL at *
    generalize w.map rowD = WR at *
    simp [u0, fw, iww, lc, lw2, sm, wipeF, big_ok]
  have q24 : dEq (.int (2 * (n : Int))) (.int 24) = some (.bl (decide (n = 12))) := by
    show some (D.bl (decide (V.int _ = V.int _))) = _
    exact congrArg (fun b => some (D.bl b)) (decide_eq_decide.mpr ⟨fun z => by have := V.int.inj z; omega, fun z => by rw [z]; rfl⟩)
  unfold dueD
  rw [due_split]
  by_cases h : n = 12
  · rw [if_pos h]
    rw [decide_eq_true h] at q24
    have run : u [some (webD w), some (.int d), some (.int e), none, none, none] = some (.ret MT, [some (webD w), some (.int d), some (.int e), some (.int (2 * (n : Int))), none, none]) := by
      unfold u
      rw [ap_seq, s0]
      show fSeq u1 (fSeq u2 (fSeq u3 u4)) _ = _
      generalize webD w = WW at *
      generalize 2 * (n : Int) = N2 at *
      rw [ap_seq]
      have s1 : u1 [some WW, some (.int d), some (.int e), some (.int N2), none, none] = some (.ret MT, [some WW, some (.int d), some (.int e), some (.int N2), none, none]) := by
        simp [u1, q24, big_ok]
      rw [s1]; rfl
    generalize u = uu at *
    simp [denOf, run]
  rw [if_neg h]
  rw [decide_eq_false h] at q24
  have s1 : u1 [some (webD w), some (.int d), some (.int e), some (.int (2 * (n : Int))), none, none] = some (.nx, [some (webD w), some (.int d), some (.int e), some (.int (2 * (n : Int))), none, none]) := by
    generalize webD w = WW at *
    generalize 2 * (n : Int) = N2 at *
    simp [u1, q24]
  obtain ⟨j, R, hj, er⟩ := RH.ring_ok W (reads_web w) hd
  have er : d__law_ring [webD w, .int d] = _ := er
  have mem : e ∈ chain (along w) d j ↔ Same w n d e := (ring_mem W hd R he).trans (spot_same (faces_web W) hd he).symm
  have ni := notIn_l (x := .lst (intsD (chain (along w) d j))) (d := e) (.inl rfl)
  by_cases c : Same w n d e
  · rw [if_pos c]
    rw [decide_eq_true (mem.mpr c)] at ni
    have s2 : u2 [some (webD w), some (.int d), some (.int e), some (.int (2 * (n : Int))), none, none] = some (.nx, [some (webD w), some (.int d), some (.int e), some (.int (2 * (n : Int))), none, none]) := by
      generalize webD w = WW at *
      generalize D.lst (intsD (chain (along w) d j)) = CC at *
      simp [u2, er, ni, iw]
    have lss : lcD [5] (fgName 5) fYes (fCall dList (fCons (fVar 5) fNil)) (w.map rowD) [some (webD w), some (.int d), some (.int e), some (.int (2 * (n : Int))), none, none] = some (w.map lstR, [some (webD w), some (.int d), some (.int e), some (.int (2 * (n : Int))), none, none]) := by
      refine lcD_all (vs := [5]) (fg := fgName 5) (emb := rowD) (z := lstR) (xs := w) fun r _ => ?_
      have li : dList [rowD r] = some (lstR r) := by
        show ((some (intsD r)).bind fun ds => if immL ds = true then some (D.lst ds) else none) = _
        rw [Option.bind_some, if_pos (immL_ints r)]
      have ir : imm (rowD r) = true := immL_ints r
      generalize webD w = WW
      exact ⟨[some WW, some (.int d), some (.int e), some (.int (2 * (n : Int))), none, some (rowD r)], by simp, .val (lstR r), _, _, by simp [li]; rfl, rfl, by simp [wipeF]⟩
    have ll : (w.map lstR).length ≤ sizeLine := big_ok (by simp; omega)
    have pu := RH.put_ok (x := .lst (w.map lstR)) (rows := w) (f := 2 * (n : Int)) (d := d) (by
      show (frzL (w.map lstR)).map D.flst = _
      rw [RM.frzL_rows]; rfl) (by omega) (fun r hr => by have := W.row hr; omega)
    have pu : d__law_put [.lst (w.map lstR), .int d, .int (2 * (n : Int))] = _ := pu
    have pu2 := RH.put_ok (x := .lst ((w.map (putRow d (2 * (n : Int)))).map flR)) (rows := w.map (putRow d (2 * (n : Int)))) (f := 2 * (n : Int) + 1) (d := e) (by
      show (frzL _).map D.flst = _
      rw [frzL_id _ (immL_flR _)]; rfl) (by rw [List.length_map]; omega) (fun r hr => by
        obtain ⟨q, hq, rfl⟩ := List.mem_map.mp hr
        have := W.row hq
        by_cases c : d ∈ q
        · rw [RK.put_len c]; omega
        · unfold putRow
          rw [if_neg c]; omega)
    have V := drawn_web W (by omega : n < 12) hd he
    have lv := V.rows
    obtain ⟨ob, bg⟩ := begun_fl (rows := drawnR w n d e) (fun r hr => ⟨V.ne r hr, by have := V.row hr; omega⟩) (by omega)
    have bg : d__law_begun [.lst ((drawnR w n d e).map flR)] = _ := bg
    have eD : ((w.map (putRow d (2 * (n : Int)))).map (putRow e (2 * (n : Int) + 1))).map flR = (drawnR w n d e).map flR := by
      unfold drawnR
      rw [show ((2 * n : Nat) : Int) = 2 * (n : Int) by omega, show ((2 * n + 1 : Nat) : Int) = 2 * (n : Int) + 1 by omega]
    rw [eD] at pu2
    have pu2 : d__law_put [.lst ((w.map (putRow d (2 * (n : Int)))).map flR), .int e, .int (2 * (n : Int) + 1)] = _ := pu2
    have iP : imm (.lst ((w.map (putRow d (2 * (n : Int)))).map flR)) = false := rfl
    have iF : imm (.flst ((w.map (putRow d (2 * (n : Int)))).map flR)) = true := immL_flR _
    have iV : imm (webD (begW (drawnR w n d e))) = true := imm_rows _
    have ad : dAdd (.int (2 * (n : Int))) (.int 1) = some (.int (2 * (n : Int) + 1)) := rfl
    have s3 : u3 [some (webD w), some (.int d), some (.int e), some (.int (2 * (n : Int))), none, none] = some (.nx, [some (webD w), some (.int d), some (.int e), some (.int (2 * (n : Int))), some (.lst ((w.map (putRow d (2 * (n : Int)))).map flR)), none]) := by
      have ww : webD w = .tup (w.map rowD) := rfl
      rw [ww] at lss ⊢
      generalize D.lst ((w.map (putRow d (2 * (n : Int)))).map flR) = P1 at *
      generalize w.map lstR = WL at *
      generalize w.map rowD = WR at *
      simp [u3, fw, iww, lss, ll, pu, wipeF, big_ok]
    obtain ⟨q4, s4⟩ : ∃ q4, u4 [some (webD w), some (.int d), some (.int e), some (.int (2 * (n : Int))), some (.lst ((w.map (putRow d (2 * (n : Int)))).map flR)), none] = some (.ret (webD (begW (drawnR w n d e))), [some (webD w), some (.int d), some (.int e), some (.int (2 * (n : Int))), q4, none]) := by
      generalize D.lst ((w.map (putRow d (2 * (n : Int)))).map flR) = P1 at *
      generalize D.flst ((w.map (putRow d (2 * (n : Int)))).map flR) = P2 at *
      generalize D.lst ((drawnR w n d e).map flR) = P3 at *
      generalize webD (begW (drawnR w n d e)) = P4 at *
      generalize webD w = WW at *
      exact ⟨_, by simp [u4, pu2, bg, ad, iP, iF, iV]; rfl⟩
    have run : u [some (webD w), some (.int d), some (.int e), none, none, none] = some (.ret (webD (begW (drawnR w n d e))), [some (webD w), some (.int d), some (.int e), some (.int (2 * (n : Int))), q4, none]) := by
      unfold u
      rw [ap_seq, s0]
      show fSeq u1 (fSeq u2 (fSeq u3 u4)) _ = _
      rw [ap_seq, s1]
      show fSeq u2 (fSeq u3 u4) _ = _
      rw [ap_seq, s2]
      show fSeq u3 u4 _ = _
      rw [ap_seq, s3]
      exact s4
    generalize u = uu at *
    simp [denOf, run]
  · rw [if_neg c]
    rw [decide_eq_false (fun z => c (mem.mp z))] at ni
    have s2 : u2 [some (webD w), some (.int d), some (.int e), some (.int (2 * (n : Int))), none, none] = some (.ret (AT e), [some (webD w), some (.int d), some (.int e), some (.int (2 * (n : Int))), none, none]) := by
      generalize webD w = WW at *
      generalize D.lst (intsD (chain (along w) d j)) = CC at *
      simp [u2, er, ni, iw, big_ok]
    have run : u [some (webD w), some (.int d), some (.int e), none, none, none] = some (.ret (AT e), [some (webD w), some (.int d), some (.int e), some (.int (2 * (n : Int))), none, none]) := by
      unfold u
      rw [ap_seq, s0]
      show fSeq u1 (fSeq u2 (fSeq u3 u4)) _ = _
      rw [ap_seq, s1]
      show fSeq u2 (fSeq u3 u4) _ = _
      rw [ap_seq, s2]
      rfl
    generalize u = uu at *
    simp [denOf, run]
end
end K11
/-! A tie drawn in: the law. -/
namespace K11
open PySem PySem.Spec L2 DL WA WB WC RM RP RD RB WF RC RI RH RN RT
open RK (One grownR drawnR Cl)
noncomputable section
def v0 : FS := fAsg (fCallD d__law_feed (fCons (fVar 0) (fNil))) (fgName 1)
def v1 : FS := fAsg (fLc [12] (fRng1 (fCons (fC (.int 4)) (fNil))) (fgName 12) (fYes) (fCallD d__law_draw (fCons (fVar 1) (fCons (fC (.int 4)) (fNil))))) (fgName 2)
def v2 : FS := fAsg (fCallD d__law_flat_web (fCons (fVar 1) (fCons (fC (.int 12)) (fNil)))) (fgName 3)
def v3 : FS := fAsg (fCall dRepr (fCons (fVar 3) (fNil))) (fgName 4)
def v4 : FS := fAsg (fCall dSum (fCons (fLc [13] (fSeqI (fFrz (fVar 3))) (fgName 13) (fYes) (fCall dLen (fCons (fVar 13) (fNil)))) (fNil))) (fgName 5)
def v5b0 : FS := fAsg (fCallD d__law_draw (fCons (fVar 1) (fCons (fVar 5) (fNil)))) (fgName 7)
def v5b1 : FS := fAsg (fPick (fLst (fCons (fCallD d__law_ring (fCons (fVar 3) (fCons (fVar 7) (fNil)))) (fCons (fLstRg1 (fVar 5)) (fCons (fLst (fCons (fVar 7) (fNil))) (fNil))))) (fOp dSubs (fLst (fCons (fC (.int 0)) (fCons (fC (.int 0)) (fCons (fC (.int 1)) (fCons (fC (.int 2)) (fNil)))))) (fVar 6))) (fgName 8)
def v5b2 : FS := fAsg (fOp dSubs (fVar 8) (fCallD d__law_draw (fCons (fVar 1) (fCons (fCall dLen (fCons (fVar 8) (fNil))) (fNil))))) (fgName 9)
def v5b3 : FS := fAsg (fCallD d__law_due (fCons (fVar 3) (fCons (fVar 7) (fCons (fVar 9) (fNil))))) (fgName 10)
def v5b4 : FS := fAsg (fCallD d__law_told (fCons (fVar 3) (fCons (fVar 7) (fCons (fVar 9) (fNil))))) (fgName 11)
def v5b5 : FS := fIfS (fOr (fTest (fOp dNe (fCall dRepr (fCons (fVar 11) (fNil))) (fCall dRepr (fCons (fVar 10) (fNil))))) (fTest (fOp dNe (fCall dRepr (fCons (fVar 3) (fNil))) (fVar 4)))) (fRet (fC (.bl false))) (fSkip)
def v5b6 : FS := fIfS (fTest (fOp dNotInT (fOp dSubs (fVar 10) (fC (.int 0))) (fTup (fCons (fC (.str "many")) (fCons (fC (.str "along")) (fNil)))))) (fIfS (fOr (fTest (fOp dNe (fCall dLen (fCons (fCallD d_faces (fCons (fVar 11) (fNil))) (fNil))) (fOp dAdd (fCall dLen (fCons (fCallD d_faces (fCons (fVar 3) (fNil))) (fNil))) (fC (.int 1))))) (fOr (fTest (fOp dNe (fCall dLen (fCons (fVar 11) (fNil))) (fCall dLen (fCons (fVar 3) (fNil))))) (fTest (fOp dIsNotB (fCallD d_is_flat (fCons (fVar 11) (fNil))) (fC (.bl true)))))) (fRet (fC (.bl false))) (fSkip)) (fSkip)
def v5b : FS := fSeq v5b0 (fSeq v5b1 (fSeq v5b2 (fSeq v5b3 (fSeq v5b4 (fSeq v5b5 v5b6)))))
def v5 : FS := fFor (fSeqI (fFrz (fVar 2))) (fgName 6) v5b
def v6 : FS := fRet (fC (.bl true))
def v : FS := fSeq v0 (fSeq v1 (fSeq v2 (fSeq v3 (fSeq v4 (fSeq v5 v6)))))
end
theorem law_split : d_law = denOf 14 1 [1, 2, 3, 4, 5, 6, 7, 8, 9, 10, 11] v := rfl
theorem seq_nx {a b : FS} {ρ ρ1 : Fm} (h : a ρ = some (.nx, ρ1)) : fSeq a b ρ = b ρ1 := by
  rw [ap_seq, h]; rfl
theorem nice_MT : Nice 1 200 MT := ⟨by decide +kernel, by decide +kernel, by decide +kernel⟩
theorem nice_AT {e : Int} (h : e.natAbs < 10 ^ 12) : Nice 1 1000 (AT e) := (nice_tup (ds := [.str "along", .int e, .bl false]) (k := 0) (w := 200) fun d hd => by
  rcases List.mem_cons.1 hd with rfl | hd
  · exact ⟨by decide +kernel, by decide +kernel, by decide +kernel⟩
  · rcases List.mem_cons.1 hd with rfl | hd
    · exact (nice_int h).mono (by decide) (by decide)
    · rw [List.mem_singleton.1 hd]; exact ⟨by decide +kernel, by decide +kernel, by decide +kernel⟩).mono (by decide) (by show 3 * 201 ≤ 1000; decide)
section
variable {o0 o2 o7 o8 o9 o10 o11 : Option D} {w : List (List Int)} {n : Nat} {s : Str} {way : Int}
theorem pick_ok (W : IsWeb w n) {d : Int} (hd : 0 ≤ d ∧ d < 2 * (n : Int)) (hw : 0 ≤ way ∧ way < 4) {f : D} : ∃ L : List Int, L ≠ [] ∧ L.length ≤ 24 ∧ (∀ x ∈ L, 0 ≤ x ∧ x < 2 * (n : Int)) ∧
    v5b1 [o0, some f, o2, some (webD w), some (.str s), some (.int (2 * (n : Int))), some (.int way), some (.int d), o8, o9, o10, o11, none, none] = some (.nx, [o0, some f, o2, some (webD w), some (.str s), some (.int (2 * (n : Int))), some (.int way), some (.int d), some (.lst (intsD L)), o9, o10, o11, none, none]) := by
  have n12 := W.le
  have n1 := W.pos
  have iw : imm (webD w) = true := imm_rows w
  obtain ⟨j, R, hj, er⟩ := RH.ring_ok W (reads_web w) hd
  have er : d__law_ring [webD w, .int d] = _ := er
  have ok2 : okR (2 * (n : Int)) = true := okR_of' (by omega) (by omega)
  have nm : 2 * (n : Int) ≤ 16777216 := by omega
  have tn : (2 * (n : Int)).toNat = 2 * n := by omega
  have io : iota 0 (2 * n) = intsD (up (2 * n)) := iota_up _
  have three : ∀ i : Int, ∀ L : List Int, dSubs (.lst [.int 0, .int 0, .int 1, .int 2]) (.int way) = some (.int i) → atI [D.lst (intsD (chain (along w) d j)), D.lst (intsD (up (2 * n))), D.lst [D.int d]] i = some (.lst (intsD L)) →
      v5b1 [o0, some f, o2, some (webD w), some (.str s), some (.int (2 * (n : Int))), some (.int way), some (.int d), o8, o9, o10, o11, none, none] = some (.nx, [o0, some f, o2, some (webD w), some (.str s), some (.int (2 * (n : Int))), some (.int way), some (.int d), some (.lst (intsD L)), o9, o10, o11, none, none]) := fun i L h1 h2 => by
    rw [← io] at h2
    generalize D.lst (intsD (chain (along w) d j)) = C1 at *
    generalize D.lst (intsD L) = LL at *
    generalize webD w = WW at *
    generalize 2 * (n : Int) = N2 at *
    simp [v5b1, er, iw, ok2, nm, tn, h1, h2, big_ok]
  have c : way = 0 ∨ way = 1 ∨ way = 2 ∨ way = 3 := by omega
  have ch : chain (along w) d j ≠ [] ∧ (chain (along w) d j).length ≤ 24 ∧ ∀ x ∈ chain (along w) d j, 0 ≤ x ∧ x < 2 * (n : Int) := by
    have jp := R.pos
    unfold chain
    refine ⟨fun z => ?_, by rw [List.length_map, List.length_range]; omega, fun x hx => ?_⟩
    · have := List.map_eq_nil_iff.mp z
      have := congrArg List.length this
      rw [List.length_range] at this
      simp at this
      omega
    · obtain ⟨k, _, rfl⟩ := List.mem_map.mp hx
      exact it_in W hd k
  rcases c with rfl | rfl | rfl | rfl
  · exact ⟨_, ch.1, ch.2.1, ch.2.2, three 0 _ rfl rfl⟩
  · exact ⟨_, ch.1, ch.2.1, ch.2.2, three 0 _ rfl rfl⟩
  · refine ⟨up (2 * n), fun z => ?_, by rw [up_length]; omega, fun x hx => by have := up_mem.mp hx; omega, three 1 _ rfl rfl⟩
    have := congrArg List.length z
    rw [up_length] at this
    simp at this
    omega
  · exact ⟨[d], by simp, by simp, fun x hx => by rw [List.mem_singleton.1 hx]; exact hd, three 2 [d] rfl rfl⟩
theorem web_cons {V : List (List Int)} {m : Nat} (W : IsWeb V m) : ∃ r V', V = r :: V' := by
  cases V with
  | nil =>
    have := W.len
    have := W.pos
    simp at *
    omega
  | cons r V' => exact ⟨r, V', rfl⟩
/-- what is due has a text, and what is asked of a web drawn in holds -/
theorem end_ok (F : Flat w n) {d e : Int} (hd : 0 ≤ d ∧ d < 2 * (n : Int)) (he : 0 ≤ e ∧ e < 2 * (n : Int)) {o1 o4 o5 o6 : Option D} :
    imm (dueD w n d e) = true ∧ (∃ z, dRepr [dueD w n d e] = some (.str z)) ∧
      v5b6 [o0, o1, o2, some (webD w), o4, o5, o6, o7, o8, o9, some (dueD w n d e), some (dueD w n d e), none, none] = some (.nx, [o0, o1, o2, some (webD w), o4, o5, o6, o7, o8, o9, some (dueD w n d e), some (dueD w n d e), none, none]) := by
  have W := F.web
  have n12 := W.le
  unfold dueD
  by_cases h : n = 12
  · rw [if_pos h]
    have s0 : dSubs MT (.int 0) = some (.str "many") := rfl
    have ni : dNotInT (.str "many") (.tup [.str "many", .str "along"]) = some (.bl false) := by
      show (if _ then some (D.bl (!([PyData.str "many", PyData.str "along"]).any fun z => PyData.eqv z (.str "many"))) else none) = _
      rw [if_pos ⟨rfl, rfl, by decide +kernel, by decide +kernel⟩]
      have e : ([PyData.str "many", PyData.str "along"]).any (fun z => PyData.eqv z (.str "many")) = true := by decide +kernel
      rw [e]; rfl
    refine ⟨rfl, ⟨_, repr_nice nice_MT (by decide) (by decide)⟩, ?_⟩
    simp [v5b6, s0, ni, big_ok]
  rw [if_neg h]
  by_cases c : Same w n d e
  · rw [if_pos c]
    obtain ⟨j, R, hj⟩ := ring_of W hd
    have mem : e ∈ chain (along w) d j := (ring_mem W hd R he).mpr ((spot_same (faces_web W) hd he).mp c)
    have de : Cl (RK.St (along w) (2 * n)) d e := by
      unfold chain at mem
      obtain ⟨k, _, rfl⟩ := List.mem_map.mp mem
      exact RK.st_it (RK.along_pm W) (by omega) k
    have FV := RT.Flat.drawn F (by omega : n < 12) hd de he
    obtain ⟨_, g1, g2⟩ := RT.drawn_flat F (by omega : n < 12) hd de he
    have bl := beg_len (drawn_web W (by omega : n < 12) hd he)
    have bi := beg_io (drawn_web W (by omega : n < 12) hd he)
    have iV : imm (webD (begW (drawnR w n d e))) = true := imm_rows _
    refine ⟨iV, ⟨_, repr_web FV.web⟩, ?_⟩
    obtain ⟨r, V', er⟩ := web_cons FV.web
    have s0 : dSubs (webD (begW (drawnR w n d e))) (.int 0) = some (rowD r) := subs_web (w := begW (drawnR w n d e)) (p := 0) (r := r) (by rw [er]; rfl)
    have nr : Nice 1 _ (rowD r) := nice_row fun x hx => by
      have := in_rng FV.web (r := r) (by rw [er]; exact List.mem_cons_self) hx
      have := FV.web.le
      omega
    have ni : dNotInT (rowD r) (.tup [.str "many", .str "along"]) = some (.bl true) := by
      show (if _ then some (D.bl (!([PyData.str "many", PyData.str "along"]).any fun z => PyData.eqv z (toP (rowD r)))) else none) = _
      rw [if_pos ⟨noDic_ints r, rfl, nr.shaped (by decide), by decide +kernel⟩]
      have e : ([PyData.str "many", PyData.str "along"]).any (fun z => PyData.eqv z (toP (rowD r))) = false := by
        show (PyData.eqv (.str "many") (.tuple _) || (PyData.eqv (.str "along") (.tuple _) || false)) = false
        simp [PyData.eqv]
      rw [e]; rfl
    have fl := flat_told FV
    have fl : d_is_flat [webD (begW (drawnR w n d e))] = _ := fl
    have fa := RM.faces_ok W
    have fa : d_faces [webD w] = _ := fa
    have fb := RM.faces_ok FV.web
    have fb : d_faces [webD (begW (drawnR w n d e))] = _ := fb
    have n3 : dLen [webD (facesOf w (2 * n))] = some (.int ((io w n).length : Nat)) := by
      show some (D.int (((io w n).map rowD).length : Nat)) = _
      rw [List.length_map]
    have n4 : dLen [webD (facesOf (begW (drawnR w n d e)) (2 * (n + 1)))] = some (.int ((io w n).length + 1 : Nat)) := by
      show some (D.int (((io (begW (drawnR w n d e)) (n + 1)).map rowD).length : Nat)) = _
      rw [List.length_map, bi, g2]
    have m1 : dLen [webD w] = some (.int (w.length : Nat)) := by
      show some (D.int ((w.map rowD).length : Nat)) = _
      rw [List.length_map]
    have m2 : dLen [webD (begW (drawnR w n d e))] = some (.int (w.length : Nat)) := by
      show some (D.int (((begW (drawnR w n d e)).map rowD).length : Nat)) = _
      rw [List.length_map, bl, g1]
    have i3 : imm (webD (facesOf w (2 * n))) = true := imm_rows (facesOf w (2 * n))
    have i4 : imm (webD (facesOf (begW (drawnR w n d e)) (2 * (n + 1)))) = true := imm_rows (facesOf (begW (drawnR w n d e)) (2 * (n + 1)))
    have iw : imm (webD w) = true := imm_rows w
    have ir : imm (rowD r) = true := immL_ints r
    have ad : dAdd (.int ((io w n).length : Nat)) (.int 1) = some (.int ((io w n).length + 1 : Nat)) := rfl
    have ne1 : dNe (.int ((io w n).length + 1 : Nat)) (.int ((io w n).length + 1 : Nat)) = some (.bl false) := by
      show some (D.bl (!decide (V.int _ = V.int _))) = _
      rw [decide_eq_true rfl]; rfl
    have ne2 : dNe (.int (w.length : Nat)) (.int (w.length : Nat)) = some (.bl false) := by
      show some (D.bl (!decide (V.int _ = V.int _))) = _
      rw [decide_eq_true rfl]; rfl
    generalize hF1 : ((io w n).length + 1 : Nat) = F1 at *
    generalize webD (facesOf (begW (drawnR w n d e)) (2 * (n + 1))) = FB at *
    generalize webD (facesOf w (2 * n)) = FA at *
    generalize webD (begW (drawnR w n d e)) = V2 at *
    generalize rowD r = RR at *
    generalize webD w = WW at *
    simp [v5b6, s0, ni, fa, fb, n3, n4, m1, m2, ad, ne1, ne2, fl, i3, i4, iw, iV, ir, big_ok]
  · rw [if_neg c]
    have s0 : dSubs (AT e) (.int 0) = some (.str "along") := rfl
    have ni : dNotInT (.str "along") (.tup [.str "many", .str "along"]) = some (.bl false) := by
      show (if _ then some (D.bl (!([PyData.str "many", PyData.str "along"]).any fun z => PyData.eqv z (.str "along"))) else none) = _
      rw [if_pos ⟨rfl, rfl, by decide +kernel, by decide +kernel⟩]
      have e : ([PyData.str "many", PyData.str "along"]).any (fun z => PyData.eqv z (.str "along")) = true := by decide +kernel
      rw [e]; rfl
    refine ⟨rfl, ⟨_, repr_nice (nice_AT (by omega)) (by decide) (by decide)⟩, ?_⟩
    simp [v5b6, s0, ni, big_ok]
theorem round_ok (F : Flat w n) {f : D} (hf : IsFeed f) (hw : 0 ≤ way ∧ way < 4) (rp : dRepr [webD w] = some (.str s)) : ∃ (f' : D) (q7 q8 q9 q10 q11 : Option D),
    v5b [o0, some f, o2, some (webD w), some (.str s), some (.int (2 * (n : Int))), some (.int way), o7, o8, o9, o10, o11, none, none] = some (.nx, [o0, some f', o2, some (webD w), some (.str s), some (.int (2 * (n : Int))), some (.int way), q7, q8, q9, q10, q11, none, none]) ∧ IsFeed f' := by
  have W := F.web
  have n12 := W.le
  have n1 := W.pos
  have im := hf.imm
  have iw : imm (webD w) = true := imm_rows w
  obtain ⟨d, f1, e1, a1, b1, hf1, im1⟩ := RM.draw_eq hf (m := 2 * (n : Int)) (by omega) (by omega)
  have s0 : v5b0 [o0, some f, o2, some (webD w), some (.str s), some (.int (2 * (n : Int))), some (.int way), o7, o8, o9, o10, o11, none, none] = some (.nx, [o0, some f1, o2, some (webD w), some (.str s), some (.int (2 * (n : Int))), some (.int way), some (.int d), o8, o9, o10, o11, none, none]) := by
    generalize webD w = WW at *
    generalize 2 * (n : Int) = N2 at *
    simp [v5b0, e1, im, im1]
  obtain ⟨L, nL, lL, rL, s1⟩ := pick_ok (o0 := o0) (o2 := o2) (o8 := o8) (o9 := o9) (o10 := o10) (o11 := o11) (s := s) (f := f1) W ⟨a1, b1⟩ hw
  have pL := List.length_pos_iff.mpr nL
  obtain ⟨i2, f2, e2, a2, b2, hf2, im2⟩ := RM.draw_eq hf1 (m := (L.length : Nat)) (by omega) (by omega)
  have hi : i2.toNat < L.length := by omega
  have dl : dLen [.lst (intsD L)] = some (.int (L.length : Nat)) := by
    show some (D.int ((intsD L).length : Nat)) = _
    rw [List.length_map]
  have he := rL _ (List.getElem_mem hi)
  have sb : dSubs (.lst (intsD L)) (.int i2) = some (.int L[i2.toNat]) := dSubs_seq (ds := intsD L) rfl a2 (by rw [List.getElem?_map, List.getElem?_eq_getElem hi]; rfl) rfl
  generalize L[i2.toNat] = e at *
  have iL : imm (.lst (intsD L)) = false := rfl
  have s2 : v5b2 [o0, some f1, o2, some (webD w), some (.str s), some (.int (2 * (n : Int))), some (.int way), some (.int d), some (.lst (intsD L)), o9, o10, o11, none, none] = some (.nx, [o0, some f2, o2, some (webD w), some (.str s), some (.int (2 * (n : Int))), some (.int way), some (.int d), some (.lst (intsD L)), some (.int e), o10, o11, none, none]) := by
    generalize webD w = WW at *
    generalize 2 * (n : Int) = N2 at *
    generalize D.lst (intsD L) = LL at *
    simp [v5b2, dl, e2, sb, im1, im2, iL]
  have du := due_ok W ⟨a1, b1⟩ he
  have tl := told_ok W ⟨a1, b1⟩ he
  obtain ⟨iZ, ⟨z, rz⟩, s6⟩ := end_ok (o0 := o0) (o1 := some f2) (o2 := o2) (o4 := some (.str s)) (o5 := some (.int (2 * (n : Int)))) (o6 := some (.int way)) (o7 := some (.int d)) (o8 := some (.lst (intsD L))) (o9 := some (.int e)) F ⟨a1, b1⟩ he
  refine ⟨f2, some (.int d), some (.lst (intsD L)), some (.int e), some (dueD w n d e), some (dueD w n d e), ?_, hf2⟩
  generalize dueD w n d e = Z at *
  have ns : ∀ a : Str, dNe (.str a) (.str a) = some (.bl false) := fun a => by
    show some (D.bl (!decide (V.str _ = V.str _))) = _
    rw [decide_eq_true rfl]; rfl
  have s3 : v5b3 [o0, some f2, o2, some (webD w), some (.str s), some (.int (2 * (n : Int))), some (.int way), some (.int d), some (.lst (intsD L)), some (.int e), o10, o11, none, none] = some (.nx, [o0, some f2, o2, some (webD w), some (.str s), some (.int (2 * (n : Int))), some (.int way), some (.int d), some (.lst (intsD L)), some (.int e), some Z, o11, none, none]) := by
    generalize webD w = WW at *
    generalize 2 * (n : Int) = N2 at *
    generalize D.lst (intsD L) = LL at *
    simp [v5b3, du, iZ, iw]
  have s4 : v5b4 [o0, some f2, o2, some (webD w), some (.str s), some (.int (2 * (n : Int))), some (.int way), some (.int d), some (.lst (intsD L)), some (.int e), some Z, o11, none, none] = some (.nx, [o0, some f2, o2, some (webD w), some (.str s), some (.int (2 * (n : Int))), some (.int way), some (.int d), some (.lst (intsD L)), some (.int e), some Z, some Z, none, none]) := by
    generalize webD w = WW at *
    generalize 2 * (n : Int) = N2 at *
    generalize D.lst (intsD L) = LL at *
    simp [v5b4, tl, iZ, iw]
  have s5 : v5b5 [o0, some f2, o2, some (webD w), some (.str s), some (.int (2 * (n : Int))), some (.int way), some (.int d), some (.lst (intsD L)), some (.int e), some Z, some Z, none, none] = some (.nx, [o0, some f2, o2, some (webD w), some (.str s), some (.int (2 * (n : Int))), some (.int way), some (.int d), some (.lst (intsD L)), some (.int e), some Z, some Z, none, none]) := by
    have n1 := ns z
    have n2 := ns s
    generalize webD w = WW at *
    generalize 2 * (n : Int) = N2 at *
    generalize D.lst (intsD L) = LL at *
    simp [v5b5, rz, rp, n1, n2]
  unfold v5b
  rw [seq_nx s0, seq_nx s1, seq_nx s2, seq_nx s3, seq_nx s4, seq_nx s5, s6]
def WyI (o0 : Option D) (p : Nat) (acc : List D) (ρ : Fm) : Prop := ∃ (f : D) (ws : List Int), acc = intsD ws ∧ ρ = [o0, some f, none, none, none, none, none, none, none, none, none, none, none, none] ∧ IsFeed f ∧ ws.length = p ∧ ∀ x ∈ ws, 0 ≤ x ∧ x < 4
theorem ways_ok {f : D} (hf : IsFeed f) : ∃ (f' : D) (ws : List Int), v1 [o0, some f, none, none, none, none, none, none, none, none, none, none, none, none] = some (.nx, [o0, some f', some (.lst (intsD ws)), none, none, none, none, none, none, none, none, none, none, none]) ∧ IsFeed f' ∧ ws.length = 4 ∧ ∀ x ∈ ws, 0 ≤ x ∧ x < 4 := by
  have main : Ok (v1 [o0, some f, none, none, none, none, none, none, none, none, none, none, none, none]) fun z => ∃ (f' : D) (ws : List Int), z = (.nx, [o0, some f', some (.lst (intsD ws)), none, none, none, none, none, none, none, none, none, none, none]) ∧ IsFeed f' ∧ ws.length = 4 ∧ ∀ x ∈ ws, 0 ≤ x ∧ x < 4 := by
    have ok4 : okR (4 : Int) = true := by decide
    simp [v1, ok4, wipeF, ok_bind]
    have io : iota 0 4 = (List.range 4).map fun (i : Nat) => D.int (i : Int) := by simp [iota]
    rw [io]
    refine ok_lc (emb := fun (i : Nat) => D.int (i : Int)) (xs := List.range 4) (WyI o0) (fun p x acc ρ hx hI => ?_) (fun acc ρ hI => ?_) ⟨f, [], rfl, rfl, hf, rfl, by simp⟩
    · obtain ⟨f, ws, rfl, rfl, hf, hl, hr⟩ := hI
      have imf := hf.imm
      obtain ⟨i5, f5, e5, p5, q5, hf5, im5⟩ := RM.draw_eq hf (m := 4) (by decide) (by decide)
      simp [e5, imf, im5, wipeF]
      exact ⟨f5, ws ++ [i5], by simp, rfl, hf5, by simp [hl], fun x hx => by
        rcases List.mem_append.1 hx with z | z
        · exact hr x z
        · rw [List.mem_singleton.1 z]; omega⟩
    · obtain ⟨f, ws, rfl, rfl, hf, hl, hr⟩ := hI
      rw [List.length_range] at hl
      have l4 : (intsD ws).length ≤ sizeLine := big_ok (by rw [List.length_map]; omega)
      have l4 : ws.length ≤ sizeLine := big_ok (by omega)
      simp [l4]
      exact ⟨f, ws, ⟨rfl, rfl⟩, hf, hl, hr⟩
  obtain ⟨z, e, f', ws, rfl, r⟩ := main
  exact ⟨f', ws, e, r⟩
def LoI (o0 o2 o3 o4 o5 : Option D) (ρ : Fm) : Prop := ∃ (f : D) (o6 o7 o8 o9 o10 o11 : Option D), ρ = [o0, some f, o2, o3, o4, o5, o6, o7, o8, o9, o10, o11, none, none] ∧ IsFeed f
theorem law_true (ns : List Int) (hl : ns.length ≤ 63) : ∃ ρ', d_law [.flst (ns.map .int)] = some (.bl true, ρ') := by
  have e0 := RM.feed_ok ns
  have h0 : IsFeed (feedD (cut ns none (some 63)) 0 0 0) := ⟨_, _, _, _, rfl⟩
  generalize feedD (cut ns none (some 63)) 0 0 0 = f0 at e0 h0
  have e0 : d__law_feed [.flst (ns.map .int)] = _ := e0
  have im0 := h0.imm
  have iSC : imm (.flst (ns.map D.int)) = true := immL_ints ns
  rw [law_split]
  generalize D.flst (ns.map D.int) = SC at *
  have s0 : v0 [some SC, none, none, none, none, none, none, none, none, none, none, none, none, none] = some (.nx, [some SC, some f0, none, none, none, none, none, none, none, none, none, none, none, none]) := by
    simp [v0, e0, im0, iSC]
  obtain ⟨f1, ws, s1, h1, l4, rw4⟩ := ways_ok (o0 := some SC) h0
  obtain ⟨rows, n, T, f2, e2, G, n12, n1, NT, hT, h2⟩ := flat_web_ok h1 (mo := 12) (by decide) (by decide)
  have im1 := h1.imm
  have im2 := h2.imm
  have F := flat_of G (by omega) NT
  have e2 : d__law_flat_web [f1, .int 12] = some (webD (calledWeb (namesOf T) rows), [some f2, some (.int 12)]) := e2
  generalize calledWeb (namesOf T) rows = w at *
  have W := F.web
  have iw : imm (webD w) = true := imm_rows w
  have rp := repr_web W
  generalize (toP (webD w)).shown = s at rp
  have s2 : v2 [some SC, some f1, some (.lst (intsD ws)), none, none, none, none, none, none, none, none, none, none, none] = some (.nx, [some SC, some f2, some (.lst (intsD ws)), some (webD w), none, none, none, none, none, none, none, none, none, none]) := by
    generalize D.lst (intsD ws) = WS
    generalize webD w = WW at *
    simp [v2, e2, im1, im2, iw]
  have s3 : v3 [some SC, some f2, some (.lst (intsD ws)), some (webD w), none, none, none, none, none, none, none, none, none, none] = some (.nx, [some SC, some f2, some (.lst (intsD ws)), some (webD w), some (.str s), none, none, none, none, none, none, none, none, none]) := by
    generalize D.lst (intsD ws) = WS
    generalize webD w = WW at *
    simp [v3, rp]
  have s4 : v4 [some SC, some f2, some (.lst (intsD ws)), some (webD w), some (.str s), none, none, none, none, none, none, none, none, none] = some (.nx, [some SC, some f2, some (.lst (intsD ws)), some (webD w), some (.str s), some (.int (2 * (n : Int))), none, none, none, none, none, none, none, none]) := by
    have fw := frzL_id _ (imm_rows w)
    have iww := imm_rows w
    have lw := W.rows
    have sm := RC.sum_len W
    have lw2 : (w.map fun r => (r.length : Int)).length ≤ sizeLine := big_ok (by rw [List.length_map]; omega)
    generalize D.lst (intsD ws) = WS
    have lc : lcD [13] (fgName 13) fYes (fCall dLen (fCons (fVar 13) fNil)) (w.map rowD) [some SC, some f2, some WS, some (webD w), some (.str s), none, none, none, none, none, none, none, none, none] = some (w.map (fun r => D.int (r.length : Nat)), [some SC, some f2, some WS, some (webD w), some (.str s), none, none, none, none, none, none, none, none, none]) := by
      refine lcD_all (vs := [13]) (fg := fgName 13) (emb := rowD) (z := fun r => D.int (r.length : Nat)) (xs := w) fun r _ => ?_
      have lr : dLen [rowD r] = some (.int r.length) := by simp [rowD]
      generalize webD w = WW
      exact ⟨[some SC, some f2, some WS, some WW, some (.str s), none, none, none, none, none, none, none, none, some (rowD r)], by simp, .val (.int r.length), _, _, by simp [lr]; rfl, rfl, by simp [wipeF]⟩
    have l1 : w.map (fun r => D.int (r.length : Nat)) = intsD (w.map fun r => (r.length : Int)) := by simp
    rw [l1] at lc
    have ww : webD w = .tup (w.map rowD) := rfl
    rw [ww] at lc ⊢
    generalize (w.map fun r => (r.length : Int)) = LL at *
    generalize w.map rowD = WR at *
    simp [v4, fw, iww, lc, lw2, sm, wipeF, big_ok]
  have main : Ok (v5 [some SC, some f2, some (.lst (intsD ws)), some (webD w), some (.str s), some (.int (2 * (n : Int))), none, none, none, none, none, none, none, none]) fun z => z.1 = .nx := by
    have fz : frzL (intsD ws) = some (intsD ws) := frzL_id _ (immL_ints ws)
    have ii : immL (intsD ws) = true := immL_ints ws
    have key : Ok (forD (fgName 6) v5b (ws.map D.int) [some SC, some f2, some (.flst (intsD ws)), some (webD w), some (.str s), some (.int (2 * (n : Int))), none, none, none, none, none, none, none, none]) fun z => z.1 = .nx := by
      refine ok_at (emb := D.int) ws (fun _ ρ => LoI (some SC) (some (.flst (intsD ws))) (some (webD w)) (some (.str s)) (some (.int (2 * (n : Int)))) ρ) (fun p x ρ hp hI => ?_) (fun ρ hI => rfl) ⟨f2, _, _, _, _, _, _, rfl, h2⟩
      obtain ⟨f, o6, o7, o8, o9, o10, o11, rfl, hf⟩ := hI
      obtain ⟨f', q7, q8, q9, q10, q11, e, hf'⟩ := round_ok (o0 := some SC) (o2 := some (.flst (intsD ws))) (o7 := o7) (o8 := o8) (o9 := o9) (o10 := o10) (o11 := o11) F hf (rw4 x (List.mem_of_getElem? hp)) rp
      generalize webD w = WW at *
      generalize D.flst (intsD ws) = FS at *
      generalize 2 * (n : Int) = N2 at *
      refine ⟨_, by simp; rfl, ?_⟩
      exact ⟨_, e, f', _, _, _, _, _, _, rfl, hf'⟩
    generalize webD w = WW at *
    generalize 2 * (n : Int) = N2 at *
    obtain ⟨IL, hIL⟩ : ∃ IL, IL = intsD ws := ⟨_, rfl⟩
    have key : Ok (forD (fgName 6) v5b IL [some SC, some f2, some (.flst IL), some WW, some (.str s), some (.int N2), none, none, none, none, none, none, none, none]) fun z => z.1 = .nx := by rw [hIL]; exact key
    rw [← hIL] at fz ii ⊢
    simp [v5, fz, ii, ok_bind]
    exact key
  obtain ⟨⟨r, ρ⟩, s5, hr⟩ := main
  have hr : r = .nx := hr
  subst hr
  have s6 : v6 ρ = some (.ret (.bl true), ρ) := rfl
  have run : v [some SC, none, none, none, none, none, none, none, none, none, none, none, none, none] = some (.ret (.bl true), ρ) := by
    unfold v
    rw [seq_nx s0, seq_nx s1, seq_nx s2, seq_nx s3, seq_nx s4, seq_nx s5, s6]
  generalize v = VV at *
  exact ⟨_, by simp [denOf, run]; rfl⟩
end
end K11
namespace K11
open PySem PySem.Spec L2 DL
theorem all_mk {l : PySem.W.OpenLaw} {w : World} {K : PySem.W.Frag} {h : Heap} {mg : Str → Option Value} {fa : Addr} (X : K.In h) (G : h.Ns mainGlobals mg) (hfa : mg "law" = some (.ref fa))
    {f0 f1 f2 f3 f4 f5 f6 f7 f8 f9 f10 f11 f12 f13 f14 f15 f16 f17 f18 f19 f20 f21 f22 f23 f24 f25 f26 f27 f28 : Addr}
    {od0 an0 : Option Addr} {sl0 : Array (Option Value)} {oc0 kV0 dc0 pm0 cd0 ct0 : Value}
    {od1 an1 : Option Addr} {sl1 : Array (Option Value)} {oc1 kV1 dc1 pm1 cd1 ct1 : Value}
    {od2 an2 : Option Addr} {sl2 : Array (Option Value)} {oc2 kV2 dc2 pm2 cd2 ct2 : Value}
    {od3 an3 : Option Addr} {sl3 : Array (Option Value)} {oc3 kV3 dc3 pm3 cd3 ct3 : Value}
    {od4 an4 : Option Addr} {sl4 : Array (Option Value)} {oc4 kV4 dc4 pm4 cd4 ct4 : Value}
    {od5 an5 : Option Addr} {sl5 : Array (Option Value)} {oc5 kV5 dc5 pm5 cd5 ct5 : Value}
    {od6 an6 : Option Addr} {sl6 : Array (Option Value)} {oc6 kV6 dc6 pm6 cd6 ct6 : Value}
    {od7 an7 : Option Addr} {sl7 : Array (Option Value)} {oc7 kV7 dc7 pm7 cd7 ct7 : Value}
    {od8 an8 : Option Addr} {sl8 : Array (Option Value)} {oc8 kV8 dc8 pm8 cd8 ct8 : Value}
    {od9 an9 : Option Addr} {sl9 : Array (Option Value)} {oc9 kV9 dc9 pm9 cd9 ct9 : Value}
    {od10 an10 : Option Addr} {sl10 : Array (Option Value)} {oc10 kV10 dc10 pm10 cd10 ct10 : Value}
    {od11 an11 : Option Addr} {sl11 : Array (Option Value)} {oc11 kV11 dc11 pm11 cd11 ct11 : Value}
    {od12 an12 : Option Addr} {sl12 : Array (Option Value)} {oc12 kV12 dc12 pm12 cd12 ct12 : Value}
    {od13 an13 : Option Addr} {sl13 : Array (Option Value)} {oc13 kV13 dc13 pm13 cd13 ct13 : Value}
    {od14 an14 : Option Addr} {sl14 : Array (Option Value)} {oc14 kV14 dc14 pm14 cd14 ct14 : Value}
    {od15 an15 : Option Addr} {sl15 : Array (Option Value)} {oc15 kV15 dc15 pm15 cd15 ct15 : Value}
    {od16 an16 : Option Addr} {sl16 : Array (Option Value)} {oc16 kV16 dc16 pm16 cd16 ct16 : Value}
    {od17 an17 : Option Addr} {sl17 : Array (Option Value)} {oc17 kV17 dc17 pm17 cd17 ct17 : Value}
    {od18 an18 : Option Addr} {sl18 : Array (Option Value)} {oc18 kV18 dc18 pm18 cd18 ct18 : Value}
    {od19 an19 : Option Addr} {sl19 : Array (Option Value)} {oc19 kV19 dc19 pm19 cd19 ct19 : Value}
    {od20 an20 : Option Addr} {sl20 : Array (Option Value)} {oc20 kV20 dc20 pm20 cd20 ct20 : Value}
    {od21 an21 : Option Addr} {sl21 : Array (Option Value)} {oc21 kV21 dc21 pm21 cd21 ct21 : Value}
    {od22 an22 : Option Addr} {sl22 : Array (Option Value)} {oc22 kV22 dc22 pm22 cd22 ct22 : Value}
    {od23 an23 : Option Addr} {sl23 : Array (Option Value)} {oc23 kV23 dc23 pm23 cd23 ct23 : Value}
    {od24 an24 : Option Addr} {sl24 : Array (Option Value)} {oc24 kV24 dc24 pm24 cd24 ct24 : Value}
    {od25 an25 : Option Addr} {sl25 : Array (Option Value)} {oc25 kV25 dc25 pm25 cd25 ct25 : Value}
    {od26 an26 : Option Addr} {sl26 : Array (Option Value)} {oc26 kV26 dc26 pm26 cd26 ct26 : Value}
    {od27 an27 : Option Addr} {sl27 : Array (Option Value)} {oc27 kV27 dc27 pm27 cd27 ct27 : Value}
    {od28 an28 : Option Addr} {sl28 : Array (Option Value)} {oc28 kV28 dc28 pm28 cd28 ct28 : Value}
    (a0 : PySem.W.nsIn K mainGlobals "darts_in_rows" = some (some (.ref f0)))
    (l0 : K.lookup f0 = some ⟨oc0, od0, .func (PySem.W.fnOf "darts_in_rows" "darts_in_rows" (defArgs s_darts_in_rows) (defBody s_darts_in_rows) (defScope s_darts_in_rows) .none kV0 dc0 pm0 an0 cd0 ct0), sl0⟩) (c0 : PySem.W.codeIn K cd0 "darts_in_rows" = true) (k0 : PySem.W.keepIn K (.ref f0) = true)
    (a1 : PySem.W.nsIn K mainGlobals "begun_rows" = some (some (.ref f1)))
    (l1 : K.lookup f1 = some ⟨oc1, od1, .func (PySem.W.fnOf "begun_rows" "begun_rows" (defArgs s_begun_rows) (defBody s_begun_rows) (defScope s_begun_rows) .none kV1 dc1 pm1 an1 cd1 ct1), sl1⟩) (c1 : PySem.W.codeIn K cd1 "begun_rows" = true) (k1 : PySem.W.keepIn K (.ref f1) = true)
    (a2 : PySem.W.nsIn K mainGlobals "ties_in" = some (some (.ref f2)))
    (l2 : K.lookup f2 = some ⟨oc2, od2, .func (PySem.W.fnOf "ties_in" "ties_in" (defArgs s_ties_in) (defBody s_ties_in) (defScope s_ties_in) .none kV2 dc2 pm2 an2 cd2 ct2), sl2⟩) (c2 : PySem.W.codeIn K cd2 "ties_in" = true) (k2 : PySem.W.keepIn K (.ref f2) = true)
    (a3 : PySem.W.nsIn K mainGlobals "other_of" = some (some (.ref f3)))
    (l3 : K.lookup f3 = some ⟨oc3, od3, .func (PySem.W.fnOf "other_of" "other_of" (defArgs s_other_of) (defBody s_other_of) (defScope s_other_of) .none kV3 dc3 pm3 an3 cd3 ct3), sl3⟩) (c3 : PySem.W.codeIn K cd3 "other_of" = true) (k3 : PySem.W.keepIn K (.ref f3) = true)
    (a4 : PySem.W.nsIn K mainGlobals "place_of" = some (some (.ref f4)))
    (l4 : K.lookup f4 = some ⟨oc4, od4, .func (PySem.W.fnOf "place_of" "place_of" (defArgs s_place_of) (defBody s_place_of) (defScope s_place_of) .none kV4 dc4 pm4 an4 cd4 ct4), sl4⟩) (c4 : PySem.W.codeIn K cd4 "place_of" = true) (k4 : PySem.W.keepIn K (.ref f4) = true)
    (a5 : PySem.W.nsIn K mainGlobals "next_around" = some (some (.ref f5)))
    (l5 : K.lookup f5 = some ⟨oc5, od5, .func (PySem.W.fnOf "next_around" "next_around" (defArgs s_next_around) (defBody s_next_around) (defScope s_next_around) .none kV5 dc5 pm5 an5 cd5 ct5), sl5⟩) (c5 : PySem.W.codeIn K cd5 "next_around" = true) (k5 : PySem.W.keepIn K (.ref f5) = true)
    (a6 : PySem.W.nsIn K mainGlobals "next_along" = some (some (.ref f6)))
    (l6 : K.lookup f6 = some ⟨oc6, od6, .func (PySem.W.fnOf "next_along" "next_along" (defArgs s_next_along) (defBody s_next_along) (defScope s_next_along) .none kV6 dc6 pm6 an6 cd6 ct6), sl6⟩) (c6 : PySem.W.codeIn K cd6 "next_along" = true) (k6 : PySem.W.keepIn K (.ref f6) = true)
    (a7 : PySem.W.nsIn K mainGlobals "part_from" = some (some (.ref f7)))
    (l7 : K.lookup f7 = some ⟨oc7, od7, .func (PySem.W.fnOf "part_from" "part_from" (defArgs s_part_from) (defBody s_part_from) (defScope s_part_from) .none kV7 dc7 pm7 an7 cd7 ct7), sl7⟩) (c7 : PySem.W.codeIn K cd7 "part_from" = true) (k7 : PySem.W.keepIn K (.ref f7) = true)
    (a8 : PySem.W.nsIn K mainGlobals "parts_of" = some (some (.ref f8)))
    (l8 : K.lookup f8 = some ⟨oc8, od8, .func (PySem.W.fnOf "parts_of" "parts_of" (defArgs s_parts_of) (defBody s_parts_of) (defScope s_parts_of) .none kV8 dc8 pm8 an8 cd8 ct8), sl8⟩) (c8 : PySem.W.codeIn K cd8 "parts_of" = true) (k8 : PySem.W.keepIn K (.ref f8) = true)
    (a9 : PySem.W.nsIn K mainGlobals "faces" = some (some (.ref f9)))
    (l9 : K.lookup f9 = some ⟨oc9, od9, .func (PySem.W.fnOf "faces" "faces" (defArgs s_faces) (defBody s_faces) (defScope s_faces) .none kV9 dc9 pm9 an9 cd9 ct9), sl9⟩) (c9 : PySem.W.codeIn K cd9 "faces" = true) (k9 : PySem.W.keepIn K (.ref f9) = true)
    (a10 : PySem.W.nsIn K mainGlobals "face_of" = some (some (.ref f10)))
    (l10 : K.lookup f10 = some ⟨oc10, od10, .func (PySem.W.fnOf "face_of" "face_of" (defArgs s_face_of) (defBody s_face_of) (defScope s_face_of) .none kV10 dc10 pm10 an10 cd10 ct10), sl10⟩) (c10 : PySem.W.codeIn K cd10 "face_of" = true) (k10 : PySem.W.keepIn K (.ref f10) = true)
    (a11 : PySem.W.nsIn K mainGlobals "handles" = some (some (.ref f11)))
    (l11 : K.lookup f11 = some ⟨oc11, od11, .func (PySem.W.fnOf "handles" "handles" (defArgs s_handles) (defBody s_handles) (defScope s_handles) .none kV11 dc11 pm11 an11 cd11 ct11), sl11⟩) (c11 : PySem.W.codeIn K cd11 "handles" = true) (k11 : PySem.W.keepIn K (.ref f11) = true)
    (a12 : PySem.W.nsIn K mainGlobals "is_flat" = some (some (.ref f12)))
    (l12 : K.lookup f12 = some ⟨oc12, od12, .func (PySem.W.fnOf "is_flat" "is_flat" (defArgs s_is_flat) (defBody s_is_flat) (defScope s_is_flat) .none kV12 dc12 pm12 an12 cd12 ct12), sl12⟩) (c12 : PySem.W.codeIn K cd12 "is_flat" = true) (k12 : PySem.W.keepIn K (.ref f12) = true)
    (a13 : PySem.W.nsIn K mainGlobals "hold_room" = some (some (.ref f13)))
    (l13 : K.lookup f13 = some ⟨oc13, od13, .func (PySem.W.fnOf "hold_room" "hold_room" (defArgs s_hold_room) (defBody s_hold_room) (defScope s_hold_room) .none kV13 dc13 pm13 an13 cd13 ct13), sl13⟩) (c13 : PySem.W.codeIn K cd13 "hold_room" = true) (k13 : PySem.W.keepIn K (.ref f13) = true)
    (a14 : PySem.W.nsIn K mainGlobals "put_ahead" = some (some (.ref f14)))
    (l14 : K.lookup f14 = some ⟨oc14, od14, .func (PySem.W.fnOf "put_ahead" "put_ahead" (defArgs s_put_ahead) (defBody s_put_ahead) (defScope s_put_ahead) .none kV14 dc14 pm14 an14 cd14 ct14), sl14⟩) (c14 : PySem.W.codeIn K cd14 "put_ahead" = true) (k14 : PySem.W.keepIn K (.ref f14) = true)
    (a15 : PySem.W.nsIn K mainGlobals "drawn_in" = some (some (.ref f15)))
    (l15 : K.lookup f15 = some ⟨oc15, od15, .func (PySem.W.fnOf "drawn_in" "drawn_in" (defArgs s_drawn_in) (defBody s_drawn_in) (defScope s_drawn_in) .none kV15 dc15 pm15 an15 cd15 ct15), sl15⟩) (c15 : PySem.W.codeIn K cd15 "drawn_in" = true) (k15 : PySem.W.keepIn K (.ref f15) = true)
    (a16 : PySem.W.nsIn K mainGlobals "_law_feed" = some (some (.ref f16)))
    (l16 : K.lookup f16 = some ⟨oc16, od16, .func (PySem.W.fnOf "_law_feed" "_law_feed" (defArgs s__law_feed) (defBody s__law_feed) (defScope s__law_feed) .none kV16 dc16 pm16 an16 cd16 ct16), sl16⟩) (c16 : PySem.W.codeIn K cd16 "_law_feed" = true) (k16 : PySem.W.keepIn K (.ref f16) = true)
    (a17 : PySem.W.nsIn K mainGlobals "_law_draw" = some (some (.ref f17)))
    (l17 : K.lookup f17 = some ⟨oc17, od17, .func (PySem.W.fnOf "_law_draw" "_law_draw" (defArgs s__law_draw) (defBody s__law_draw) (defScope s__law_draw) .none kV17 dc17 pm17 an17 cd17 ct17), sl17⟩) (c17 : PySem.W.codeIn K cd17 "_law_draw" = true) (k17 : PySem.W.keepIn K (.ref f17) = true)
    (a18 : PySem.W.nsIn K mainGlobals "_law_begun" = some (some (.ref f18)))
    (l18 : K.lookup f18 = some ⟨oc18, od18, .func (PySem.W.fnOf "_law_begun" "_law_begun" (defArgs s__law_begun) (defBody s__law_begun) (defScope s__law_begun) .none kV18 dc18 pm18 an18 cd18 ct18), sl18⟩) (c18 : PySem.W.codeIn K cd18 "_law_begun" = true) (k18 : PySem.W.keepIn K (.ref f18) = true)
    (a19 : PySem.W.nsIn K mainGlobals "_law_behind" = some (some (.ref f19)))
    (l19 : K.lookup f19 = some ⟨oc19, od19, .func (PySem.W.fnOf "_law_behind" "_law_behind" (defArgs s__law_behind) (defBody s__law_behind) (defScope s__law_behind) .none kV19 dc19 pm19 an19 cd19 ct19), sl19⟩) (c19 : PySem.W.codeIn K cd19 "_law_behind" = true) (k19 : PySem.W.keepIn K (.ref f19) = true)
    (a20 : PySem.W.nsIn K mainGlobals "_law_ring" = some (some (.ref f20)))
    (l20 : K.lookup f20 = some ⟨oc20, od20, .func (PySem.W.fnOf "_law_ring" "_law_ring" (defArgs s__law_ring) (defBody s__law_ring) (defScope s__law_ring) .none kV20 dc20 pm20 an20 cd20 ct20), sl20⟩) (c20 : PySem.W.codeIn K cd20 "_law_ring" = true) (k20 : PySem.W.keepIn K (.ref f20) = true)
    (a21 : PySem.W.nsIn K mainGlobals "_law_turn" = some (some (.ref f21)))
    (l21 : K.lookup f21 = some ⟨oc21, od21, .func (PySem.W.fnOf "_law_turn" "_law_turn" (defArgs s__law_turn) (defBody s__law_turn) (defScope s__law_turn) .none kV21 dc21 pm21 an21 cd21 ct21), sl21⟩) (c21 : PySem.W.codeIn K cd21 "_law_turn" = true) (k21 : PySem.W.keepIn K (.ref f21) = true)
    (a22 : PySem.W.nsIn K mainGlobals "_law_called" = some (some (.ref f22)))
    (l22 : K.lookup f22 = some ⟨oc22, od22, .func (PySem.W.fnOf "_law_called" "_law_called" (defArgs s__law_called) (defBody s__law_called) (defScope s__law_called) .none kV22 dc22 pm22 an22 cd22 ct22), sl22⟩) (c22 : PySem.W.codeIn K cd22 "_law_called" = true) (k22 : PySem.W.keepIn K (.ref f22) = true)
    (a23 : PySem.W.nsIn K mainGlobals "_law_put" = some (some (.ref f23)))
    (l23 : K.lookup f23 = some ⟨oc23, od23, .func (PySem.W.fnOf "_law_put" "_law_put" (defArgs s__law_put) (defBody s__law_put) (defScope s__law_put) .none kV23 dc23 pm23 an23 cd23 ct23), sl23⟩) (c23 : PySem.W.codeIn K cd23 "_law_put" = true) (k23 : PySem.W.keepIn K (.ref f23) = true)
    (a24 : PySem.W.nsIn K mainGlobals "_law_flat_web" = some (some (.ref f24)))
    (l24 : K.lookup f24 = some ⟨oc24, od24, .func (PySem.W.fnOf "_law_flat_web" "_law_flat_web" (defArgs s__law_flat_web) (defBody s__law_flat_web) (defScope s__law_flat_web) .none kV24 dc24 pm24 an24 cd24 ct24), sl24⟩) (c24 : PySem.W.codeIn K cd24 "_law_flat_web" = true) (k24 : PySem.W.keepIn K (.ref f24) = true)
    (a25 : PySem.W.nsIn K mainGlobals "_law_strange" = some (some (.ref f25)))
    (l25 : K.lookup f25 = some ⟨oc25, od25, .func (PySem.W.fnOf "_law_strange" "_law_strange" (defArgs s__law_strange) (defBody s__law_strange) (defScope s__law_strange) .none kV25 dc25 pm25 an25 cd25 ct25), sl25⟩) (c25 : PySem.W.codeIn K cd25 "_law_strange" = true) (k25 : PySem.W.keepIn K (.ref f25) = true)
    (a26 : PySem.W.nsIn K mainGlobals "_law_told" = some (some (.ref f26)))
    (l26 : K.lookup f26 = some ⟨oc26, od26, .func (PySem.W.fnOf "_law_told" "_law_told" (defArgs s__law_told) (defBody s__law_told) (defScope s__law_told) .none kV26 dc26 pm26 an26 cd26 ct26), sl26⟩) (c26 : PySem.W.codeIn K cd26 "_law_told" = true) (k26 : PySem.W.keepIn K (.ref f26) = true)
    (a27 : PySem.W.nsIn K mainGlobals "_law_due" = some (some (.ref f27)))
    (l27 : K.lookup f27 = some ⟨oc27, od27, .func (PySem.W.fnOf "_law_due" "_law_due" (defArgs s__law_due) (defBody s__law_due) (defScope s__law_due) .none kV27 dc27 pm27 an27 cd27 ct27), sl27⟩) (c27 : PySem.W.codeIn K cd27 "_law_due" = true) (k27 : PySem.W.keepIn K (.ref f27) = true)
    (a28 : PySem.W.nsIn K mainGlobals "law" = some (some (.ref f28)))
    (l28 : K.lookup f28 = some ⟨oc28, od28, .func (PySem.W.fnOf "law" "law" (defArgs s_law) (defBody s_law) (defScope s_law) .none kV28 dc28 pm28 an28 cd28 ct28), sl28⟩) (c28 : PySem.W.codeIn K cd28 "law" = true) (k28 : PySem.W.keepIn K (.ref f28) = true)
    {C_Barred C_NoAlong C_NoAsk C_NoPaper C_NoRow C_NoText C_NoTie C_RimError C_TooMany : Addr}
    {fi_NoAlong N_NoAlong_ : Addr} {nm_NoAlong qn_NoAlong : Str} {bs_NoAlong bm_NoAlong sub_NoAlong : List Value} {sn_NoAlong : List Str} {ab_NoAlong : Bool} {col_NoAlong : Option Bool} {dd_NoAlong : Option Addr} {k0_NoAlong k1_NoAlong k2_NoAlong k3_NoAlong k5_NoAlong : Option Value}
    {od_NoAlong an_NoAlong : Option Addr} {sl_NoAlong : Array (Option Value)} {oc_NoAlong kV_NoAlong dc_NoAlong pm_NoAlong cd_NoAlong ct_NoAlong : Value}
    {fi_TooMany N_TooMany_ : Addr} {nm_TooMany qn_TooMany : Str} {bs_TooMany bm_TooMany sub_TooMany : List Value} {sn_TooMany : List Str} {ab_TooMany : Bool} {col_TooMany : Option Bool} {dd_TooMany : Option Addr} {k0_TooMany k1_TooMany k2_TooMany k3_TooMany k5_TooMany : Option Value}
    {od_TooMany an_TooMany : Option Addr} {sl_TooMany : Array (Option Value)} {oc_TooMany kV_TooMany dc_TooMany pm_TooMany cd_TooMany ct_TooMany : Value}
    (g_Barred : PySem.W.nsIn K mainGlobals "Barred" = some (some (.ref C_Barred)))
    (g_NoAlong : PySem.W.nsIn K mainGlobals "NoAlong" = some (some (.ref C_NoAlong)))
    (g_NoAsk : PySem.W.nsIn K mainGlobals "NoAsk" = some (some (.ref C_NoAsk)))
    (g_NoPaper : PySem.W.nsIn K mainGlobals "NoPaper" = some (some (.ref C_NoPaper)))
    (g_NoRow : PySem.W.nsIn K mainGlobals "NoRow" = some (some (.ref C_NoRow)))
    (g_NoText : PySem.W.nsIn K mainGlobals "NoText" = some (some (.ref C_NoText)))
    (g_NoTie : PySem.W.nsIn K mainGlobals "NoTie" = some (some (.ref C_NoTie)))
    (g_RimError : PySem.W.nsIn K mainGlobals "RimError" = some (some (.ref C_RimError)))
    (g_TooMany : PySem.W.nsIn K mainGlobals "TooMany" = some (some (.ref C_TooMany)))
    (ex_NoAlong : PySem.W.subIn K (.ref C_NoAlong) (.type "BaseException") = some true)
    (hd_NoAlong : PySem.W.hasDictIn K C_NoAlong = true)
    (ty_NoAlong : PySem.W.typeIn K (.ref C_NoAlong) = some (.type "type"))
    (ex_TooMany : PySem.W.subIn K (.ref C_TooMany) (.type "BaseException") = some true)
    (hd_TooMany : PySem.W.hasDictIn K C_TooMany = true)
    (ty_TooMany : PySem.W.typeIn K (.ref C_TooMany) = some (.type "type"))
    (ga_NoAlong : PySem.W.findIn K (.ref C_NoAlong) "__getattribute__" = some (some (.builtin "BaseException.__getattribute__")))
    (gg_NoAlong : PySem.W.findIn K (.ref C_NoAlong) "__getattr__" = some none)
    (ga_TooMany : PySem.W.findIn K (.ref C_TooMany) "__getattribute__" = some (some (.builtin "BaseException.__getattribute__")))
    (gg_TooMany : PySem.W.findIn K (.ref C_TooMany) "__getattr__" = some none)
    (sub_NoAlong_NoAlong : PySem.W.subIn K (.ref C_NoAlong) (.ref C_NoAlong) = some true)
    (sub_TooMany_TooMany : PySem.W.subIn K (.ref C_TooMany) (.ref C_TooMany) = some true)
    (sub_TooMany_NoAlong : PySem.W.subIn K (.ref C_TooMany) (.ref C_NoAlong) = some false)
    (gs_ : PySem.W.specialIn K (.builtin "object.__class__") "__get__" = some (some (.builtin "getset_descriptor.__get__")))
    (tk_ : PySem.W.takesIn K (.builtin "object.__class__") = some true)
    (ca_NoAlong : PySem.W.findIn K (.ref C_NoAlong) "__class__" = some (some (.builtin "object.__class__")))
    (ob_NoAlong : PySem.W.mroIn K C_NoAlong (.type "object") = some true)
    (ca_TooMany : PySem.W.findIn K (.ref C_TooMany) "__class__" = some (some (.builtin "object.__class__")))
    (ob_TooMany : PySem.W.mroIn K C_TooMany (.type "object") = some true)
    (ko_NoAlong_Barred : PySem.W.kitOne K (.ref C_NoAlong) (.ref C_Barred) = some false)
    (ko_NoAlong_NoAlong : PySem.W.kitOne K (.ref C_NoAlong) (.ref C_NoAlong) = some true)
    (ko_NoAlong_NoAsk : PySem.W.kitOne K (.ref C_NoAlong) (.ref C_NoAsk) = some false)
    (ko_NoAlong_NoPaper : PySem.W.kitOne K (.ref C_NoAlong) (.ref C_NoPaper) = some false)
    (ko_NoAlong_NoRow : PySem.W.kitOne K (.ref C_NoAlong) (.ref C_NoRow) = some false)
    (ko_NoAlong_NoText : PySem.W.kitOne K (.ref C_NoAlong) (.ref C_NoText) = some false)
    (ko_NoAlong_NoTie : PySem.W.kitOne K (.ref C_NoAlong) (.ref C_NoTie) = some false)
    (ko_NoAlong_RimError : PySem.W.kitOne K (.ref C_NoAlong) (.ref C_RimError) = some true)
    (ko_NoAlong_TooMany : PySem.W.kitOne K (.ref C_NoAlong) (.ref C_TooMany) = some false)
    (ko_NoAlong_ValueError : PySem.W.kitOne K (.ref C_NoAlong) (.type "ValueError") = some true)
    (ko_TooMany_Barred : PySem.W.kitOne K (.ref C_TooMany) (.ref C_Barred) = some false)
    (ko_TooMany_NoAlong : PySem.W.kitOne K (.ref C_TooMany) (.ref C_NoAlong) = some false)
    (ko_TooMany_NoAsk : PySem.W.kitOne K (.ref C_TooMany) (.ref C_NoAsk) = some false)
    (ko_TooMany_NoPaper : PySem.W.kitOne K (.ref C_TooMany) (.ref C_NoPaper) = some false)
    (ko_TooMany_NoRow : PySem.W.kitOne K (.ref C_TooMany) (.ref C_NoRow) = some false)
    (ko_TooMany_NoText : PySem.W.kitOne K (.ref C_TooMany) (.ref C_NoText) = some false)
    (ko_TooMany_NoTie : PySem.W.kitOne K (.ref C_TooMany) (.ref C_NoTie) = some false)
    (ko_TooMany_RimError : PySem.W.kitOne K (.ref C_TooMany) (.ref C_RimError) = some true)
    (ko_TooMany_TooMany : PySem.W.kitOne K (.ref C_TooMany) (.ref C_TooMany) = some true)
    (ko_TooMany_ValueError : PySem.W.kitOne K (.ref C_TooMany) (.type "ValueError") = some true)
    (z_ValueError : PySem.W.nsIn K mainGlobals "ValueError" = some none)
    (no_NoAlong_dart : PySem.W.findIn K (.ref C_NoAlong) "dart" = some none)
    (no_TooMany_word : PySem.W.findIn K (.ref C_TooMany) "word" = some none)
    (lc_NoAlong : K.lookup C_NoAlong = some (excClassObj nm_NoAlong qn_NoAlong C_NoAlong N_NoAlong_ bs_NoAlong bm_NoAlong true sn_NoAlong sub_NoAlong ab_NoAlong col_NoAlong dd_NoAlong k0_NoAlong k1_NoAlong k2_NoAlong k3_NoAlong k5_NoAlong "ValueError.__new__"))
    (rv_NoAlong : PySem.HandSPX.refsVE bm_NoAlong = true)
    (sa_NoAlong : PySem.W.findIn K (.ref C_NoAlong) "__setattr__" = some (some (.builtin "object.__setattr__")))
    (kc_NoAlong : PySem.W.keepIn K (.ref C_NoAlong) = true)
    (ic_NoAlong : PySem.W.findIn K (.ref C_NoAlong) "__init__" = some (some (.ref fi_NoAlong)))
    (ti_NoAlong : PySem.W.typeIn K (.ref fi_NoAlong) = some (.type "function"))
    (li_NoAlong : K.lookup fi_NoAlong = some ⟨oc_NoAlong, od_NoAlong, .func (PySem.W.fnOf "__init__" "NoAlong.__init__" (defArgs si_NoAlong) (defBody si_NoAlong) (defScope si_NoAlong) .none kV_NoAlong dc_NoAlong pm_NoAlong an_NoAlong cd_NoAlong ct_NoAlong), sl_NoAlong⟩)
    (ci_NoAlong : PySem.W.codeIn K cd_NoAlong "NoAlong.__init__" = true)
    (ki_NoAlong : PySem.W.keepIn K (.ref fi_NoAlong) = true)
    (lc_TooMany : K.lookup C_TooMany = some (excClassObj nm_TooMany qn_TooMany C_TooMany N_TooMany_ bs_TooMany bm_TooMany true sn_TooMany sub_TooMany ab_TooMany col_TooMany dd_TooMany k0_TooMany k1_TooMany k2_TooMany k3_TooMany k5_TooMany "ValueError.__new__"))
    (rv_TooMany : PySem.HandSPX.refsVE bm_TooMany = true)
    (sa_TooMany : PySem.W.findIn K (.ref C_TooMany) "__setattr__" = some (some (.builtin "object.__setattr__")))
    (kc_TooMany : PySem.W.keepIn K (.ref C_TooMany) = true)
    (ic_TooMany : PySem.W.findIn K (.ref C_TooMany) "__init__" = some (some (.ref fi_TooMany)))
    (ti_TooMany : PySem.W.typeIn K (.ref fi_TooMany) = some (.type "function"))
    (li_TooMany : K.lookup fi_TooMany = some ⟨oc_TooMany, od_TooMany, .func (PySem.W.fnOf "__init__" "TooMany.__init__" (defArgs si_TooMany) (defBody si_TooMany) (defScope si_TooMany) .none kV_TooMany dc_TooMany pm_TooMany an_TooMany cd_TooMany ct_TooMany), sl_TooMany⟩)
    (ci_TooMany : PySem.W.codeIn K cd_TooMany "TooMany.__init__" = true)
    (ki_TooMany : PySem.W.keepIn K (.ref fi_TooMany) = true)
    (rb_RimError : PySem.W.readsIn K C_RimError (.type "type") = true)
    (gb_RimError : PySem.W.specialIn K (.ref C_RimError) "__getattribute__" = some (some (.builtin "type.__getattribute__")))
    (ib_RimError : PySem.W.findCls K (.ref C_RimError) (.type "type") "__init__" = some (.val (.builtin "ValueError.__init__")))
    {tk_MOST_TIES : Tok} (y_MOST_TIES : PySem.W.nsIn K mainGlobals "MOST_TIES" = some (some (.int 12 tk_MOST_TIES)))
    (z_isinstance : PySem.W.nsIn K mainGlobals "isinstance" = some none)
    (z_len : PySem.W.nsIn K mainGlobals "len" = some none)
    (z_list : PySem.W.nsIn K mainGlobals "list" = some none)
    (z_min : PySem.W.nsIn K mainGlobals "min" = some none)
    (z_range : PySem.W.nsIn K mainGlobals "range" = some none)
    (z_repr : PySem.W.nsIn K mainGlobals "repr" = some none)
    (z_sorted : PySem.W.nsIn K mainGlobals "sorted" = some none)
    (z_sum : PySem.W.nsIn K mainGlobals "sum" = some none)
    (z_tuple : PySem.W.nsIn K mainGlobals "tuple" = some none)
    : ∃ fd : FuncData, (∀ (s : Shared) (v : Value), BindsTo s fd ⟨[v], []⟩ [("_law_script", v)]) ∧ ∀ base : Heap, K.In base → base.Ns mainGlobals mg → FnD l.prog w K mg base 8 fa fd ["_law_script"] d_law := by
  have e := hfa.symm.trans (PySem.W.mg_of X G a28)
  cases e
  have T : Txt mg := ⟨PySem.W.mg_none_of X G z_isinstance, PySem.W.mg_none_of X G z_len, PySem.W.mg_none_of X G z_list, PySem.W.mg_none_of X G z_min, PySem.W.mg_none_of X G z_range, PySem.W.mg_none_of X G z_repr, PySem.W.mg_none_of X G z_sorted, PySem.W.mg_none_of X G z_sum, PySem.W.mg_none_of X G z_tuple, ⟨_, PySem.W.mg_of X G y_MOST_TIES⟩⟩
  have hx_NoAlong : HdX K mg "NoAlong" ["NoAlong"] := ⟨C_NoAlong, PySem.W.mg_of X G g_NoAlong, fun y hy Cy hm => by
    simp only [List.mem_cons, List.not_mem_nil, or_false] at hy
    subst hy
    · have e := hm.symm.trans (PySem.W.mg_of X G g_NoAlong)
      cases e
      exact PySem.W.exm_ref ex_NoAlong hd_NoAlong ty_NoAlong sub_NoAlong_NoAlong⟩
  have hx_TooMany : HdX K mg "TooMany" ["TooMany"] := ⟨C_TooMany, PySem.W.mg_of X G g_TooMany, fun y hy Cy hm => by
    simp only [List.mem_cons, List.not_mem_nil, or_false] at hy
    subst hy
    · have e := hm.symm.trans (PySem.W.mg_of X G g_TooMany)
      cases e
      exact PySem.W.exm_ref ex_TooMany hd_TooMany ty_TooMany sub_TooMany_TooMany⟩
  have hn_NoAlong_TooMany : HnX K mg "NoAlong" ["TooMany"] := ⟨C_NoAlong, PySem.W.mg_of X G g_NoAlong, fun y hy Cy hm => by
    simp only [List.mem_cons, List.not_mem_nil, or_false] at hy
    subst hy
    · have e := hm.symm.trans (PySem.W.mg_of X G g_TooMany)
      cases e
      exact PySem.W.exm_ref ex_NoAlong hd_NoAlong ty_NoAlong sub_TooMany_NoAlong⟩
  have fx_NoAlong_dart : FldX K mg ["NoAlong"] "dart" := ⟨fun y hy Cy hm => by
    simp only [List.mem_cons, List.not_mem_nil, or_false] at hy
    subst hy
    · have e := hm.symm.trans (PySem.W.mg_of X G g_NoAlong)
      cases e
      exact ⟨⟨ga_NoAlong, gg_NoAlong, ex_NoAlong, hd_NoAlong⟩, no_NoAlong_dart⟩⟩
  have fx_TooMany_word : FldX K mg ["TooMany"] "word" := ⟨fun y hy Cy hm => by
    simp only [List.mem_cons, List.not_mem_nil, or_false] at hy
    subst hy
    · have e := hm.symm.trans (PySem.W.mg_of X G g_TooMany)
      cases e
      exact ⟨⟨ga_TooMany, gg_TooMany, ex_TooMany, hd_TooMany⟩, no_TooMany_word⟩⟩
  have ix__law_strange_Barred : IsX K mg "Barred" [("NoAlong", false), ("TooMany", false)] := ⟨.ref C_Barred, .ref C_Barred, rfl, (fun _ e => e), .inl (PySem.W.mg_of X G g_Barred), fun c b hb Cc hm => by
    have hb := PySem.mem_of_lookup hb
    simp only [List.mem_cons, List.not_mem_nil, or_false, Prod.mk.injEq] at hb
    rcases hb with ⟨rfl, rfl⟩ | ⟨rfl, rfl⟩
    · have e := hm.symm.trans (PySem.W.mg_of X G g_NoAlong)
      cases e
      exact ⟨⟨⟨ga_NoAlong, gg_NoAlong, ex_NoAlong, hd_NoAlong⟩, ca_NoAlong, ob_NoAlong, gs_, tk_⟩, ko_NoAlong_Barred⟩
    · have e := hm.symm.trans (PySem.W.mg_of X G g_TooMany)
      cases e
      exact ⟨⟨⟨ga_TooMany, gg_TooMany, ex_TooMany, hd_TooMany⟩, ca_TooMany, ob_TooMany, gs_, tk_⟩, ko_TooMany_Barred⟩⟩
  have ix__law_strange_NoAlong : IsX K mg "NoAlong" [("NoAlong", true), ("TooMany", false)] := ⟨.ref C_NoAlong, .ref C_NoAlong, rfl, (fun _ e => e), .inl (PySem.W.mg_of X G g_NoAlong), fun c b hb Cc hm => by
    have hb := PySem.mem_of_lookup hb
    simp only [List.mem_cons, List.not_mem_nil, or_false, Prod.mk.injEq] at hb
    rcases hb with ⟨rfl, rfl⟩ | ⟨rfl, rfl⟩
    · have e := hm.symm.trans (PySem.W.mg_of X G g_NoAlong)
      cases e
      exact ⟨⟨⟨ga_NoAlong, gg_NoAlong, ex_NoAlong, hd_NoAlong⟩, ca_NoAlong, ob_NoAlong, gs_, tk_⟩, ko_NoAlong_NoAlong⟩
    · have e := hm.symm.trans (PySem.W.mg_of X G g_TooMany)
      cases e
      exact ⟨⟨⟨ga_TooMany, gg_TooMany, ex_TooMany, hd_TooMany⟩, ca_TooMany, ob_TooMany, gs_, tk_⟩, ko_TooMany_NoAlong⟩⟩
  have ix__law_strange_NoAsk : IsX K mg "NoAsk" [("NoAlong", false), ("TooMany", false)] := ⟨.ref C_NoAsk, .ref C_NoAsk, rfl, (fun _ e => e), .inl (PySem.W.mg_of X G g_NoAsk), fun c b hb Cc hm => by
    have hb := PySem.mem_of_lookup hb
    simp only [List.mem_cons, List.not_mem_nil, or_false, Prod.mk.injEq] at hb
    rcases hb with ⟨rfl, rfl⟩ | ⟨rfl, rfl⟩
    · have e := hm.symm.trans (PySem.W.mg_of X G g_NoAlong)
      cases e
      exact ⟨⟨⟨ga_NoAlong, gg_NoAlong, ex_NoAlong, hd_NoAlong⟩, ca_NoAlong, ob_NoAlong, gs_, tk_⟩, ko_NoAlong_NoAsk⟩
    · have e := hm.symm.trans (PySem.W.mg_of X G g_TooMany)
      cases e
      exact ⟨⟨⟨ga_TooMany, gg_TooMany, ex_TooMany, hd_TooMany⟩, ca_TooMany, ob_TooMany, gs_, tk_⟩, ko_TooMany_NoAsk⟩⟩
  have ix__law_strange_NoPaper : IsX K mg "NoPaper" [("NoAlong", false), ("TooMany", false)] := ⟨.ref C_NoPaper, .ref C_NoPaper, rfl, (fun _ e => e), .inl (PySem.W.mg_of X G g_NoPaper), fun c b hb Cc hm => by
    have hb := PySem.mem_of_lookup hb
    simp only [List.mem_cons, List.not_mem_nil, or_false, Prod.mk.injEq] at hb
    rcases hb with ⟨rfl, rfl⟩ | ⟨rfl, rfl⟩
    · have e := hm.symm.trans (PySem.W.mg_of X G g_NoAlong)
      cases e
      exact ⟨⟨⟨ga_NoAlong, gg_NoAlong, ex_NoAlong, hd_NoAlong⟩, ca_NoAlong, ob_NoAlong, gs_, tk_⟩, ko_NoAlong_NoPaper⟩
    · have e := hm.symm.trans (PySem.W.mg_of X G g_TooMany)
      cases e
      exact ⟨⟨⟨ga_TooMany, gg_TooMany, ex_TooMany, hd_TooMany⟩, ca_TooMany, ob_TooMany, gs_, tk_⟩, ko_TooMany_NoPaper⟩⟩
  have ix__law_strange_NoRow : IsX K mg "NoRow" [("NoAlong", false), ("TooMany", false)] := ⟨.ref C_NoRow, .ref C_NoRow, rfl, (fun _ e => e), .inl (PySem.W.mg_of X G g_NoRow), fun c b hb Cc hm => by
    have hb := PySem.mem_of_lookup hb
    simp only [List.mem_cons, List.not_mem_nil, or_false, Prod.mk.injEq] at hb
    rcases hb with ⟨rfl, rfl⟩ | ⟨rfl, rfl⟩
    · have e := hm.symm.trans (PySem.W.mg_of X G g_NoAlong)
      cases e
      exact ⟨⟨⟨ga_NoAlong, gg_NoAlong, ex_NoAlong, hd_NoAlong⟩, ca_NoAlong, ob_NoAlong, gs_, tk_⟩, ko_NoAlong_NoRow⟩
    · have e := hm.symm.trans (PySem.W.mg_of X G g_TooMany)
      cases e
      exact ⟨⟨⟨ga_TooMany, gg_TooMany, ex_TooMany, hd_TooMany⟩, ca_TooMany, ob_TooMany, gs_, tk_⟩, ko_TooMany_NoRow⟩⟩
  have ix__law_strange_NoText : IsX K mg "NoText" [("NoAlong", false), ("TooMany", false)] := ⟨.ref C_NoText, .ref C_NoText, rfl, (fun _ e => e), .inl (PySem.W.mg_of X G g_NoText), fun c b hb Cc hm => by
    have hb := PySem.mem_of_lookup hb
    simp only [List.mem_cons, List.not_mem_nil, or_false, Prod.mk.injEq] at hb
    rcases hb with ⟨rfl, rfl⟩ | ⟨rfl, rfl⟩
    · have e := hm.symm.trans (PySem.W.mg_of X G g_NoAlong)
      cases e
      exact ⟨⟨⟨ga_NoAlong, gg_NoAlong, ex_NoAlong, hd_NoAlong⟩, ca_NoAlong, ob_NoAlong, gs_, tk_⟩, ko_NoAlong_NoText⟩
    · have e := hm.symm.trans (PySem.W.mg_of X G g_TooMany)
      cases e
      exact ⟨⟨⟨ga_TooMany, gg_TooMany, ex_TooMany, hd_TooMany⟩, ca_TooMany, ob_TooMany, gs_, tk_⟩, ko_TooMany_NoText⟩⟩
  have ix__law_strange_NoTie : IsX K mg "NoTie" [("NoAlong", false), ("TooMany", false)] := ⟨.ref C_NoTie, .ref C_NoTie, rfl, (fun _ e => e), .inl (PySem.W.mg_of X G g_NoTie), fun c b hb Cc hm => by
    have hb := PySem.mem_of_lookup hb
    simp only [List.mem_cons, List.not_mem_nil, or_false, Prod.mk.injEq] at hb
    rcases hb with ⟨rfl, rfl⟩ | ⟨rfl, rfl⟩
    · have e := hm.symm.trans (PySem.W.mg_of X G g_NoAlong)
      cases e
      exact ⟨⟨⟨ga_NoAlong, gg_NoAlong, ex_NoAlong, hd_NoAlong⟩, ca_NoAlong, ob_NoAlong, gs_, tk_⟩, ko_NoAlong_NoTie⟩
    · have e := hm.symm.trans (PySem.W.mg_of X G g_TooMany)
      cases e
      exact ⟨⟨⟨ga_TooMany, gg_TooMany, ex_TooMany, hd_TooMany⟩, ca_TooMany, ob_TooMany, gs_, tk_⟩, ko_TooMany_NoTie⟩⟩
  have ix__law_strange_RimError : IsX K mg "RimError" [("NoAlong", true), ("TooMany", true)] := ⟨.ref C_RimError, .ref C_RimError, rfl, (fun _ e => e), .inl (PySem.W.mg_of X G g_RimError), fun c b hb Cc hm => by
    have hb := PySem.mem_of_lookup hb
    simp only [List.mem_cons, List.not_mem_nil, or_false, Prod.mk.injEq] at hb
    rcases hb with ⟨rfl, rfl⟩ | ⟨rfl, rfl⟩
    · have e := hm.symm.trans (PySem.W.mg_of X G g_NoAlong)
      cases e
      exact ⟨⟨⟨ga_NoAlong, gg_NoAlong, ex_NoAlong, hd_NoAlong⟩, ca_NoAlong, ob_NoAlong, gs_, tk_⟩, ko_NoAlong_RimError⟩
    · have e := hm.symm.trans (PySem.W.mg_of X G g_TooMany)
      cases e
      exact ⟨⟨⟨ga_TooMany, gg_TooMany, ex_TooMany, hd_TooMany⟩, ca_TooMany, ob_TooMany, gs_, tk_⟩, ko_TooMany_RimError⟩⟩
  have ix__law_strange_TooMany : IsX K mg "TooMany" [("NoAlong", false), ("TooMany", true)] := ⟨.ref C_TooMany, .ref C_TooMany, rfl, (fun _ e => e), .inl (PySem.W.mg_of X G g_TooMany), fun c b hb Cc hm => by
    have hb := PySem.mem_of_lookup hb
    simp only [List.mem_cons, List.not_mem_nil, or_false, Prod.mk.injEq] at hb
    rcases hb with ⟨rfl, rfl⟩ | ⟨rfl, rfl⟩
    · have e := hm.symm.trans (PySem.W.mg_of X G g_NoAlong)
      cases e
      exact ⟨⟨⟨ga_NoAlong, gg_NoAlong, ex_NoAlong, hd_NoAlong⟩, ca_NoAlong, ob_NoAlong, gs_, tk_⟩, ko_NoAlong_TooMany⟩
    · have e := hm.symm.trans (PySem.W.mg_of X G g_TooMany)
      cases e
      exact ⟨⟨⟨ga_TooMany, gg_TooMany, ex_TooMany, hd_TooMany⟩, ca_TooMany, ob_TooMany, gs_, tk_⟩, ko_TooMany_TooMany⟩⟩
  have ix__law_strange_ValueError : IsX K mg "ValueError" [("NoAlong", true), ("TooMany", true)] := ⟨.ty "ValueError", .type "ValueError", rfl, (fun _ e => e), .inr ⟨PySem.W.mg_none_of X G z_ValueError, by decide +kernel, by decide⟩, fun c b hb Cc hm => by
    have hb := PySem.mem_of_lookup hb
    simp only [List.mem_cons, List.not_mem_nil, or_false, Prod.mk.injEq] at hb
    rcases hb with ⟨rfl, rfl⟩ | ⟨rfl, rfl⟩
    · have e := hm.symm.trans (PySem.W.mg_of X G g_NoAlong)
      cases e
      exact ⟨⟨⟨ga_NoAlong, gg_NoAlong, ex_NoAlong, hd_NoAlong⟩, ca_NoAlong, ob_NoAlong, gs_, tk_⟩, ko_NoAlong_ValueError⟩
    · have e := hm.symm.trans (PySem.W.mg_of X G g_TooMany)
      cases e
      exact ⟨⟨⟨ga_TooMany, gg_TooMany, ex_TooMany, hd_TooMany⟩, ca_TooMany, ob_TooMany, gs_, tk_⟩, ko_TooMany_ValueError⟩⟩
  have M_NoAlong : ∀ base, MkX l.prog w K mg base "NoAlong" ["dart"] := fun base => mk_NoAlong (C := C_NoAlong) ⟨PySem.W.mg_of X G g_NoAlong, ⟨⟨_, _, _, _, _, _, _, _, _, _, _, _, _, _, _, lc_NoAlong, rv_NoAlong⟩, sa_NoAlong, ex_NoAlong, ty_NoAlong, kc_NoAlong⟩, ⟨ga_NoAlong, gg_NoAlong, ex_NoAlong, hd_NoAlong⟩, ic_NoAlong, ti_NoAlong⟩ ⟨PySem.W.mg_of X G g_RimError, ⟨rb_RimError, gb_RimError⟩, ib_RimError⟩ no_NoAlong_dart (fun_mk (st := si_NoAlong) li_NoAlong ci_NoAlong ki_NoAlong)
  have M_TooMany : ∀ base, MkX l.prog w K mg base "TooMany" ["word"] := fun base => mk_TooMany (C := C_TooMany) ⟨PySem.W.mg_of X G g_TooMany, ⟨⟨_, _, _, _, _, _, _, _, _, _, _, _, _, _, _, lc_TooMany, rv_TooMany⟩, sa_TooMany, ex_TooMany, ty_TooMany, kc_TooMany⟩, ⟨ga_TooMany, gg_TooMany, ex_TooMany, hd_TooMany⟩, ic_TooMany, ti_TooMany⟩ ⟨PySem.W.mg_of X G g_RimError, ⟨rb_RimError, gb_RimError⟩, ib_RimError⟩ no_TooMany_word (fun_mk (st := si_TooMany) li_TooMany ci_TooMany ki_TooMany)
  have G0 : ∀ base, DefOk l.prog w K mg base "darts_in_rows" 1 p_darts_in_rows d_darts_in_rows := fun base => ok_darts_in_rows (fun_mk (st := s_darts_in_rows) l0 c0 k0) (PySem.W.mg_of X G a0) T 
  have G1 : ∀ base, DefOk l.prog w K mg base "begun_rows" 1 p_begun_rows d_begun_rows := fun base => ok_begun_rows (fun_mk (st := s_begun_rows) l1 c1 k1) (PySem.W.mg_of X G a1) T 
  have G2 : ∀ base, DefOk l.prog w K mg base "ties_in" 2 p_ties_in d_ties_in := fun base => ok_ties_in (fun_mk (st := s_ties_in) l2 c2 k2) (PySem.W.mg_of X G a2) T (G0 base)
  have G3 : ∀ base, DefOk l.prog w K mg base "other_of" 1 p_other_of d_other_of := fun base => ok_other_of (fun_mk (st := s_other_of) l3 c3 k3) (PySem.W.mg_of X G a3) T 
  have G4 : ∀ base, DefOk l.prog w K mg base "place_of" 1 p_place_of d_place_of := fun base => ok_place_of (fun_mk (st := s_place_of) l4 c4 k4) (PySem.W.mg_of X G a4) T 
  have G5 : ∀ base, DefOk l.prog w K mg base "next_around" 2 p_next_around d_next_around := fun base => ok_next_around (fun_mk (st := s_next_around) l5 c5 k5) (PySem.W.mg_of X G a5) T (G4 base)
  have G6 : ∀ base, DefOk l.prog w K mg base "next_along" 3 p_next_along d_next_along := fun base => ok_next_along (fun_mk (st := s_next_along) l6 c6 k6) (PySem.W.mg_of X G a6) T (G5 base) (G3 base)
  have G7 : ∀ base, DefOk l.prog w K mg base "part_from" 2 p_part_from d_part_from := fun base => ok_part_from (fun_mk (st := s_part_from) l7 c7 k7) (PySem.W.mg_of X G a7) T (G4 base) (G3 base)
  have G8 : ∀ base, DefOk l.prog w K mg base "parts_of" 3 p_parts_of d_parts_of := fun base => ok_parts_of (fun_mk (st := s_parts_of) l8 c8 k8) (PySem.W.mg_of X G a8) T (G7 base)
  have G9 : ∀ base, DefOk l.prog w K mg base "faces" 4 p_faces d_faces := fun base => ok_faces (fun_mk (st := s_faces) l9 c9 k9) (PySem.W.mg_of X G a9) T (G2 base) (G6 base)
  have G10 : ∀ base, DefOk l.prog w K mg base "face_of" 5 p_face_of d_face_of := fun base => ok_face_of (fun_mk (st := s_face_of) l10 c10 k10) (PySem.W.mg_of X G a10) T (G9 base)
  have G11 : ∀ base, DefOk l.prog w K mg base "handles" 5 p_handles d_handles := fun base => ok_handles (fun_mk (st := s_handles) l11 c11 k11) (PySem.W.mg_of X G a11) T (G8 base) (G2 base) (G9 base)
  have G12 : ∀ base, DefOk l.prog w K mg base "is_flat" 6 p_is_flat d_is_flat := fun base => ok_is_flat (fun_mk (st := s_is_flat) l12 c12 k12) (PySem.W.mg_of X G a12) T (G8 base) (G11 base)
  have G13 : ∀ base, DefX l.prog w K mg base "hold_room" 3 p_hold_room d_hold_room := fun base => ok_hold_room (fun_mk (st := s_hold_room) l13 c13 k13) (PySem.W.mg_of X G a13) T (G2 base) (M_TooMany base)
  have G14 : ∀ base, DefOk l.prog w K mg base "put_ahead" 1 p_put_ahead d_put_ahead := fun base => ok_put_ahead (fun_mk (st := s_put_ahead) l14 c14 k14) (PySem.W.mg_of X G a14) T 
  have G15 : ∀ base, DefX l.prog w K mg base "drawn_in" 6 p_drawn_in d_drawn_in := fun base => ok_drawn_in (fun_mk (st := s_drawn_in) l15 c15 k15) (PySem.W.mg_of X G a15) T (G1 base) (G14 base) (G2 base) (G10 base) (G13 base) (M_NoAlong base)
  have G16 : ∀ base, DefOk l.prog w K mg base "_law_feed" 1 p__law_feed d__law_feed := fun base => ok__law_feed (fun_mk (st := s__law_feed) l16 c16 k16) (PySem.W.mg_of X G a16) T 
  have G17 : ∀ base, DefOk l.prog w K mg base "_law_draw" 1 p__law_draw d__law_draw := fun base => ok__law_draw (fun_mk (st := s__law_draw) l17 c17 k17) (PySem.W.mg_of X G a17) T 
  have G18 : ∀ base, DefOk l.prog w K mg base "_law_begun" 1 p__law_begun d__law_begun := fun base => ok__law_begun (fun_mk (st := s__law_begun) l18 c18 k18) (PySem.W.mg_of X G a18) T 
  have G19 : ∀ base, DefOk l.prog w K mg base "_law_behind" 1 p__law_behind d__law_behind := fun base => ok__law_behind (fun_mk (st := s__law_behind) l19 c19 k19) (PySem.W.mg_of X G a19) T 
  have G20 : ∀ base, DefOk l.prog w K mg base "_law_ring" 2 p__law_ring d__law_ring := fun base => ok__law_ring (fun_mk (st := s__law_ring) l20 c20 k20) (PySem.W.mg_of X G a20) T (G19 base)
  have G21 : ∀ base, DefOk l.prog w K mg base "_law_turn" 2 p__law_turn d__law_turn := fun base => ok__law_turn (fun_mk (st := s__law_turn) l21 c21 k21) (PySem.W.mg_of X G a21) T (G17 base)
  have G22 : ∀ base, DefOk l.prog w K mg base "_law_called" 2 p__law_called d__law_called := fun base => ok__law_called (fun_mk (st := s__law_called) l22 c22 k22) (PySem.W.mg_of X G a22) T (G18 base)
  have G23 : ∀ base, DefOk l.prog w K mg base "_law_put" 1 p__law_put d__law_put := fun base => ok__law_put (fun_mk (st := s__law_put) l23 c23 k23) (PySem.W.mg_of X G a23) T 
  have G24 : ∀ base, DefOk l.prog w K mg base "_law_flat_web" 3 p__law_flat_web d__law_flat_web := fun base => ok__law_flat_web (fun_mk (st := s__law_flat_web) l24 c24 k24) (PySem.W.mg_of X G a24) T (G22 base) (G21 base) (G17 base) (G23 base) (G20 base)
  have G25 : ∀ base, DefE l.prog w K mg base "_law_strange" 1 p__law_strange ["NoAlong", "TooMany"] d__law_strange := fun base => ok__law_strange (fun_mk (st := s__law_strange) l25 c25 k25) (PySem.W.mg_of X G a25) T ix__law_strange_RimError ix__law_strange_ValueError ix__law_strange_NoRow ix__law_strange_TooMany ix__law_strange_Barred ix__law_strange_NoText ix__law_strange_NoAsk ix__law_strange_NoTie ix__law_strange_NoAlong ix__law_strange_NoPaper
  have G26 : ∀ base, DefOk l.prog w K mg base "_law_told" 7 p__law_told d__law_told := fun base => ok__law_told (fun_mk (st := s__law_told) l26 c26 k26) (PySem.W.mg_of X G a26) T (G15 base) (G25 base) hx_NoAlong hx_TooMany hn_NoAlong_TooMany fx_NoAlong_dart fx_TooMany_word
  have G27 : ∀ base, DefOk l.prog w K mg base "_law_due" 3 p__law_due d__law_due := fun base => ok__law_due (fun_mk (st := s__law_due) l27 c27 k27) (PySem.W.mg_of X G a27) T (G18 base) (G23 base) (G20 base)
  exact ⟨_, fun s v => .of_eq (by rfl), fun base _ _ => fn_law (fun_mk (st := s_law) l28 c28 k28) T (G9 base) (G12 base) (G26 base) (G27 base) (G17 base) (G20 base) (G24 base) (G16 base)⟩
end K11
open PySem PySem.W PyProof.Rows
set_option maxRecDepth 100000 in
set_option maxHeartbeats 0 in
theorem PySem.Challenge.cw_rimasks_k11_drawn_in_holds : PySem.Challenge.rw_rimasks_k11_drawn_in.Holds := by
  w_on; o_law; k_head; (case hw => w_witness2)
  k_fill
  refine DL.law_end (l := PySem.Challenge.rw_rimasks_k11_drawn_in) (n := 63) (k := 8) (x := "_law_script") (den := K11.d_law) ⟨rfl, by decide, rfl, ⟨rfl, by decide, by decide⟩, ?F, K11.law_true⟩ fun w h Y => PySem.W.kIn_of Y
  case F =>
    intro w mg fa h KX G hmg
    refine' K11.all_mk KX G hmg ?a0 ?l0 ?c0 ?k0 ?a1 ?l1 ?c1 ?k1 ?a2 ?l2 ?c2 ?k2 ?a3 ?l3 ?c3 ?k3 ?a4 ?l4 ?c4 ?k4 ?a5 ?l5 ?c5 ?k5 ?a6 ?l6 ?c6 ?k6 ?a7 ?l7 ?c7 ?k7 ?a8 ?l8 ?c8 ?k8 ?a9 ?l9 ?c9 ?k9 ?a10 ?l10 ?c10 ?k10 ?a11 ?l11 ?c11 ?k11 ?a12 ?l12 ?c12 ?k12 ?a13 ?l13 ?c13 ?k13 ?a14 ?l14 ?c14 ?k14 ?a15 ?l15 ?c15 ?k15 ?a16 ?l16 ?c16 ?k16 ?a17 ?l17 ?c17 ?k17 ?a18 ?l18 ?c18 ?k18 ?a19 ?l19 ?c19 ?k19 ?a20 ?l20 ?c20 ?k20 ?a21 ?l21 ?c21 ?k21 ?a22 ?l22 ?c22 ?k22 ?a23 ?l23 ?c23 ?k23 ?a24 ?l24 ?c24 ?k24 ?a25 ?l25 ?c25 ?k25 ?a26 ?l26 ?c26 ?k26 ?a27 ?l27 ?c27 ?k27 ?a28 ?l28 ?c28 ?k28 ?g_Barred ?g_NoAlong ?g_NoAsk ?g_NoPaper ?g_NoRow ?g_NoText ?g_NoTie ?g_RimError ?g_TooMany ?ex_NoAlong ?hd_NoAlong ?ty_NoAlong ?ex_TooMany ?hd_TooMany ?ty_TooMany ?ga_NoAlong ?gg_NoAlong ?ga_TooMany ?gg_TooMany ?sub_NoAlong_NoAlong ?sub_TooMany_TooMany ?sub_TooMany_NoAlong ?gs_ ?tk_ ?ca_NoAlong ?ob_NoAlong ?ca_TooMany ?ob_TooMany ?ko_NoAlong_Barred ?ko_NoAlong_NoAlong ?ko_NoAlong_NoAsk ?ko_NoAlong_NoPaper ?ko_NoAlong_NoRow ?ko_NoAlong_NoText ?ko_NoAlong_NoTie ?ko_NoAlong_RimError ?ko_NoAlong_TooMany ?ko_NoAlong_ValueError ?ko_TooMany_Barred ?ko_TooMany_NoAlong ?ko_TooMany_NoAsk ?ko_TooMany_NoPaper ?ko_TooMany_NoRow ?ko_TooMany_NoText ?ko_TooMany_NoTie ?ko_TooMany_RimError ?ko_TooMany_TooMany ?ko_TooMany_ValueError ?z_ValueError ?no_NoAlong_dart ?no_TooMany_word ?lc_NoAlong ?rv_NoAlong ?sa_NoAlong ?kc_NoAlong ?ic_NoAlong ?ti_NoAlong ?li_NoAlong ?ci_NoAlong ?ki_NoAlong ?lc_TooMany ?rv_TooMany ?sa_TooMany ?kc_TooMany ?ic_TooMany ?ti_TooMany ?li_TooMany ?ci_TooMany ?ki_TooMany ?rb_RimError ?gb_RimError ?ib_RimError ?y_MOST_TIES ?z_isinstance ?z_len ?z_list ?z_min ?z_range ?z_repr ?z_sorted ?z_sum ?z_tuple
    (case a0 => k_is)
    (case l0 => k_is)
    (case c0 => k_is)
    (case k0 => k_is)
    (case a1 => k_is)
    (case l1 => k_is)
    (case c1 => k_is)
    (case k1 => k_is)
    (case a2 => k_is)
    (case l2 => k_is)
    (case c2 => k_is)
    (case k2 => k_is)
    (case a3 => k_is)
    (case l3 => k_is)
    (case c3 => k_is)
    (case k3 => k_is)
    (case a4 => k_is)
    (case l4 => k_is)
    (case c4 => k_is)
    (case k4 => k_is)
    (case a5 => k_is)
    (case l5 => k_is)
    (case c5 => k_is)
    (case k5 => k_is)
    (case a6 => k_is)
    (case l6 => k_is)
    (case c6 => k_is)
    (case k6 => k_is)
    (case a7 => k_is)
    (case l7 => k_is)
    (case c7 => k_is)
    (case k7 => k_is)
    (case a8 => k_is)
    (case l8 => k_is)
    (case c8 => k_is)
    (case k8 => k_is)
    (case a9 => k_is)
    (case l9 => k_is)
    (case c9 => k_is)
    (case k9 => k_is)
    (case a10 => k_is)
    (case l10 => k_is)
    (case c10 => k_is)
    (case k10 => k_is)
    (case a11 => k_is)
    (case l11 => k_is)
    (case c11 => k_is)
    (case k11 => k_is)
    (case a12 => k_is)
    (case l12 => k_is)
    (case c12 => k_is)
    (case k12 => k_is)
    (case a13 => k_is)
    (case l13 => k_is)
    (case c13 => k_is)
    (case k13 => k_is)
    (case a14 => k_is)
    (case l14 => k_is)
    (case c14 => k_is)
    (case k14 => k_is)
    (case a15 => k_is)
    (case l15 => k_is)
    (case c15 => k_is)
    (case k15 => k_is)
    (case a16 => k_is)
    (case l16 => k_is)
    (case c16 => k_is)
    (case k16 => k_is)
    (case a17 => k_is)
    (case l17 => k_is)
    (case c17 => k_is)
    (case k17 => k_is)
    (case a18 => k_is)
    (case l18 => k_is)
    (case c18 => k_is)
    (case k18 => k_is)
    (case a19 => k_is)
    (case l19 => k_is)
    (case c19 => k_is)
    (case k19 => k_is)
    (case a20 => k_is)
    (case l20 => k_is)
    (case c20 => k_is)
    (case k20 => k_is)
    (case a21 => k_is)
    (case l21 => k_is)
    (case c21 => k_is)
    (case k21 => k_is)
    (case a22 => k_is)
    (case l22 => k_is)
    (case c22 => k_is)
    (case k22 => k_is)
    (case a23 => k_is)
    (case l23 => k_is)
    (case c23 => k_is)
    (case k23 => k_is)
    (case a24 => k_is)
    (case l24 => k_is)
    (case c24 => k_is)
    (case k24 => k_is)
    (case a25 => k_is)
    (case l25 => k_is)
    (case c25 => k_is)
    (case k25 => k_is)
    (case a26 => k_is)
    (case l26 => k_is)
    (case c26 => k_is)
    (case k26 => k_is)
    (case a27 => k_is)
    (case l27 => k_is)
    (case c27 => k_is)
    (case k27 => k_is)
    (case a28 => k_is)
    (case l28 => k_is)
    (case c28 => k_is)
    (case k28 => k_is)
    (case g_Barred => k_is)
    (case g_NoAlong => k_is)
    (case g_NoAsk => k_is)
    (case g_NoPaper => k_is)
    (case g_NoRow => k_is)
    (case g_NoText => k_is)
    (case g_NoTie => k_is)
    (case g_RimError => k_is)
    (case g_TooMany => k_is)
    (case ex_NoAlong => k_is)
    (case hd_NoAlong => k_is)
    (case ty_NoAlong => k_is)
    (case ex_TooMany => k_is)
    (case hd_TooMany => k_is)
    (case ty_TooMany => k_is)
    (case ga_NoAlong => k_is)
    (case gg_NoAlong => k_is)
    (case ga_TooMany => k_is)
    (case gg_TooMany => k_is)
    (case sub_NoAlong_NoAlong => first | rfl | k_is)
    (case sub_TooMany_TooMany => first | rfl | k_is)
    (case sub_TooMany_NoAlong => first | rfl | k_is)
    (case gs_ => k_is)
    (case tk_ => k_is)
    (case ca_NoAlong => k_is)
    (case ob_NoAlong => k_is)
    (case ca_TooMany => k_is)
    (case ob_TooMany => k_is)
    (case ko_NoAlong_Barred => first | rfl | kit_is)
    (case ko_NoAlong_NoAlong => first | rfl | kit_is)
    (case ko_NoAlong_NoAsk => first | rfl | kit_is)
    (case ko_NoAlong_NoPaper => first | rfl | kit_is)
    (case ko_NoAlong_NoRow => first | rfl | kit_is)
    (case ko_NoAlong_NoText => first | rfl | kit_is)
    (case ko_NoAlong_NoTie => first | rfl | kit_is)
    (case ko_NoAlong_RimError => first | rfl | kit_is)
    (case ko_NoAlong_TooMany => first | rfl | kit_is)
    (case ko_NoAlong_ValueError => first | rfl | kit_is)
    (case ko_TooMany_Barred => first | rfl | kit_is)
    (case ko_TooMany_NoAlong => first | rfl | kit_is)
    (case ko_TooMany_NoAsk => first | rfl | kit_is)
    (case ko_TooMany_NoPaper => first | rfl | kit_is)
    (case ko_TooMany_NoRow => first | rfl | kit_is)
    (case ko_TooMany_NoText => first | rfl | kit_is)
    (case ko_TooMany_NoTie => first | rfl | kit_is)
    (case ko_TooMany_RimError => first | rfl | kit_is)
    (case ko_TooMany_TooMany => first | rfl | kit_is)
    (case ko_TooMany_ValueError => first | rfl | kit_is)
    (case z_ValueError => k_is)
    (case no_NoAlong_dart => k_is)
    (case no_TooMany_word => k_is)
    (case lc_NoAlong => k_is)
    (case rv_NoAlong => decide +kernel)
    (case sa_NoAlong => k_is)
    (case kc_NoAlong => k_is)
    (case ic_NoAlong => k_is)
    (case ti_NoAlong => k_is)
    (case li_NoAlong => k_is)
    (case ci_NoAlong => k_is)
    (case ki_NoAlong => k_is)
    (case lc_TooMany => k_is)
    (case rv_TooMany => decide +kernel)
    (case sa_TooMany => k_is)
    (case kc_TooMany => k_is)
    (case ic_TooMany => k_is)
    (case ti_TooMany => k_is)
    (case li_TooMany => k_is)
    (case ci_TooMany => k_is)
    (case ki_TooMany => k_is)
    (case rb_RimError => k_is)
    (case gb_RimError => k_is)
    (case ib_RimError => k_is)
    (case y_MOST_TIES => k_is)
    (case z_isinstance => k_is)
    (case z_len => k_is)
    (case z_list => k_is)
    (case z_min => k_is)
    (case z_range => k_is)
    (case z_repr => k_is)
    (case z_sorted => k_is)
    (case z_sum => k_is)
    (case z_tuple => k_is)
